import PyProof.Rows.All
import Wide.All
import OpenK.AllK
import Wide.FinOn
import HandS.ForMost
import HandS.ForExc
import HandS.Wide
import HandS.TupAny
import HandS.TupMul
import HandS.Style
import HandS.Deep
import HandS.Gcd
import HandS.IsInst
import HandS.SortInts
import HandS.WideBits
import HandS.RaiseMore
import HandS.Zip
import KE.KDictZip
import PyProof.ReprRoads
import PyProof.CallFns
import KE.GoesEnum
import KE.GoesMore
import HandS.Conv
import HandS.More
import KE.KExcSuper
import KE.KExcIs
import HandS.TryMany
import HandS.ExcIs
import HandS.ExcField
import HandS.Small
import HandS.Words
import HandS.Defaults
import HandS.Ends
import PySem.Challenge.RW_gridfields_k01_whole_points_and_frames
set_option Elab.async false
set_option linter.all false
set_option maxRecDepth 100000
/-! Core: a small syntax over slots, and what it computes, over plain data. -/
namespace G
open PySem

abbrev D := PyData
/-- the token for the law's own random state -/
def JAR : D := .dict [(.none, .none)]
/-- what an expression gives: plain data; a new list that nobody holds; the list that a slot owns -/
inductive Rz where
  | val (d : D) | new (ds : List D) | sl (i : Nat)
/-- a slot: empty; plain data; a list that it owns; a list of the law's random state -/
inductive Slot where
  | un | fz (d : D) | ow (ds : List D) | al (k : Sum Int Str)
/-- a list of the law's random state: where it is read -/
inductive Src where
  | fld (i : Nat) (k : Sum Int Str) | al (i : Nat)
/-- what the law's own random state holds: whole numbers, lists of them -/
abbrev Gh := List (Sum Int Str × D)
/-- the slots, and what the law's random state holds -/
structure En where
  s : List Slot
  g : Gh
def En.set (r : En) (i : Nat) (x : Slot) : En := { r with s := r.s.set i x }
def En.length (r : En) : Nat := r.s.length
def En.at (r : En) (g : Gh) : En := { r with g := g }
theorem En.length_set {r : En} {i : Nat} {x : Slot} : (r.set i x).length = r.length := List.length_set
def rd (r : En) (i : Nat) : Slot := r.s.getD i .un
structure Exn where
  cls : Nat
  arg : Option (Str × D)

inductive BO where | add | sub | mul | fdiv | mod | pow
inductive CO where | eq | ne | lt | le | gt | ge | isin | notin
inductive BI where | len | abs | min2 | max2 | min1 | max1 | sum | sorted | list | tuple | int | bool | repr | all | any | divmod | gcd | isTuple | isInt | isBool | isStr | isList | str

mutual
inductive Tg where
  | v (i : Nat) | t (ts : Tgs)
inductive Tgs where
  | nil | cons (t : Tg) (ts : Tgs)
end
mutual
inductive Ex where
  | v (i : Nat) | i (n : Int) | b (x : Bool) | n | s (x : Str) | g (x : Str) (n : Int)
  | tup (es : Exs) | lst (es : Exs)
  | bin (o : BO) (a b : Ex) | neg (a : Ex) | nt (a : Ex)
  | cmp (o : CO) (a b : Ex) | chain (o p : CO) (a b c : Ex) | isN (a : Ex) | notN (a : Ex)
  | and (a b : Ex) | or (a b : Ex) | ite (t : Ts) (a b : Ex)
  | ix (a i : Ex) | cut (a : Ex) (lo hi : Op) | rev (a : Ex)
  | call (f : Nat) (es : Exs) | callk (f : Nat) (es ks : Exs) (ps : List Nat)
  | bi (k : BI) (es : Exs)
  | comp (e : Ex) (t : Tg) (w : It) (c : Ts) (own : List (Str × Nat))
  | pop (i : Nat) | popA (i : Nat) (n : Int)
  | jg (i : Nat) (k : Sum Int Str) | jn (s : Src) | jp (s : Src) (b : Bool)
  | scut (i : Nat) (n : Int) | slen (i : Nat) | stp (a : Ex) (lo k : Nat)
  | calld (f : Nat) (es : Exs) (ns : List Int) | lw (w : It) | dct0
/-- tests -/
inductive Ts where
  | yes | and (a b : Ts) | or (a b : Ts) | nt (a : Ts) | e (a : Ex)
inductive Exs where
  | nil | cons (e : Ex) (es : Exs)
inductive Op where
  | no | so (e : Ex)
inductive It where
  | e (a : Ex) | r1 (a : Ex) | r2 (a b : Ex) | en (a : Ex) | zip (a b : Ex)
end
mutual
inductive St where
  | set (i : Nat) (e : Ex) | par (is : List Nat) (es : Exs) | unp (t : Tg) (e : Ex)
  | ret (e : Ex) | retN | drop (e : Ex)
  | ifs (t : Ts) (a b : Sts) | whl (t : Ts) (b : Sts) | fr (t : Tg) (w : It) (b : Sts)
  | app (i : Nat) (e : Ex) | ext (i : Nat) (e : Ex) | ins (i : Nat) (a e : Ex) | put (i : Nat) (a e : Ex)
  | ja (s : Src) (e : Ex) | ji (s : Src) (e : Ex) | js (i : Nat) (k : Sum Int Str) (e : Ex) | jl (j i : Nat) (k : Sum Int Str)
  | rais (c : Nat) (f : Option Str) (es : Exs) | pass | brk | cont | bomb
  | tri (b : Sts) (hs : Hds)
inductive Sts where
  | nil | cons (s : St) (ss : Sts)
/-- except clauses: the class, the slot of the name, what the suite does -/
inductive Hds where
  | nil | cons (c : Nat) (n : Option Nat) (u : Hu) (hs : Hds)
/-- a suite: return h; xs.append(h); if t: return h, then on -/
inductive Hu where
  | ret (h : Hx) | app (i : Nat) (h : Hx) | ifr (t h : Hx) (u : Hu)
/-- what a suite makes of the error -/
inductive Hx where
  | b (x : Bool) | s (x : Str) | i (n : Int) | n | fld (f : Str) | isA (cs : List Nat) | nt (a : Hx) | and (a b : Hx) | ite (t a b : Hx) | lst (hs : Hxs) | tup (hs : Hxs)
inductive Hxs where
  | nil | cons (e : Hx) (es : Hxs)
end

/-! ### the law's random state -/
def isJar : Slot → Bool
  | .fz (.dict [(.none, .none)]) => true | _ => false
def srcK (r : En) : Src → Option (Sum Int Str)
  | .fld i k => if isJar (rd r i) = true then some k else none
  | .al i => match rd r i with | .al k => some k | _ => none
def gget (g : Gh) (k : Sum Int Str) : Option D := (g.find? fun p => decide (p.1 = k)).map (·.2)
def gput (g : Gh) (k : Sum Int Str) (d : D) : Gh := g.map fun p => if p.1 = k then (p.1, d) else p

def srcL (r : En) (s : Src) : Bool :=
  match srcK r s with
  | some k => (match gget r.g k with | some (.list _) => true | _ => false)
  | none => false

/-! ### what values give -/
abbrev SZ : Nat := 16777216
def MulOk (i j : Int) : Prop := (-(2 ^ 64) < i ∧ i < 2 ^ 64) ∨ (-(2 ^ 64) < j ∧ j < 2 ^ 64) ∨ i.natAbs.log2 + j.natAbs.log2 < 1000000
def DivOk (j : Int) : Prop := (0 < j ∧ j.natAbs.log2 < 9000) ∨ (j ≠ 0 ∧ j.natAbs < 1073741824)
def asInts : List D → Option (List Int)
  | [] => some []
  | .int i :: r => (asInts r).map (i :: ·)
  | _ :: _ => none
def asBools : List D → Option (List Bool)
  | [] => some []
  | .bool i :: r => (asBools r).map (i :: ·)
  | _ :: _ => none
def isNon : D → Bool
  | .none => true | _ => false
def flatD : D → Bool
  | .none => true | .int _ => true | .bool _ => true | .str _ => true | _ => false
def shaped (d : D) : Prop := SeqAt.shaped d = true

def opW (o : BO) (a b : D) (K : Rz → Prop) : Prop :=
  match o with
  | .add => match a with
    | .int i => (match b with | .int j => K (.val (.int (i + j))) | _ => False)
    | .list x => (match b with | .list y => x.length + y.length ≤ SZ ∧ K (.new (x ++ y)) | _ => False)
    | .tuple x => (match b with | .tuple y => x.length + y.length ≤ SZ ∧ K (.val (.tuple (x ++ y))) | _ => False)
    | .str x => (match b with | .str y => x.length + y.length ≤ SZ ∧ K (.val (.str (x ++ y))) | _ => False)
    | _ => False
  | .sub => match a with
    | .int i => (match b with | .int j => K (.val (.int (i - j))) | _ => False)
    | _ => False
  | .mul => match a with
    | .int i => (match b with | .int j => MulOk i j ∧ K (.val (.int (i * j))) | _ => False)
    | .list x => (match b with | .int j => -(2 ^ 63) ≤ j ∧ j < 2 ^ 63 ∧ x.length * j.toNat ≤ SZ ∧ K (.new (List.replicate j.toNat x).flatten) | _ => False)
    | .tuple x => (match b with | .int j => x ≠ [] ∧ -(2 ^ 63) ≤ j ∧ j ≤ 1000 ∧ x.length ≤ 1000 ∧ K (.val (.tuple (List.replicate j.toNat x).flatten)) | _ => False)
    | _ => False
  | .fdiv => match a with
    | .int i => (match b with | .int j => DivOk j ∧ K (.val (.int (i.fdiv j))) | _ => False)
    | _ => False
  | .mod => match a with
    | .int i => (match b with | .int j => j ≠ 0 ∧ K (.val (.int (i.fmod j))) | _ => False)
    | _ => False
  | .pow => match a with
    | .int i => (match b with | .int j => (0 ≤ j ∧ j ≤ 1000000 ∧ i.natAbs < 2 ^ 64) ∧ K (.val (.int (i ^ j.toNat))) | _ => False)
    | _ => False

/-- == -/
def eqW (a b : D) (K : Bool → Prop) : Prop :=
  match a with
  | .int i => (match b with | .int j => K (decide (i = j)) | b => shaped b ∧ K (PyData.eqv (.int i) b))
  | .str x => (match b with | .str y => K (decide (x = y)) | b => shaped (.str x) ∧ shaped b ∧ K (PyData.eqv (.str x) b))
  | a => shaped a ∧ shaped b ∧ K (PyData.eqv a b)
def inD (x : D) (ys : List D) : Bool := ys.any fun y => PyData.eqv y x
def inW (a b : D) (K : Bool → Prop) : Prop :=
  match b with
  | .list ys => shaped a ∧ shaped (.list ys) ∧ K (inD a ys)
  | .tuple ys => flatD a = true ∧ ys.all flatD = true ∧ K (inD a ys)
  | _ => False
def ordW (fi : Int → Int → Bool) (ft : List Int → List Int → Bool) (a b : D) (K : Bool → Prop) : Prop :=
  match a with
  | .int i => (match b with | .int j => K (fi i j) | _ => False)
  | .tuple x => (match b with
    | .tuple y => (match asInts x with
      | some ns => (match asInts y with | some ms => K (ft ns ms) | none => False)
      | none => False)
    | _ => False)
  | _ => False
def cmpW (o : CO) (a b : D) (K : Bool → Prop) : Prop :=
  match o with
  | .eq => eqW a b K
  | .ne => eqW a b fun x => K (!x)
  | .lt => ordW (fun i j => decide (i < j)) HT.lexLt a b K
  | .le => (match a with | .int i => (match b with | .int j => K (decide (i ≤ j)) | _ => False) | _ => False)
  | .gt => (match a with | .int i => (match b with | .int j => K (decide (j < i)) | _ => False) | _ => False)
  | .ge => (match a with | .int i => (match b with | .int j => K (decide (j ≤ i)) | _ => False) | _ => False)
  | .isin => inW a b K
  | .notin => inW a b fun x => K (!x)
/-- truth -/
def truW (a : D) (K : Bool → Prop) : Prop :=
  match a with
  | .none => K false
  | .bool b => K b
  | .int i => K (i != 0)
  | .list x => K (!x.isEmpty)
  | .tuple x => K (!x.isEmpty)
  | _ => False
/-- a[i] -/
def atD (xs : List D) (i : Int) : Option D := L2.atI xs i
def ixW (a b : D) (K : D → Prop) : Prop :=
  match b with
  | .int i => (match a with
    | .list x => (match atD x i with | some d => K d | none => False)
    | .tuple x => (match atD x i with | some d => K d | none => False)
    | _ => False)
  | _ => False
def cutD (xs : List D) (lo hi : Option Int) : List D := (xs.drop (HT.sIx xs.length 0 lo)).take (HT.sIx xs.length xs.length hi - HT.sIx xs.length 0 lo)
/-- each k-th item from lo on -/
def stpL {α : Type} (xs : List α) (lo k : Nat) : List α :=
  (PySem.sliceRange (PySem.sliceBounds (some (lo : Int)) none (some (k : Int)) xs.length).1 (PySem.sliceBounds (some (lo : Int)) none (some (k : Int)) xs.length).2.1 (PySem.sliceBounds (some (lo : Int)) none (some (k : Int)) xs.length).2.2).filterMap (xs[·]?)
def isD (k : BI) (d : D) : Bool :=
  match k, d with
  | .isTuple, .tuple _ => true
  | .isInt, .int _ => true
  | .isInt, .bool _ => true
  | .isBool, .bool _ => true
  | .isStr, .str _ => true
  | .isList, .list _ => true
  | _, _ => false

/-- no dict in it, or the empty one -/
def ND (d : D) : Prop := d.hasDict = false ∨ d = .dict []
def biW (k : BI) (as : List D) (K : Rz → Prop) : Prop :=
  match k with
  | .len => (match as with
    | [.list x] => K (.val (.int (x.length : Int)))
    | [.tuple x] => K (.val (.int (x.length : Int)))
    | [.str x] => x.length ≤ SZ ∧ K (.val (.int (x.length : Int)))
    | _ => False)
  | .abs => (match as with | [.int i] => K (.val (.int (if i < 0 then -i else i))) | _ => False)
  | .min2 => (match as with | [.int i, .int j] => K (.val (.int (if j < i then j else i))) | _ => False)
  | .max2 => (match as with | [.int i, .int j] => K (.val (.int (if j > i then j else i))) | _ => False)
  | .min1 => (match as with
    | [.list x] => (match asInts x with | some ns => 0 < ns.length ∧ ∀ m, m ∈ ns → (∀ y, y ∈ ns → m ≤ y) → K (.val (.int m)) | none => False)
    | _ => False)
  | .max1 => (match as with
    | [.list x] => (match asInts x with | some ns => 0 < ns.length ∧ ∀ m, m ∈ ns → (∀ y, y ∈ ns → y ≤ m) → K (.val (.int m)) | none => False)
    | _ => False)
  | .sum => (match as with
    | [.list x] => (match asInts x with | some ns => K (.val (.int ns.sum)) | none => False)
    | _ => False)
  | .all => (match as with
    | [.list x] => (match asBools x with | some bs => K (.val (.bool (bs.all id))) | none => False)
    | _ => False)
  | .any => (match as with
    | [.list x] => (match asBools x with | some bs => K (.val (.bool (bs.any id))) | none => False)
    | _ => False)
  | .sorted => (match as with
    | [.list x] => (match asInts x with | some ns => ∀ ms : List Int, ms.Perm ns → ms.Pairwise (· ≤ ·) → K (.new (ms.map .int)) | none => False)
    | _ => False)
  | .list => (match as with | [.list x] => K (.new x) | [.tuple x] => K (.new x) | _ => False)
  | .tuple => (match as with | [.list x] => K (.val (.tuple x)) | [.tuple x] => K (.val (.tuple x)) | _ => False)
  | .int => (match as with | [.int i] => K (.val (.int i)) | [.bool b] => K (.val (.int (if b then 1 else 0))) | _ => False)
  | .bool => (match as with | [.int i] => K (.val (.bool (i != 0))) | [.bool b] => K (.val (.bool b)) | _ => False)
  | .repr => (match as with | [d] => d.showable = true ∧ d.depth ≤ 64 ∧ ND d ∧ d.shown.length ≤ SZ ∧ K (.val (.str d.shown)) | _ => False)
  | .divmod => (match as with | [.int i, .int j] => (0 < j ∧ (j < 1073741824 ∨ i.natAbs < 2 ^ 4000)) ∧ K (.val (.tuple [.int (i / j), .int (i % j)])) | _ => False)
  | .gcd => (match as with | [.int i, .int j] => K (.val (.int ((Nat.gcd i.natAbs j.natAbs : Nat) : Int))) | _ => False)
  | .str => (match as with | [.int i] => i.natAbs.log2 < 1920 ∧ K (.val (.str (toString i))) | _ => False)
  | k => (match as with | [d] => ND d ∧ K (.val (.bool (isD k d))) | _ => False)

/-! ### slots -/
def der (r : En) (x : Rz) (K : D → Prop) : Prop :=
  match x with
  | .val d => K d
  | .new ds => K (.list ds)
  | .sl i => match rd r i with | .ow ds => K (.list ds) | .fz d => K d | _ => False
/-- given up: from here on nobody changes it -/
def frz (r : En) (x : Rz) (K : D → En → Prop) : Prop :=
  match x with
  | .val d => K d r
  | .new ds => K (.list ds) r
  | .sl i => match rd r i with | .ow ds => K (.list ds) (r.set i (.fz (.list ds))) | .fz d => K d r | _ => False
/-- stored in a slot -/
def asg (i : Nat) (r : En) (x : Rz) (K : En → Prop) : Prop :=
  match x with
  | .val d => K (r.set i (.fz d))
  | .new ds => K (r.set i (.ow ds))
  | .sl j => match rd r j with | .ow ds => K ((r.set j (.fz (.list ds))).set i (.fz (.list ds))) | .fz d => K (r.set i (.fz d)) | _ => False
mutual
def tgW : Tg → D → En → (En → Prop) → Prop
  | .v i, d, r, K => K (r.set i (.fz d))
  | .t ts, d, r, K => (match d with
    | .list x => tgsW ts x r K
    | .tuple x => tgsW ts x r K
    | _ => False)
def tgsW : Tgs → List D → En → (En → Prop) → Prop
  | .nil, ds, r, K => ds = [] ∧ K r
  | .cons t ts, ds, r, K => (match ds with
    | [] => False
    | d :: ds => tgW t d r fun r1 => tgsW ts ds r1 K)
end
def wipe (own : List (Str × Nat)) (r : En) : En :=
  match own with
  | [] => r
  | (_, i) :: o => (wipe o r).set i .un
def unwipe (own : List (Str × Nat)) (r0 r : En) : En :=
  match own with
  | [] => r
  | (_, i) :: o => (unwipe o r0 r).set i (rd r0 i)
def noOw (own : List (Str × Nat)) (r : En) : Bool :=
  match own with
  | [] => true
  | (_, i) :: o => (match rd r i with | .un => true | .fz _ => true | _ => false) && noOw o r
/-- a comprehension's turns -/
def turns (f : D → En → (Option D → En → Prop) → Prop) : List D → List D → En → (List D → En → Prop) → Prop
  | [], acc, r, K => K acc r
  | d :: ds, acc, r, K => f d r fun o r1 => (match o with | some x => turns f ds (acc ++ [x]) r1 K | none => turns f ds acc r1 K)
def enumD (ds : List D) : List D := ds.mapIdx fun i d => .tuple [.int (i : Int), d]
def zipD (xs ys : List D) : List D := List.zipWith (fun x y => .tuple [x, y]) xs ys
def rangeD (lo : Int) (n : Nat) : List D := (List.range n).map fun (i : Nat) => .int (lo + (i : Int))

/-- what is wanted of an error -/
abbrev XW := Exn → En → Prop
abbrev Calls := Nat → List D → Gh → (D → Gh → Prop) → (Exn → Gh → Prop) → Prop
def noX : XW := fun _ _ => False
section
variable (C : Calls)
mutual
def exW : Ex → En → (Rz → En → Prop) → XW → Prop
  | .v i, r, K, _ => (match rd r i with | .fz d => K (.val d) r | .ow _ => K (.sl i) r | _ => False)
  | .i n, r, K, _ => K (.val (.int n)) r
  | .b x, r, K, _ => K (.val (.bool x)) r
  | .n, r, K, _ => K (.val .none) r
  | .s x, r, K, _ => K (.val (.str x)) r
  | .g _ n, r, K, _ => K (.val (.int n)) r
  | .tup es, r, K, X => exsW es r (fun ds r1 => K (.val (.tuple ds)) r1) X
  | .lst es, r, K, X => exsW es r (fun ds r1 => K (.new ds) r1) X
  | .bin o a b, r, K, X => exW a r (fun x r1 => exW b r1 (fun y r2 => der r2 x fun d => der r2 y fun e => opW o d e fun z => K z r2) X) X
  | .neg a, r, K, X => exW a r (fun x r1 => der r1 x fun d => (match d with | .int i => K (.val (.int (-i))) r1 | _ => False)) X
  | .nt a, r, K, X => exW a r (fun x r1 => der r1 x fun d => truW d fun b => K (.val (.bool (!b))) r1) X
  | .cmp o a b, r, K, X => exW a r (fun x r1 => exW b r1 (fun y r2 => der r2 x fun d => der r2 y fun e => cmpW o d e fun z => K (.val (.bool z)) r2) X) X
  | .chain o p a b c, r, K, X => exW a r (fun x r1 => exW b r1 (fun y r2 => der r2 x fun d => der r2 y fun e => cmpW o d e fun z =>
      if z = true then exW c r2 (fun w r3 => der r3 y fun e' => der r3 w fun f => cmpW p e' f fun z' => K (.val (.bool z')) r3) X else K (.val (.bool false)) r2) X) X
  | .isN a, r, K, X => exW a r (fun x r1 => der r1 x fun d => K (.val (.bool (isNon d))) r1) X
  | .notN a, r, K, X => exW a r (fun x r1 => der r1 x fun d => K (.val (.bool (!isNon d))) r1) X
  | .and a b, r, K, X => exW a r (fun x r1 => der r1 x fun d => (match d with | .bool c => (if c = true then exW b r1 K X else K (.val (.bool false)) r1) | _ => False)) X
  | .or a b, r, K, X => exW a r (fun x r1 => der r1 x fun d => (match d with | .bool c => (if c = true then K (.val (.bool true)) r1 else exW b r1 K X) | _ => False)) X
  | .ite t a b, r, K, X => tsW t r (fun c r1 => if c = true then exW a r1 K X else exW b r1 K X) X
  | .ix a i, r, K, X => exW a r (fun x r1 => exW i r1 (fun y r2 => der r2 x fun d => der r2 y fun e => ixW d e fun z => K (.val z) r2) X) X
  | .cut a lo hi, r, K, X => exW a r (fun x r1 => opwW lo r1 (fun l r2 => opwW hi r2 (fun h r3 => der r3 x fun d => (match d with
      | .list ds => K (.new (cutD ds l h)) r3
      | .tuple ds => K (.val (.tuple (cutD ds l h))) r3
      | _ => False)) X) X) X
  | .rev a, r, K, X => exW a r (fun x r1 => der r1 x fun d => (match d with | .list ds => K (.new ds.reverse) r1 | .tuple ds => K (.val (.tuple ds.reverse)) r1 | _ => False)) X
  | .call f es, r, K, X => exsW es r (fun ds r1 => C f ds r1.g (fun d g => K (.val d) (r1.at g)) (fun e g => X e (r1.at g))) X
  | .callk f es ks ps, r, K, X => exsW es r (fun ds r1 => exsW ks r1 (fun ws r2 => C f (ps.map fun p => (ds ++ ws).getD p .none) r2.g (fun d g => K (.val d) (r2.at g)) (fun e g => X e (r2.at g))) X) X
  | .bi k es, r, K, X => argsW es r (fun ds r1 => biW k ds fun z => K z r1) X
  | .comp e t w c own, r, K, X => itW w r (fun ds r1 => noOw own r1 = true ∧ turns (fun d r2 k => tgW t d r2 fun r3 => tsW c r3 (fun b r4 => if b = true then exW e r4 (fun x r5 => frz r5 x fun y r6 => k (some y) (wipe own r6)) noX else k none (wipe own r4)) noX) ds [] (wipe own r1) (fun ys r7 => K (.new ys) (unwipe own r1 r7))) X
  | .pop i, r, K, _ => (match rd r i with | .ow ds => (match ds.getLast? with | some d => K (.val d) (r.set i (.ow ds.dropLast)) | none => False) | _ => False)
  | .popA i n, r, K, _ => (match rd r i with | .ow ds => (match L2.ixN ds.length n with | some j => (-(2 ^ 63) ≤ n ∧ n < 2 ^ 63) ∧ K (.val (ds.getD j .none)) (r.set i (.ow (ds.eraseIdx j))) | none => False) | _ => False)
  | .jg i k, r, K, _ => isJar (rd r i) = true ∧ (match gget r.g k with | some (.int n) => K (.val (.int n)) r | _ => False)
  | .jn s, r, K, _ => (match srcK r s with | some k => (match gget r.g k with | some (.list ds) => K (.val (.bool (!ds.isEmpty))) r | _ => False) | none => False)
  | .scut i n, r, K, _ => isJar (rd r i) = true ∧ (match gget r.g (.inl 0) with | some (.list ds) => K (.new (cutD ds none (some n))) r | _ => False)
  | .stp a lo k, r, K, X => exW a r (fun x r1 => der r1 x fun d => (match d with | .list ds => (stpL ds lo k).length ≤ SZ ∧ K (.new (stpL ds lo k)) r1 | _ => False)) X
  | .calld f es ns, r, K, X => exsW es r (fun ds r1 => C f (ds ++ ns.map .int) r1.g (fun d g => K (.val d) (r1.at g)) (fun e g => X e (r1.at g))) X
  | .lw w, r, K, X => itW w r (fun ds r1 => ds.length ≤ SZ ∧ K (.new ds) r1) X
  | .dct0, r, K, _ => K (.val (.dict [])) r
  | .slen i, r, K, _ => isJar (rd r i) = true ∧ (match gget r.g (.inl 0) with | some (.list ds) => K (.val (.int (ds.length : Int))) r | _ => False)
  | .jp s b, r, K, _ => (match srcK r s with
    | some k => (match gget r.g k with
      | some (.list ds) => (match (if b = true then ds.head? else ds.getLast?) with
        | some d => K (.val d) (r.at (gput r.g k (.list (if b = true then ds.tail else ds.dropLast))))
        | none => False)
      | _ => False)
    | none => False)
/-- as a test -/
def tsW : Ts → En → (Bool → En → Prop) → XW → Prop
  | .yes, r, K, _ => K true r
  | .and a b, r, K, X => tsW a r (fun c r1 => if c = true then tsW b r1 K X else K false r1) X
  | .or a b, r, K, X => tsW a r (fun c r1 => if c = true then K true r1 else tsW b r1 K X) X
  | .nt a, r, K, X => tsW a r (fun c r1 => K (!c) r1) X
  | .e a, r, K, X => exW a r (fun x r1 => der r1 x fun d => truW d fun b => K b r1) X
/-- given up, one by one -/
def exsW : Exs → En → (List D → En → Prop) → XW → Prop
  | .nil, r, K, _ => K [] r
  | .cons e es, r, K, X => exW e r (fun x r1 => frz r1 x fun d r2 => exsW es r2 (fun ds r3 => K (d :: ds) r3) X) X
/-- read, one by one -/
def argsW : Exs → En → (List D → En → Prop) → XW → Prop
  | .nil, r, K, _ => K [] r
  | .cons e es, r, K, X => exW e r (fun x r1 => argsW es r1 (fun ds r3 => der r3 x fun d => K (d :: ds) r3) X) X
def opwW : Op → En → (Option Int → En → Prop) → XW → Prop
  | .no, r, K, _ => K none r
  | .so e, r, K, X => exW e r (fun x r1 => der r1 x fun d => (match d with | .int i => K (some i) r1 | _ => False)) X
def itW : It → En → (List D → En → Prop) → XW → Prop
  | .e a, r, K, X => exW a r (fun x r1 => frz r1 x fun d r2 => (match d with | .list ds => K ds r2 | .tuple ds => K ds r2 | _ => False)) X
  | .r1 a, r, K, X => exW a r (fun x r1 => der r1 x fun d => (match d with | .int j => (-(2 ^ 62) ≤ j ∧ j ≤ SZ) ∧ K (rangeD 0 j.toNat) r1 | _ => False)) X
  | .r2 a b, r, K, X => exW a r (fun x r1 => exW b r1 (fun y r2 => der r2 x fun d => der r2 y fun e => (match d with
      | .int i => (match e with | .int j => (-(2 ^ 62) ≤ i ∧ i < 2 ^ 62 ∧ -(2 ^ 62) ≤ j ∧ j < 2 ^ 62 ∧ j - i ≤ SZ) ∧ K (rangeD i (j - i).toNat) r2 | _ => False)
      | _ => False)) X) X
  | .en a, r, K, X => exW a r (fun x r1 => frz r1 x fun d r2 => (match d with | .list ds => K (enumD ds) r2 | .tuple ds => K (enumD ds) r2 | _ => False)) X
  | .zip a b, r, K, X => exW a r (fun x r1 => frz r1 x fun d r2 => exW b r2 (fun y r3 => frz r3 y fun e r4 => (match d with
      | .list xs => (match e with | .list ys => K (zipD xs ys) r4 | _ => False)
      | .tuple xs => (match e with | .tuple ys => K (zipD xs ys) r4 | _ => False)
      | _ => False)) X) X
end
end
end G

set_option linter.all false
set_option maxRecDepth 100000
namespace G
open PySem

structure Ks where
  nx : En → Prop
  rt : D → En → Prop
  bk : En → Prop
  ct : En → Prop
  ex : XW
def forL (f : D → En → (En → Prop) → Prop) (nx : En → Prop) : List D → En → Prop
  | [], r => nx r
  | d :: ds, r => f d r fun r1 => forL f nx ds r1
def whlW (t : En → (Bool → En → Prop) → Prop) (b : En → (En → Prop) → Prop) (nx : En → Prop) (r : En) : Prop :=
  ∃ W : Nat → En → Prop, (∃ m, W m r) ∧ ∀ m r, W m r → t r fun c r1 => if c = true then b r1 fun r2 => ∃ m', m' < m ∧ W m' r2 else nx r1
/-- the values of a display, stored one by one -/
def frzS (r : En) (x : Rz) (K : Rz → En → Prop) : Prop :=
  match x with
  | .val d => K (.val d) r
  | .new ds => K (.new ds) r
  | .sl i => frz r (.sl i) fun d r1 => K (.val d) r1
/-- what an error keeps -/
def raisA : Option Str → List D → Option (Str × D)
  | some f, [d] => some (f, d)
  | _, _ => none
def isOw : Slot → Bool | .ow _ => true | _ => false
def rsW (C : Calls) : Exs → En → (List Rz → En → Prop) → XW → Prop
  | .nil, r, K, _ => K [] r
  | .cons e es, r, K, X => exW C e r (fun x r1 => frzS r1 x fun y r2 => rsW C es r2 (fun xs r3 => K (y :: xs) r3) X) X
def asgs : List Nat → List Rz → En → (En → Prop) → Prop
  | [], [], r, K => K r
  | i :: is, x :: xs, r, K => asg i r x fun r1 => asgs is xs r1 K
  | _, _, _, _ => False
mutual
def hxW (S : Nat → Nat → Bool) (e : Exn) : Hx → (D → Prop) → Prop
  | .b x, K => K (.bool x)
  | .s x, K => K (.str x)
  | .i n, K => K (.int n)
  | .n, K => K .none
  | .fld f, K => (match e.arg with | some d => d.1 = f ∧ K d.2 | none => False)
  | .isA cs, K => K (.bool (cs.any fun c => S e.cls c))
  | .nt a, K => hxW S e a fun d => (match d with | .bool b => K (.bool (!b)) | _ => False)
  | .and a b, K => hxW S e a fun d => (match d with | .bool c => (if c = true then hxW S e b K else K (.bool false)) | _ => False)
  | .ite t a b, K => hxW S e t fun d => (match d with | .bool c => (if c = true then hxW S e a K else hxW S e b K) | _ => False)
  | .lst hs, K => hxsW S e hs fun ds => K (.list ds)
  | .tup hs, K => hxsW S e hs fun ds => K (.tuple ds)
def hxsW (S : Nat → Nat → Bool) (e : Exn) : Hxs → (List D → Prop) → Prop
  | .nil, K => K []
  | .cons h hs, K => hxW S e h fun d => hxsW S e hs fun ds => K (d :: ds)
end
def huW (S : Nat → Nat → Bool) (K : Ks) (e : Exn) (r : En) : Hu → Prop
  | .ret h => hxW S e h fun d => K.rt d r
  | .app i h => hxW S e h fun d => (match rd r i with | .ow ds => ds.length < SZ ∧ K.nx (r.set i (.ow (ds ++ [d]))) | _ => False)
  | .ifr t h u => hxW S e t fun d => (match d with | .bool b => (if b = true then hxW S e h fun d => K.rt d r else huW S K e r u) | _ => False)
def unN (r : En) : Option Nat → En
  | some i => r.set i .un
  | none => r
def hdW (S : Nat → Nat → Bool) (K : Ks) (e : Exn) (r : En) : Hds → Prop
  | .nil => K.ex e r
  | .cons c n u hs => if S e.cls c = true then huW S K e (unN r n) u else hdW S K e r hs

section
variable (C : Calls) (S : Nat → Nat → Bool)
mutual
def stW : St → En → Ks → Prop
  | .set i e, r, K => exW C e r (fun x r1 => asg i r1 x K.nx) K.ex
  | .par is es, r, K => rsW C es r (fun xs r1 => asgs is xs r1 K.nx) K.ex
  | .unp t e, r, K => exW C e r (fun x r1 => frz r1 x fun d r2 => tgW t d r2 K.nx) K.ex
  | .ret e, r, K => exW C e r (fun x r1 => frz r1 x fun d r2 => K.rt d r2) K.ex
  | .retN, r, K => K.rt .none r
  | .drop e, r, K => exW C e r (fun _ r1 => K.nx r1) K.ex
  | .ifs t a b, r, K => tsW C t r (fun c r1 => if c = true then stsW a r1 K else stsW b r1 K) K.ex
  | .whl t b, r, K => whlW (fun r k => tsW C t r k K.ex) (fun r k => stsW b r { K with nx := k, ct := k, bk := K.nx }) K.nx r
  | .fr t w b, r, K => itW C w r (fun ds r1 => forL (fun d r k => tgW t d r fun r2 => stsW b r2 { K with nx := k, ct := k, bk := K.nx }) K.nx ds r1) K.ex
  | .app i e, r, K => isOw (rd r i) = true ∧ exW C e r (fun x r1 => frz r1 x fun d r2 => (match rd r2 i with | .ow ds => ds.length < SZ ∧ K.nx (r2.set i (.ow (ds ++ [d]))) | _ => False)) K.ex
  | .ext i e, r, K => isOw (rd r i) = true ∧ exW C e r (fun x r1 => frz r1 x fun d r2 => (match d with
      | .list xs => (match rd r2 i with | .ow ds => ds.length + xs.length ≤ SZ ∧ K.nx (r2.set i (.ow (ds ++ xs))) | _ => False)
      | _ => False)) K.ex
  | .ins i a e, r, K => isOw (rd r i) = true ∧ exW C a r (fun x r1 => der r1 x fun k => exW C e r1 (fun y r2 => frz r2 y fun d r3 => (match k with
      | .int j => (match rd r3 i with | .ow ds => (0 ≤ j ∧ j ≤ (ds.length : Int) ∧ ds.length < SZ) ∧ K.nx (r3.set i (.ow (ds.take j.toNat ++ d :: ds.drop j.toNat))) | _ => False)
      | _ => False)) K.ex) K.ex
  | .put i a e, r, K => isOw (rd r i) = true ∧ exW C e r (fun y r1 => frz r1 y fun d r2 => exW C a r2 (fun x r3 => der r3 x fun k => (match k with
      | .int j => (match rd r3 i with
        | .ow ds => (match L2.ixN ds.length j with | some m => K.nx (r3.set i (.ow (ds.set m d))) | none => False)
        | _ => False)
      | _ => False)) K.ex) K.ex
  | .ja s e, r, K => srcL r s = true ∧ exW C e r (fun x r1 => der r1 x fun d => (match d with
      | .int n => (match srcK r1 s with
        | some k => (match gget r1.g k with
          | some (.list ds) => ds.length < SZ ∧ K.nx (r1.at (gput r1.g k (.list (ds ++ [.int n]))))
          | _ => False)
        | none => False)
      | _ => False)) K.ex
  | .ji s e, r, K => srcL r s = true ∧ exW C e r (fun x r1 => der r1 x fun d => (match d with
      | .int n => (match srcK r1 s with
        | some k => (match gget r1.g k with
          | some (.list ds) => ds.length < SZ ∧ K.nx (r1.at (gput r1.g k (.list (.int n :: ds))))
          | _ => False)
        | none => False)
      | _ => False)) K.ex
  | .js i k e, r, K => exW C e r (fun x r1 => der r1 x fun d => (match d with
      | .int n => isJar (rd r1 i) = true ∧ (match gget r1.g k with
        | some (.int _) => K.nx (r1.at (gput r1.g k (.int n)))
        | _ => False)
      | _ => False)) K.ex
  | .jl j i k, r, K => isJar (rd r i) = true ∧ (match gget r.g k with | some (.list _) => K.nx (r.set j (.al k)) | _ => False)
  | .rais c f es, r, K => exsW C es r (fun ds r1 => K.ex ⟨c, raisA f ds⟩ r1) K.ex
  | .pass, r, K => K.nx r
  | .brk, r, K => K.bk r
  | .cont, r, K => K.ct r
  | .bomb, r, K => False
  | .tri b hs, r, K => stsW b r { K with ex := fun e r1 => hdW S K e r1 hs }
def stsW : Sts → En → Ks → Prop
  | .nil, r, K => K.nx r
  | .cons s ss, r, K => stW s r { K with nx := fun r1 => stsW ss r1 K }
end
end

/-- a def: its parameters, its slots, its body; or a def told by what it does -/
inductive Fn where
  | df (np ns : Nat) (b : Sts)
  | pr (P : List D → Gh → (D → Gh → Prop) → Prop)
structure Tb where
  fn : Nat → Option Fn
  sub : Nat → Nat → Bool
def startE (ns : Nat) (ds : List D) (g : Gh) : En := ⟨ds.map .fz ++ List.replicate (ns - ds.length) .un, g⟩
def callW (T : Tb) : Nat → Calls
  | 0 => fun _ _ _ _ _ => False
  | n + 1 => fun f ds g K X => match T.fn f with
    | some (.df np ns b) => ds.length = np ∧ stsW (callW T n) T.sub b (startE ns ds g) { nx := fun r => K .none r.g, rt := fun d r => K d r.g, bk := fun _ => False, ct := fun _ => False, ex := fun e r => X e r.g }
    | some (.pr P) => P ds g K
    | none => False

/-! ### what is wanted may grow -/
theorem opW_mono {o : BO} {a b : D} {K K' : Rz → Prop} (h : ∀ x, K x → K' x) : opW o a b K → opW o a b K' := by
  unfold opW
  cases o <;> dsimp only <;> (repeat' split) <;> intro q <;> first | exact q.elim | exact h _ q | exact ⟨q.1, h _ q.2⟩ | exact ⟨q.1, q.2.1, q.2.2.1, h _ q.2.2.2⟩ | exact ⟨q.1, q.2.1, q.2.2.1, q.2.2.2.1, h _ q.2.2.2.2⟩ | trivial
theorem eqW_mono {a b : D} {K K' : Bool → Prop} (h : ∀ x, K x → K' x) : eqW a b K → eqW a b K' := by
  unfold eqW
  (repeat' split) <;> intro q <;> first | exact h _ q | exact ⟨q.1, h _ q.2⟩ | exact ⟨q.1, q.2.1, h _ q.2.2⟩
theorem inW_mono {a b : D} {K K' : Bool → Prop} (h : ∀ x, K x → K' x) : inW a b K → inW a b K' := by
  unfold inW
  (repeat' split) <;> intro q <;> first | exact q.elim | exact ⟨q.1, q.2.1, h _ q.2.2⟩
theorem ordW_mono {fi : Int → Int → Bool} {ft : List Int → List Int → Bool} {a b : D} {K K' : Bool → Prop} (h : ∀ x, K x → K' x) : ordW fi ft a b K → ordW fi ft a b K' := by
  unfold ordW
  (repeat' split) <;> intro q <;> first | exact q.elim | exact h _ q
theorem cmpW_mono {o : CO} {a b : D} {K K' : Bool → Prop} (h : ∀ x, K x → K' x) : cmpW o a b K → cmpW o a b K' := by
  unfold cmpW
  cases o with
  | eq => exact eqW_mono h
  | ne => exact eqW_mono fun x => h _
  | lt => exact ordW_mono h
  | isin => exact inW_mono h
  | notin => exact inW_mono fun x => h _
  | _ => dsimp only; (repeat' split) <;> intro q <;> first | exact q.elim | exact h _ q
theorem truW_mono {a : D} {K K' : Bool → Prop} (h : ∀ x, K x → K' x) : truW a K → truW a K' := by
  unfold truW
  (repeat' split) <;> intro q <;> first | exact q.elim | exact h _ q
theorem ixW_mono {a b : D} {K K' : D → Prop} (h : ∀ x, K x → K' x) : ixW a b K → ixW a b K' := by
  unfold ixW
  (repeat' split) <;> intro q <;> first | exact q.elim | exact h _ q
theorem biW_mono {k : BI} {as : List D} {K K' : Rz → Prop} (h : ∀ x, K x → K' x) : biW k as K → biW k as K' := by
  unfold biW
  cases k <;> dsimp only <;> (repeat' split) <;> intro q <;> first
    | exact q.elim
    | exact h _ q
    | exact ⟨q.1, h _ q.2⟩
    | exact ⟨q.1, fun m h1 h2 => h _ (q.2 m h1 h2)⟩
    | exact fun m h1 h2 => h _ (q m h1 h2)
    | exact ⟨q.1, q.2.1, q.2.2.1, q.2.2.2.1, h _ q.2.2.2.2⟩
theorem der_mono {r : En} {x : Rz} {K K' : D → Prop} (h : ∀ d, K d → K' d) : der r x K → der r x K' := by
  unfold der
  (repeat' split) <;> intro q <;> first | exact q.elim | exact h _ q
theorem frz_mono {r : En} {x : Rz} {K K' : D → En → Prop} (h : ∀ d r, K d r → K' d r) : frz r x K → frz r x K' := by
  unfold frz
  (repeat' split) <;> intro q <;> first | exact q.elim | exact h _ _ q
theorem asg_mono {i : Nat} {r : En} {x : Rz} {K K' : En → Prop} (h : ∀ r, K r → K' r) : asg i r x K → asg i r x K' := by
  unfold asg
  (repeat' split) <;> intro q <;> first | exact q.elim | exact h _ q
theorem frzS_mono {r : En} {x : Rz} {K K' : Rz → En → Prop} (h : ∀ d r, K d r → K' d r) : frzS r x K → frzS r x K' := by
  unfold frzS
  split
  · exact h _ _
  · exact h _ _
  · exact frz_mono fun d r1 => h _ _
mutual
theorem tgW_mono : ∀ (t : Tg) {d : D} {r : En} {K K' : En → Prop}, (∀ r, K r → K' r) → tgW t d r K → tgW t d r K'
  | .v i, d, r, K, K', h => by unfold tgW; exact h _
  | .t ts, d, r, K, K', h => by
    unfold tgW
    split
    · exact tgsW_mono ts h
    · exact tgsW_mono ts h
    · exact id
theorem tgsW_mono : ∀ (t : Tgs) {d : List D} {r : En} {K K' : En → Prop}, (∀ r, K r → K' r) → tgsW t d r K → tgsW t d r K'
  | .nil, d, r, K, K', h => by unfold tgsW; exact fun q => ⟨q.1, h _ q.2⟩
  | .cons t ts, d, r, K, K', h => by
    unfold tgsW
    split
    · exact id
    · exact tgW_mono t fun r => tgsW_mono ts h
end
theorem turns_mono {f g : D → En → (Option D → En → Prop) → Prop} {K K' : List D → En → Prop} (hf : ∀ d r k k', (∀ o r, k o r → k' o r) → f d r k → g d r k') (h : ∀ x r, K x r → K' x r) :
    ∀ (ds acc : List D) (r : En), turns f ds acc r K → turns g ds acc r K'
  | [], acc, r => h acc r
  | d :: ds, acc, r => by
    unfold turns
    refine hf d r _ _ fun o r1 => ?_
    cases o with
    | some x => exact turns_mono hf h ds _ r1
    | none => exact turns_mono hf h ds _ r1
def CLe (C C' : Calls) : Prop := ∀ f ds g (K K' : D → Gh → Prop) (X X' : Exn → Gh → Prop), (∀ d g, K d g → K' d g) → (∀ e g, X e g → X' e g) → C f ds g K X → C' f ds g K' X'
abbrev CMono (C : Calls) : Prop := CLe C C
section
variable {C C' : Calls} (hC : CLe C C')
include hC
mutual
theorem exW_mono : ∀ (e : Ex) {r : En} {K K' : Rz → En → Prop} {X X' : XW}, (∀ x r, K x r → K' x r) → (∀ e r, X e r → X' e r) → exW C e r K X → exW C' e r K' X'
  | .v i, r, K, K', X, X', h, hx => by
    unfold exW; split <;> first | exact id | exact h _ _
  | .i n, r, K, K', X, X', h, hx => by unfold exW; exact h _ _
  | .b n, r, K, K', X, X', h, hx => by unfold exW; exact h _ _
  | .n, r, K, K', X, X', h, hx => by unfold exW; exact h _ _
  | .s n, r, K, K', X, X', h, hx => by unfold exW; exact h _ _
  | .g _ n, r, K, K', X, X', h, hx => by unfold exW; exact h _ _
  | .tup es, r, K, K', X, X', h, hx => by unfold exW; exact exsW_mono es (fun _ _ => h _ _) hx
  | .lst es, r, K, K', X, X', h, hx => by unfold exW; exact exsW_mono es (fun _ _ => h _ _) hx
  | .bin o a b, r, K, K', X, X', h, hx => by
    unfold exW; exact exW_mono a (fun x r1 => exW_mono b (fun y r2 => der_mono fun d => der_mono fun e => opW_mono fun z => h _ _) hx) hx
  | .neg a, r, K, K', X, X', h, hx => by
    unfold exW; exact exW_mono a (fun x r1 => der_mono fun d => by split <;> first | exact h _ _ | exact id) hx
  | .nt a, r, K, K', X, X', h, hx => by unfold exW; exact exW_mono a (fun x r1 => der_mono fun d => truW_mono fun b => h _ _) hx
  | .cmp o a b, r, K, K', X, X', h, hx => by
    unfold exW; exact exW_mono a (fun x r1 => exW_mono b (fun y r2 => der_mono fun d => der_mono fun e => cmpW_mono fun z => h _ _) hx) hx
  | .chain o p a b c, r, K, K', X, X', h, hx => by
    unfold exW; exact exW_mono a (fun x r1 => exW_mono b (fun y r2 => der_mono fun d => der_mono fun e => cmpW_mono fun z => by
      split
      · exact exW_mono c (fun w r3 => der_mono fun e' => der_mono fun f => cmpW_mono fun z' => h _ _) hx
      · exact h _ _) hx) hx
  | .isN a, r, K, K', X, X', h, hx => by unfold exW; exact exW_mono a (fun x r1 => der_mono fun d => h _ _) hx
  | .notN a, r, K, K', X, X', h, hx => by unfold exW; exact exW_mono a (fun x r1 => der_mono fun d => h _ _) hx
  | .and a b, r, K, K', X, X', h, hx => by
    unfold exW; exact exW_mono a (fun x r1 => der_mono fun d => by
      split
      · split
        · exact exW_mono b h hx
        · exact h _ _
      · exact id) hx
  | .or a b, r, K, K', X, X', h, hx => by
    unfold exW; exact exW_mono a (fun x r1 => der_mono fun d => by
      split
      · split
        · exact h _ _
        · exact exW_mono b h hx
      · exact id) hx
  | .ite t a b, r, K, K', X, X', h, hx => by
    unfold exW; exact tsW_mono t (fun c r1 => by
      split
      · exact exW_mono a h hx
      · exact exW_mono b h hx) hx
  | .ix a i, r, K, K', X, X', h, hx => by
    unfold exW; exact exW_mono a (fun x r1 => exW_mono i (fun y r2 => der_mono fun d => der_mono fun e => ixW_mono fun z => h _ _) hx) hx
  | .cut a lo hi, r, K, K', X, X', h, hx => by
    unfold exW; exact exW_mono a (fun x r1 => opwW_mono lo (fun l r2 => opwW_mono hi (fun u r3 => der_mono fun d => by
      split <;> first | exact h _ _ | exact id) hx) hx) hx
  | .rev a, r, K, K', X, X', h, hx => by
    unfold exW; exact exW_mono a (fun x r1 => der_mono fun d => by split <;> first | exact h _ _ | exact id) hx
  | .call f es, r, K, K', X, X', h, hx => by
    unfold exW; exact exsW_mono es (fun ds r1 => hC f ds _ _ _ _ _ (fun d g => h _ _) fun e g => hx _ _) hx
  | .callk f es ks ps, r, K, K', X, X', h, hx => by
    unfold exW; exact exsW_mono es (fun ds r1 => exsW_mono ks (fun ws r2 => hC f _ _ _ _ _ _ (fun d g => h _ _) fun e g => hx _ _) hx) hx
  | .bi k es, r, K, K', X, X', h, hx => by unfold exW; exact argsW_mono es (fun ds r1 => biW_mono fun z => h _ _) hx
  | .comp e t w c own, r, K, K', X, X', h, hx => by
    unfold exW
    refine itW_mono w (fun ds r1 q => ⟨q.1, turns_mono (fun d r2 k k' hk => ?_) (fun ys r7 => h _ _) _ _ _ q.2⟩) hx
    refine tgW_mono t fun r3 => tsW_mono c (fun b r4 => ?_) fun _ _ => id
    split
    · exact exW_mono e (fun x r5 => frz_mono fun y r6 => hk _ _) fun _ _ => id
    · exact hk _ _
  | .pop i, r, K, K', X, X', h, hx => by
    unfold exW
    split
    · split
      · exact h _ _
      · exact id
    · exact id
  | .popA i n, r, K, K', X, X', h, hx => by
    unfold exW
    split
    · split
      · exact fun q => ⟨q.1, h _ _ q.2⟩
      · exact id
    · exact id
  | .jg i k, r, K, K', X, X', h, hx => by
    unfold exW
    refine fun q => ⟨q.1, ?_⟩
    have q2 := q.2
    revert q2
    split
    · exact h _ _
    · exact id
  | .scut i n, r, K, K', X, X', h, hx => by
    unfold exW
    refine fun q => ⟨q.1, ?_⟩
    have q2 := q.2
    revert q2
    split
    · exact h _ _
    · exact id
  | .stp a lo k, r, K, K', X, X', h, hx => by
    unfold exW; exact exW_mono a (fun x r1 => der_mono fun d => by split <;> first | exact fun q => ⟨q.1, h _ _ q.2⟩ | exact id) hx
  | .calld f es ns, r, K, K', X, X', h, hx => by
    unfold exW; exact exsW_mono es (fun ds r1 => hC f _ _ _ _ _ _ (fun d g => h _ _) fun e g => hx _ _) hx
  | .lw w, r, K, K', X, X', h, hx => by
    unfold exW; exact itW_mono w (fun ds r1 q => ⟨q.1, h _ _ q.2⟩) hx
  | .dct0, r, K, K', X, X', h, hx => by unfold exW; exact h _ _
  | .slen i, r, K, K', X, X', h, hx => by
    unfold exW
    refine fun q => ⟨q.1, ?_⟩
    have q2 := q.2
    revert q2
    split
    · exact h _ _
    · exact id
  | .jn s, r, K, K', X, X', h, hx => by
    unfold exW
    split
    · split
      · exact h _ _
      · exact id
    · exact id
  | .jp s b, r, K, K', X, X', h, hx => by
    unfold exW
    split
    · split
      · split
        · exact h _ _
        · exact id
      · exact id
    · exact id
theorem tsW_mono : ∀ (e : Ts) {r : En} {K K' : Bool → En → Prop} {X X' : XW}, (∀ x r, K x r → K' x r) → (∀ e r, X e r → X' e r) → tsW C e r K X → tsW C' e r K' X'
  | .yes, r, K, K', X, X', h, hx => by unfold tsW; exact h _ _
  | .and a b, r, K, K', X, X', h, hx => by
    unfold tsW; exact tsW_mono a (fun c r1 => by
      split
      · exact tsW_mono b h hx
      · exact h _ _) hx
  | .or a b, r, K, K', X, X', h, hx => by
    unfold tsW; exact tsW_mono a (fun c r1 => by
      split
      · exact h _ _
      · exact tsW_mono b h hx) hx
  | .nt a, r, K, K', X, X', h, hx => by unfold tsW; exact tsW_mono a (fun c r1 => h _ _) hx
  | .e a, r, K, K', X, X', h, hx => by unfold tsW; exact exW_mono a (fun x r1 => der_mono fun d => truW_mono fun b => h _ _) hx
theorem exsW_mono : ∀ (e : Exs) {r : En} {K K' : List D → En → Prop} {X X' : XW}, (∀ x r, K x r → K' x r) → (∀ e r, X e r → X' e r) → exsW C e r K X → exsW C' e r K' X'
  | .nil, r, K, K', X, X', h, hx => by unfold exsW; exact h _ _
  | .cons e es, r, K, K', X, X', h, hx => by unfold exsW; exact exW_mono e (fun x r1 => frz_mono fun d r2 => exsW_mono es (fun ds r3 => h _ _) hx) hx
theorem argsW_mono : ∀ (e : Exs) {r : En} {K K' : List D → En → Prop} {X X' : XW}, (∀ x r, K x r → K' x r) → (∀ e r, X e r → X' e r) → argsW C e r K X → argsW C' e r K' X'
  | .nil, r, K, K', X, X', h, hx => by unfold argsW; exact h _ _
  | .cons e es, r, K, K', X, X', h, hx => by unfold argsW; exact exW_mono e (fun x r1 => argsW_mono es (fun ds r3 => der_mono fun d => h _ _) hx) hx
theorem opwW_mono : ∀ (e : Op) {r : En} {K K' : Option Int → En → Prop} {X X' : XW}, (∀ x r, K x r → K' x r) → (∀ e r, X e r → X' e r) → opwW C e r K X → opwW C' e r K' X'
  | .no, r, K, K', X, X', h, hx => by unfold opwW; exact h _ _
  | .so e, r, K, K', X, X', h, hx => by unfold opwW; exact exW_mono e (fun x r1 => der_mono fun d => by split <;> first | exact h _ _ | exact id) hx
theorem itW_mono : ∀ (e : It) {r : En} {K K' : List D → En → Prop} {X X' : XW}, (∀ x r, K x r → K' x r) → (∀ e r, X e r → X' e r) → itW C e r K X → itW C' e r K' X'
  | .e a, r, K, K', X, X', h, hx => by unfold itW; exact exW_mono a (fun x r1 => frz_mono fun d r2 => by split <;> first | exact h _ _ | exact id) hx
  | .r1 a, r, K, K', X, X', h, hx => by unfold itW; exact exW_mono a (fun x r1 => der_mono fun d => by split <;> first | exact fun q => ⟨q.1, h _ _ q.2⟩ | exact id) hx
  | .r2 a b, r, K, K', X, X', h, hx => by
    unfold itW; exact exW_mono a (fun x r1 => exW_mono b (fun y r2 => der_mono fun d => der_mono fun e => by
      split
      · split
        · exact fun q => ⟨q.1, h _ _ q.2⟩
        · exact id
      · exact id) hx) hx
  | .en a, r, K, K', X, X', h, hx => by unfold itW; exact exW_mono a (fun x r1 => frz_mono fun d r2 => by split <;> first | exact h _ _ | exact id) hx
  | .zip a b, r, K, K', X, X', h, hx => by
    unfold itW; exact exW_mono a (fun x r1 => frz_mono fun d r2 => exW_mono b (fun y r3 => frz_mono fun e r4 => by
      (repeat' split) <;> first | exact h _ _ | exact id) hx) hx
end
theorem rsW_mono : ∀ (e : Exs) {r : En} {K K' : List Rz → En → Prop} {X X' : XW}, (∀ x r, K x r → K' x r) → (∀ e r, X e r → X' e r) → rsW C e r K X → rsW C' e r K' X'
  | .nil, r, K, K', X, X', h, hx => by unfold rsW; exact h _ _
  | .cons e es, r, K, K', X, X', h, hx => by unfold rsW; exact exW_mono hC e (fun x r1 => frzS_mono fun y r2 => rsW_mono es (fun xs r2 => h _ _) hx) hx
end
structure Ks.Le (K K' : Ks) : Prop where
  nx : ∀ r, K.nx r → K'.nx r
  rt : ∀ d r, K.rt d r → K'.rt d r
  bk : ∀ r, K.bk r → K'.bk r
  ct : ∀ r, K.ct r → K'.ct r
  ex : ∀ e r, K.ex e r → K'.ex e r
theorem Ks.Le.loop {K K' : Ks} (h : K.Le K') {k k' : En → Prop} (hk : ∀ r, k r → k' r) : Ks.Le { K with nx := k, ct := k, bk := K.nx } { K' with nx := k', ct := k', bk := K'.nx } := ⟨hk, h.rt, h.nx, hk, h.ex⟩
theorem asgs_mono : ∀ (is : List Nat) (xs : List Rz) {r : En} {K K' : En → Prop}, (∀ r, K r → K' r) → asgs is xs r K → asgs is xs r K'
  | [], [], r, K, K', h => h _
  | i :: is, x :: xs, r, K, K', h => asg_mono fun r1 => asgs_mono is xs h
  | [], _ :: _, r, K, K', h => id
  | _ :: _, [], r, K, K', h => id
theorem forL_mono {f g : D → En → (En → Prop) → Prop} {K K' : En → Prop} (hf : ∀ d r k k', (∀ r, k r → k' r) → f d r k → g d r k') (h : ∀ r, K r → K' r) : ∀ (ds : List D) (r : En), forL f K ds r → forL g K' ds r
  | [], r => h r
  | d :: ds, r => hf d r _ _ fun r1 => forL_mono hf h ds r1
mutual
theorem hxW_mono {S : Nat → Nat → Bool} {e : Exn} : ∀ (x : Hx) {K K' : D → Prop}, (∀ d, K d → K' d) → hxW S e x K → hxW S e x K'
  | .b x, K, K', h => by unfold hxW; exact h _
  | .s x, K, K', h => by unfold hxW; exact h _
  | .i x, K, K', h => by unfold hxW; exact h _
  | .n, K, K', h => by unfold hxW; exact h _
  | .fld f, K, K', h => by unfold hxW; split <;> first | exact fun q => ⟨q.1, h _ q.2⟩ | exact id
  | .isA cs, K, K', h => by unfold hxW; exact h _
  | .nt a, K, K', h => by unfold hxW; exact hxW_mono a fun d => by split <;> first | exact h _ | exact id
  | .and a b, K, K', h => by
    unfold hxW; exact hxW_mono a fun d => by
      split
      · split
        · exact hxW_mono b h
        · exact h _
      · exact id
  | .ite t a b, K, K', h => by
    unfold hxW; exact hxW_mono t fun d => by
      split
      · split
        · exact hxW_mono a h
        · exact hxW_mono b h
      · exact id
  | .lst hs, K, K', h => by unfold hxW; exact hxsW_mono hs fun ds => h _
  | .tup hs, K, K', h => by unfold hxW; exact hxsW_mono hs fun ds => h _
theorem hxsW_mono {S : Nat → Nat → Bool} {e : Exn} : ∀ (x : Hxs) {K K' : List D → Prop}, (∀ d, K d → K' d) → hxsW S e x K → hxsW S e x K'
  | .nil, K, K', h => by unfold hxsW; exact h _
  | .cons x xs, K, K', h => by unfold hxsW; exact hxW_mono x fun d => hxsW_mono xs fun ds => h _
end
theorem huW_mono {S : Nat → Nat → Bool} {K K' : Ks} (h : K.Le K') {e : Exn} {r : En} : ∀ u : Hu, huW S K e r u → huW S K' e r u
  | .ret x => by unfold huW; exact hxW_mono x fun d => h.rt d r
  | .app i x => by unfold huW; exact hxW_mono x fun d => by split <;> first | exact fun q => ⟨q.1, h.nx _ q.2⟩ | exact id
  | .ifr t x u => by
    unfold huW; exact hxW_mono t fun d => by
      split
      · split
        · exact hxW_mono x fun d => h.rt d r
        · exact huW_mono h u
      · exact id
theorem hdW_mono {S : Nat → Nat → Bool} {K K' : Ks} (h : K.Le K') {e : Exn} {r : En} : ∀ hs : Hds, hdW S K e r hs → hdW S K' e r hs
  | .nil => by unfold hdW; exact h.ex _ _
  | .cons c n x hs => by
    unfold hdW; split
    · exact huW_mono h x
    · exact hdW_mono h hs
section
variable {C C' : Calls} (hC : CLe C C') {S : Nat → Nat → Bool}
include hC
theorem whlW_mono {t t' : En → (Bool → En → Prop) → Prop} {b b' : En → (En → Prop) → Prop} {K K' : En → Prop} (ht : ∀ r k k', (∀ c r, k c r → k' c r) → t r k → t' r k') (hb : ∀ r k k', (∀ r, k r → k' r) → b r k → b' r k')
    (h : ∀ r, K r → K' r) {r : En} : whlW t b K r → whlW t' b' K' r := by
  rintro ⟨W, hm, hW⟩
  refine ⟨W, hm, fun m r w => ht r _ _ (fun c r1 => ?_) (hW m r w)⟩
  split
  · exact hb _ _ _ fun _ => id
  · exact h _
mutual
theorem stW_mono : ∀ (s : St) {r : En} {K K' : Ks}, K.Le K' → stW C S s r K → stW C' S s r K'
  | .set i e, r, K, K', h => by unfold stW; exact exW_mono hC e (fun x r1 => asg_mono h.nx) h.ex
  | .par is es, r, K, K', h => by unfold stW; exact rsW_mono hC es (fun x r1 => asgs_mono _ _ h.nx) h.ex
  | .unp t e, r, K, K', h => by unfold stW; exact exW_mono hC e (fun x r1 => frz_mono fun d r2 => tgW_mono t h.nx) h.ex
  | .ret e, r, K, K', h => by unfold stW; exact exW_mono hC e (fun x r1 => frz_mono fun d r2 => h.rt _ _) h.ex
  | .retN, r, K, K', h => by unfold stW; exact h.rt _ _
  | .drop e, r, K, K', h => by unfold stW; exact exW_mono hC e (fun x r1 => h.nx _) h.ex
  | .ifs t a b, r, K, K', h => by
    unfold stW; exact tsW_mono hC t (fun c r1 => by
      split
      · exact stsW_mono a h
      · exact stsW_mono b h) h.ex
  | .whl t b, r, K, K', h => by
    unfold stW; exact whlW_mono hC (fun r k k' hk => tsW_mono hC t (r := r) hk h.ex) (fun r k k' hk => stsW_mono b (r := r) (h.loop hk)) h.nx
  | .fr t w b, r, K, K', h => by
    unfold stW; exact itW_mono hC w (fun ds r1 => forL_mono (fun d r k k' hk => tgW_mono t (d := d) (r := r) fun r2 => stsW_mono b (r := r2) (h.loop hk)) h.nx _ _) h.ex
  | .app i e, r, K, K', h => by
    unfold stW; exact fun q0 => ⟨q0.1, exW_mono hC e (fun x r1 => frz_mono fun d r2 => by split <;> first | exact fun q => ⟨q.1, h.nx _ q.2⟩ | exact id) h.ex q0.2⟩
  | .ext i e, r, K, K', h => by
    unfold stW; exact fun q0 => ⟨q0.1, exW_mono hC e (fun x r1 => frz_mono fun d r2 => by
      split
      · split <;> first | exact fun q => ⟨q.1, h.nx _ q.2⟩ | exact id
      · exact id) h.ex q0.2⟩
  | .ins i a e, r, K, K', h => by
    unfold stW; exact fun q0 => ⟨q0.1, exW_mono hC a (fun x r1 => der_mono fun k => exW_mono hC e (fun y r2 => frz_mono fun d r3 => by
      split
      · split <;> first | exact fun q => ⟨q.1, h.nx _ q.2⟩ | exact id
      · exact id) h.ex) h.ex q0.2⟩
  | .put i a e, r, K, K', h => by
    unfold stW; exact fun q0 => ⟨q0.1, exW_mono hC e (fun y r1 => frz_mono fun d r2 => exW_mono hC a (fun x r3 => der_mono fun k => by
      split
      · split
        · split <;> first | exact h.nx _ | exact id
        · exact id
      · exact id) h.ex) h.ex q0.2⟩
  | .ja s e, r, K, K', h => by
    unfold stW; exact fun q0 => ⟨q0.1, exW_mono hC e (fun x r1 => der_mono fun d => by
      split
      · split
        · split <;> first | exact fun q => ⟨q.1, h.nx _ q.2⟩ | exact id
        · exact id
      · exact id) h.ex q0.2⟩
  | .ji s e, r, K, K', h => by
    unfold stW; exact fun q0 => ⟨q0.1, exW_mono hC e (fun x r1 => der_mono fun d => by
      split
      · split
        · split <;> first | exact fun q => ⟨q.1, h.nx _ q.2⟩ | exact id
        · exact id
      · exact id) h.ex q0.2⟩
  | .js i k e, r, K, K', h => by
    unfold stW; exact exW_mono hC e (fun x r1 => der_mono fun d => by
      split
      · refine fun q => ⟨q.1, ?_⟩
        have q2 := q.2
        revert q2
        split
        · exact h.nx _
        · exact id
      · exact id) h.ex
  | .jl j i k, r, K, K', h => by
    unfold stW
    refine fun q => ⟨q.1, ?_⟩
    have q2 := q.2
    revert q2
    split
    · exact h.nx _
    · exact id
  | .rais c f es, r, K, K', h => by unfold stW; exact exsW_mono hC es (fun ds r1 => h.ex _ _) h.ex
  | .bomb, r, K, K', h => by unfold stW; exact id
  | .pass, r, K, K', h => by unfold stW; exact h.nx _
  | .brk, r, K, K', h => by unfold stW; exact h.bk _
  | .cont, r, K, K', h => by unfold stW; exact h.ct _
  | .tri b hs, r, K, K', h => by unfold stW; exact stsW_mono b ⟨h.nx, h.rt, h.bk, h.ct, fun e r1 => hdW_mono h hs⟩
theorem stsW_mono : ∀ (s : Sts) {r : En} {K K' : Ks}, K.Le K' → stsW C S s r K → stsW C' S s r K'
  | .nil, r, K, K', h => by unfold stsW; exact h.nx _
  | .cons s ss, r, K, K', h => by unfold stsW; exact stW_mono s ⟨fun r1 => stsW_mono ss h, h.rt, h.bk, h.ct, h.ex⟩
end
end
def Tb.Ok (T : Tb) : Prop := ∀ f P, T.fn f = some (.pr P) → ∀ ds g (K K' : D → Gh → Prop), (∀ d g, K d g → K' d g) → P ds g K → P ds g K'
theorem top_le {K K' : D → Gh → Prop} {X X' : Exn → Gh → Prop} (h : ∀ d g, K d g → K' d g) (hx : ∀ e g, X e g → X' e g) : Ks.Le { nx := fun r => K .none r.g, rt := fun d r => K d r.g, bk := fun _ => False, ct := fun _ => False, ex := fun e r => X e r.g } { nx := fun r => K' .none r.g, rt := fun d r => K' d r.g, bk := fun _ => False, ct := fun _ => False, ex := fun e r => X' e r.g } :=
  ⟨fun r => h _ _, fun d r => h _ _, fun _ => id, fun _ => id, fun e r => hx e _⟩
theorem callW_mono {T : Tb} (ok : T.Ok) : ∀ n, CMono (callW T n)
  | 0 => fun _ _ _ _ _ _ _ _ _ q => q
  | n + 1 => fun f ds g K K' X X' h hx => by
    unfold callW
    split
    · exact fun q => ⟨q.1, stsW_mono (callW_mono ok n) _ (top_le h hx) q.2⟩
    · rename_i P e
      exact ok f P e ds g K K' h
    · exact id
/-- more room -/
theorem callW_more {T : Tb} (ok : T.Ok) : ∀ n, CLe (callW T n) (callW T (n + 1))
  | 0 => fun _ _ _ _ _ _ _ _ _ q => (show False from q).elim
  | n + 1 => fun f ds g K K' X X' h hx => by
    intro q
    unfold callW at q ⊢
    split at q
    · rename_i np ns b e
      exact ⟨q.1, stsW_mono (callW_more ok n) _ (top_le h hx) q.2⟩
    · rename_i P e
      exact ok f P e ds g K K' h q
    · exact q.elim
theorem callW_le {T : Tb} (ok : T.Ok) {f : Nat} {ds : List D} {g : Gh} {K : D → Gh → Prop} {X : Exn → Gh → Prop} {n m : Nat} (h : n ≤ m) (q : callW T n f ds g K X) : callW T m f ds g K X := by
  induction h with
  | refl => exact q
  | step _ ih => exact callW_more ok _ _ _ _ _ _ _ _ (fun _ _ => id) (fun _ _ => id) ih
end G

set_option linter.all false
set_option maxRecDepth 100000
set_option Elab.async false
/-! Sa: plain data in the abstract heap; what stands behind a piece of core syntax. -/
namespace G
open PySem PySem.Spec PyProof.Rows L2

/-- the law's own random state: where it stands, which addresses are its own, what is true of it -/
structure Jar where
  at_ : Option Addr
  L : Sum Int Str → Option Addr
  A : Addr → Prop
  P : Gh → Hp → Prop
  there : ∀ g H b, P g H → A b → H b ≠ none
  stable : ∀ g H H', P g H → (∀ b, A b → H' b = H b) → P g H'

mutual
inductive Rep (K : PySem.W.Frag) (J : Jar) (Z : Hp) : V → D → Prop
  | non : Rep K J Z .non .none
  | bl (b : Bool) : Rep K J Z (.bl b) (.bool b)
  | int (i : Int) : Rep K J Z (.int i) (.int i)
  | str (x : Str) : Rep K J Z (.str x) (.str x)
  | lst {a : Addr} {xs : List V} {ds : List D} : Z a = some (.lst xs) → RepL K J Z xs ds → Rep K J Z (.ref a) (.list ds)
  | tup {a : Addr} {xs : List V} {ds : List D} : SqT K Z a xs → RepL K J Z xs ds → Rep K J Z (.ref a) (.tuple ds)
  | jar {a : Addr} : J.at_ = some a → Rep K J Z (.ref a) JAR
  | dct {a : Addr} : Z a = some (.dK []) → Rep K J Z (.ref a) (.dict [])
inductive RepL (K : PySem.W.Frag) (J : Jar) (Z : Hp) : List V → List D → Prop
  | nil : RepL K J Z [] []
  | cons {v : V} {vs : List V} {d : D} {ds : List D} : Rep K J Z v d → RepL K J Z vs ds → RepL K J Z (v :: vs) (d :: ds)
end
section
variable {K : PySem.W.Frag} {J : Jar} {Z Z' H F : Hp}
theorem sqT_mono {H H' : Hp} {a : Addr} {xs : List V} (e : Same H H') (h : SqT K H a xs) : SqT K H' a xs := by
  rcases h with (h | ⟨o, h⟩) | h
  · exact .inl (.inl (e _ _ h))
  · exact .inl (.inr ⟨o, e _ _ h⟩)
  · exact .inr h
mutual
theorem Rep.mono (s : Same Z Z') : ∀ {v : V} {d : D}, Rep K J Z v d → Rep K J Z' v d
  | _, _, .non => .non
  | _, _, .bl b => .bl b
  | _, _, .int b => .int b
  | _, _, .str b => .str b
  | _, _, .lst h l => .lst (s _ _ h) (RepL.mono s l)
  | _, _, .tup h l => .tup (sqT_mono s h) (RepL.mono s l)
  | _, _, .jar h => .jar h
  | _, _, .dct h => .dct (s _ _ h)
theorem RepL.mono (s : Same Z Z') : ∀ {v : List V} {d : List D}, RepL K J Z v d → RepL K J Z' v d
  | _, _, .nil => .nil
  | _, _, .cons h l => .cons (Rep.mono s h) (RepL.mono s l)
end
theorem RepL.length : ∀ {v : List V} {d : List D}, RepL K J Z v d → v.length = d.length
  | _, _, .nil => rfl
  | _, _, .cons _ l => by rw [List.length_cons, List.length_cons, RepL.length l]
theorem RepL.append : ∀ {v w : List V} {d e : List D}, RepL K J Z v d → RepL K J Z w e → RepL K J Z (v ++ w) (d ++ e)
  | _, _, _, _, .nil, s => s
  | _, _, _, _, .cons h l, s => .cons h (RepL.append l s)
theorem RepL.take : ∀ {v : List V} {d : List D} (n : Nat), RepL K J Z v d → RepL K J Z (v.take n) (d.take n)
  | _, _, 0, _ => .nil
  | _, _, _ + 1, .nil => .nil
  | _, _, n + 1, .cons h l => .cons h (RepL.take n l)
theorem RepL.drop : ∀ {v : List V} {d : List D} (n : Nat), RepL K J Z v d → RepL K J Z (v.drop n) (d.drop n)
  | _, _, 0, h => h
  | _, _, _ + 1, .nil => .nil
  | _, _, n + 1, .cons h l => RepL.drop n l
theorem RepL.reverse {v : List V} {d : List D} (h : RepL K J Z v d) : RepL K J Z v.reverse d.reverse := by
  induction v generalizing d with
  | nil => cases h; exact .nil
  | cons x xs ih =>
    cases h with
    | cons h1 h2 => rw [List.reverse_cons, List.reverse_cons]; exact (ih h2).append (.cons h1 .nil)
theorem RepL.get : ∀ {v : List V} {d : List D} {i : Nat} {x : D}, RepL K J Z v d → d[i]? = some x → ∃ y, v[i]? = some y ∧ Rep K J Z y x
  | _, _, _, _, .nil, e => by simp at e
  | _, _, 0, _, .cons h _, e => by simp at e; subst e; exact ⟨_, rfl, h⟩
  | _, _, i + 1, x, .cons _ t, e => by
    obtain ⟨u, h1, h2⟩ := RepL.get (i := i) (x := x) t (by simpa using e)
    exact ⟨u, by simpa using h1, h2⟩
theorem RepL.getV : ∀ {v : List V} {d : List D} {i : Nat} {y : V}, RepL K J Z v d → v[i]? = some y → ∃ x, d[i]? = some x ∧ Rep K J Z y x
  | _, _, _, _, .nil, e => by simp at e
  | _, _, 0, _, .cons h _, e => by simp at e; subst e; exact ⟨_, rfl, h⟩
  | _, _, i + 1, x, .cons _ t, e => by
    obtain ⟨u, h1, h2⟩ := RepL.getV (i := i) (y := x) t (by simpa using e)
    exact ⟨u, by simpa using h1, h2⟩
theorem RepL.set : ∀ {v : List V} {d : List D} {x : V} {y : D} (i : Nat), RepL K J Z v d → Rep K J Z x y → RepL K J Z (v.set i x) (d.set i y)
  | _, _, _, _, _, .nil, _ => .nil
  | _, _, _, _, 0, .cons _ l, r => .cons r l
  | _, _, _, _, i + 1, .cons h l, r => .cons h (RepL.set i l r)
theorem RepL.eraseIdx : ∀ {v : List V} {d : List D} (i : Nat), RepL K J Z v d → RepL K J Z (v.eraseIdx i) (d.eraseIdx i)
  | _, _, _, .nil => .nil
  | _, _, 0, .cons _ l => l
  | _, _, i + 1, .cons h l => .cons h (RepL.eraseIdx i l)
theorem RepL.rep {v : List V} {d : List D} (h : RepL K J Z v d) : ∀ k : Nat, RepL K J Z (List.replicate k v).flatten (List.replicate k d).flatten
  | 0 => .nil
  | k + 1 => by rw [List.replicate_succ, List.replicate_succ, List.flatten_cons, List.flatten_cons]; exact h.append (RepL.rep h k)
theorem RepL.ints : ∀ {v : List V} {d : List D} {ns : List Int}, RepL K J Z v d → asInts d = some ns → v = ns.map V.int ∧ d = ns.map .int
  | _, [], ns, .nil, e => by cases e; exact ⟨rfl, rfl⟩
  | _, d :: ds, ns, .cons h l, e => by
    cases h with
    | int i =>
      unfold asInts at e
      cases q : asInts ds with
      | none => rw [q] at e; cases e
      | some ms =>
        rw [q] at e; cases e
        obtain ⟨h1, h2⟩ := RepL.ints l q
        exact ⟨by rw [h1]; rfl, by rw [h2]; rfl⟩
    | _ => cases e
theorem RepL.bools : ∀ {v : List V} {d : List D} {ns : List Bool}, RepL K J Z v d → asBools d = some ns → v = ns.map V.bl
  | _, [], ns, .nil, e => by cases e; rfl
  | _, d :: ds, ns, .cons h l, e => by
    cases h with
    | bl i =>
      unfold asBools at e
      cases q : asBools ds with
      | none => rw [q] at e; cases e
      | some ms =>
        rw [q] at e; cases e
        rw [RepL.bools l q]; rfl
    | _ => cases e
theorem RepL.ofInts : ∀ ns : List Int, RepL K J Z (ns.map V.int) (ns.map .int)
  | [] => .nil
  | n :: ns => .cons (.int n) (RepL.ofInts ns)

/-- a data object at the heap, its items given up -/
def RepS (K : PySem.W.Frag) (J : Jar) (H Z : Hp) (v : V) (d : D) : Prop :=
  match d with
  | .list ds => ∃ a vs, v = .ref a ∧ H a = some (.lst vs) ∧ vs.length ≤ sizeLine ∧ RepL K J Z vs ds
  | d => Rep K J Z v d

mutual
theorem Rep.dp (s : Same Z H) : ∀ {v : V} {d : D}, Rep K J Z v d → d.hasDict = false → Dp K H v d
  | _, _, .non, _ => .non
  | _, _, .bl b, _ => .bl b
  | _, _, .int b, _ => .int b
  | _, _, .str b, _ => .str b
  | _, _, .lst h l, n => .lst (.of (s _ _ h)) (RepL.dp s l (by simpa only [PyData.hasDict] using n))
  | _, _, .tup h l, n => .tup (sqT_mono s h) (RepL.dp s l (by simpa only [PyData.hasDict] using n))
  | _, _, .jar h, n => by simp [JAR, PyData.hasDict] at n
  | _, _, .dct h, n => by simp [PyData.hasDict] at n
theorem RepL.dp (s : Same Z H) : ∀ {v : List V} {d : List D}, RepL K J Z v d → PyData.hasDictAll d = false → DpAll K H v d
  | _, _, .nil, _ => .nil
  | _, _, .cons h l, n => by
    simp only [PyData.hasDictAll, Bool.or_eq_false_iff] at n
    exact .cons (Rep.dp s h n.1) (RepL.dp s l n.2)
end
theorem RepS.dp (s : Same Z H) {v : V} {d : D} (h : RepS K J H Z v d) (n : d.hasDict = false) : Dp K H v d := by
  cases d with
  | list ds =>
    obtain ⟨a, vs, rfl, e, _, l⟩ := h
    exact .lst (.of e) (l.dp s (by simpa only [PyData.hasDict] using n))
  | _ => exact Rep.dp s h n
end

/-- what must stand: the objects as they are, and the addresses that are not given up -/
structure Fm where
  o : Hp
  g : Addr → Prop
/-- the state of a body: F what must stand as it is, Z what is given up, r what the slots hold -/
structure Rel (K : PySem.W.Frag) (J : Jar) (F : Fm) (σ : L2.St) (H Z : Hp) (r : En) : Prop where
  sub : Same Z H
  frame : ∀ b o, F.o b = some o → ¬ J.A b → H b = some o
  jar : J.P r.g H
  jz : ∀ b, J.A b → Z b = none
  len : σ.length = r.length
  fz : ∀ i d, rd r i = .fz d → ∃ v, σ[i]? = some (some v) ∧ Rep K J Z v d
  ow : ∀ i ds, rd r i = .ow ds → ∃ a vs, σ[i]? = some (some (.ref a)) ∧ H a = some (.lst vs) ∧ vs.length ≤ sizeLine ∧ RepL K J Z vs ds ∧ Z a = none ∧ F.o a = none ∧ ¬ J.A a
  sep : ∀ i j ds es a, rd r i = .ow ds → rd r j = .ow es → σ[i]? = some (some (.ref a)) → σ[j]? = some (some (.ref a)) → i = j
  zs : ∀ a xs, Z a = some (.lst xs) ∨ Z a = some (.tup xs) → xs.length ≤ sizeLine
  zo : ∀ a o, Z a = some o → (∃ xs, o = .lst xs) ∨ (∃ xs, o = .tup xs) ∨ o = .dK []
  ng : ∀ b, F.g b → Z b = none
  gf : ∀ b, F.g b → F.o b ≠ none
  al : ∀ i k, rd r i = .al k → ∃ l, J.L k = some l ∧ J.A l ∧ σ[i]? = some (some (.ref l))

def RepR (K : PySem.W.Frag) (J : Jar) (F : Fm) (σ : L2.St) (H Z : Hp) (r : En) (x : Rz) (v : V) : Prop :=
  match x with
  | .val d => Rep K J Z v d
  | .new ds => ∃ a vs, v = .ref a ∧ H a = some (.lst vs) ∧ vs.length ≤ sizeLine ∧ RepL K J Z vs ds ∧ Z a = none ∧ F.o a = none ∧ ¬ J.A a ∧ ∀ i es, rd r i = .ow es → σ[i]? ≠ some (some (.ref a))
  | .sl i => σ[i]? = some (some v) ∧ rd r i ≠ .un
/-- the same, where it stands also behind further steps -/
def Pin (K : PySem.W.Frag) (J : Jar) (σ : L2.St) (Z : Hp) (x : Rz) (v : V) : Prop :=
  match x with
  | .val d => Rep K J Z v d
  | .new ds => Rep K J Z v (.list ds)
  | .sl i => σ[i]? = some (some v)

theorem Same.upd {H : Hp} {p : Addr} {o : HO} (h : H p = none) : Same H (upd H p o) := fun b x e => by
  rw [upd_ne (ne_of_none e h)]
  exact e
theorem rd_lt {r : En} {i : Nat} (h : rd r i ≠ .un) : i < r.length := by
  unfold rd at h
  unfold En.length
  rw [List.getD_eq_getElem?_getD] at h
  by_cases q : i < r.s.length
  · exact q
  · rw [List.getElem?_eq_none (by omega)] at h
    exact absurd rfl h
theorem rd_set {r : En} {i j : Nat} {s : Slot} : rd (r.set i s) j = if i = j ∧ i < r.length then s else rd r j := by
  unfold rd En.set En.length
  dsimp only
  rw [List.getD_eq_getElem?_getD, List.getD_eq_getElem?_getD, List.getElem?_set]
  by_cases h : i = j
  · subst h
    by_cases q : i < r.s.length
    · simp [q]
    · simp [q, List.getElem?_eq_none (Nat.le_of_not_lt q)]
  · simp [h]
theorem rd_same {r : En} {i : Nat} {s : Slot} (h : i < r.length) : rd (r.set i s) i = s := by rw [rd_set, if_pos ⟨rfl, h⟩]
theorem rd_ne {r : En} {i j : Nat} {s : Slot} (h : i ≠ j) : rd (r.set i s) j = rd r j := by rw [rd_set, if_neg fun q => h q.1]

section
variable {K : PySem.W.Frag} {J : Jar} {F : Fm} {σ : L2.St} {H Z : Hp} {r : En}
theorem Rel.alS (R : Rel K J F σ H Z r) {i : Nat} {s : Slot} (n : ∀ k, s ≠ .al k) : ∀ j k, rd (r.set i s) j = .al k → i ≠ j ∧ ∃ l, J.L k = some l ∧ J.A l ∧ σ[j]? = some (some (.ref l)) := fun j k h => by
  by_cases ij : i = j
  · subst ij
    have il : i < r.length := by
      have := rd_lt (r := r.set i s) (i := i) (by rw [h]; exact fun z => by cases z)
      rwa [En.length_set] at this
    rw [rd_same il] at h
    exact absurd h (n k)
  · rw [rd_ne ij] at h
    exact ⟨ij, R.al j k h⟩
theorem Rel.alV (R : Rel K J F σ H Z r) {i : Nat} {s : Slot} {v : Option V} (n : ∀ k, s ≠ .al k) : ∀ j k, rd (r.set i s) j = .al k → ∃ l, J.L k = some l ∧ J.A l ∧ (σ.set i v)[j]? = some (some (.ref l)) := fun j k h => by
  obtain ⟨ij, l, h1, h2, h3⟩ := R.alS n j k h
  exact ⟨l, h1, h2, by rw [List.getElem?_set_ne ij]; exact h3⟩
/-- a new address -/
theorem Rel.fresh (R : Rel K J F σ H Z r) {p : Addr} (h : H p = none) : Z p = none ∧ F.o p = none ∧ ¬ J.A p ∧ ∀ i es, rd r i = .ow es → σ[i]? ≠ some (some (.ref p)) := by
  have nj : ¬ J.A p := fun q => R.jar |> fun j => J.there _ H p j q h
  refine ⟨R.sub.free h, ?_, nj, fun i es e q => ?_⟩
  · cases e : F.o p with
    | none => rfl
    | some o => rw [R.frame p o e nj] at h; cases h
  · obtain ⟨a, vs, e1, e2, _⟩ := R.ow i es e
    rw [q] at e1
    cases e1
    rw [h] at e2
    cases e2
/-- a new object comes that is not given up -/
theorem Rel.grow (R : Rel K J F σ H Z r) {p : Addr} {o : HO} (h : H p = none) : Rel K J F σ (upd H p o) Z r := by
  have s : Same H (upd H p o) := Same.upd h
  obtain ⟨_, _, nj, _⟩ := R.fresh h
  refine ⟨R.sub.trans s, fun b o' e n => s _ _ (R.frame b o' e n), J.stable _ H _ R.jar fun b hb => ?_, R.jz, R.len, R.fz, fun i ds e => ?_, R.sep, R.zs, R.zo, R.ng, R.gf, R.al⟩
  · rw [upd_ne]; rintro rfl; exact nj hb
  · obtain ⟨a, vs, e1, e2, e3⟩ := R.ow i ds e
    exact ⟨a, vs, e1, s _ _ e2, e3⟩
/-- a new object comes, given up at once -/
theorem Rel.lay (R : Rel K J F σ H Z r) {p : Addr} {o : HO} (h : H p = none) (z : ∀ xs, o = .lst xs ∨ o = .tup xs → xs.length ≤ sizeLine) (zo : (∃ xs, o = .lst xs) ∨ (∃ xs, o = .tup xs) ∨ o = .dK []) : Same Z (upd Z p o) ∧ Rel K J F σ (upd H p o) (upd Z p o) r := by
  obtain ⟨hz, hf, nj, hs⟩ := R.fresh h
  have G := R.grow (o := o) h
  have s : Same Z (upd Z p o) := Same.upd hz
  refine ⟨s, fun b x e => ?_, G.frame, G.jar, fun b hb => ?_, G.len, fun i d e => ?_, fun i ds e => ?_, G.sep, fun a xs e => ?_, fun a x e => ?_, fun b hb => ?_, G.gf, G.al⟩
  · by_cases q : b = p
    · subst q; rw [upd_same] at e ⊢; exact e
    · rw [upd_ne q] at e; exact G.sub b x e
  · rw [upd_ne]
    · exact R.jz b hb
    · rintro rfl; exact nj hb
  · obtain ⟨v, e1, e2⟩ := R.fz i d e
    exact ⟨v, e1, e2.mono s⟩
  · obtain ⟨a, vs, e1, e2, e3, e4, e5, e6⟩ := G.ow i ds e
    refine ⟨a, vs, e1, e2, e3, e4.mono s, ?_, e6⟩
    rw [upd_ne]
    · exact e5
    · rintro rfl; exact hs i ds e e1
  · by_cases q : a = p
    · subst q; rw [upd_same] at e
      exact z xs (by rcases e with e | e <;> cases e; exact .inl rfl; exact .inr rfl)
    · rw [upd_ne q] at e; exact R.zs a xs e
  · by_cases q : a = p
    · subst q; rw [upd_same] at e; cases e; exact zo
    · rw [upd_ne q] at e; exact R.zo a x e
  · rw [upd_ne]
    · exact R.ng b hb
    · rintro rfl; exact R.gf _ hb hf
/-- what nobody holds is given up -/
theorem Rel.give (R : Rel K J F σ H Z r) {a : Addr} {vs : List V} (h : H a = some (.lst vs)) (hz : Z a = none) (hf : F.o a = none) (nj : ¬ J.A a) (hl : vs.length ≤ sizeLine) (hs : ∀ i es, rd r i = .ow es → σ[i]? ≠ some (some (.ref a))) :
    Same Z (upd Z a (.lst vs)) ∧ Rel K J F σ H (upd Z a (.lst vs)) r := by
  have s : Same Z (upd Z a (.lst vs)) := Same.upd hz
  refine ⟨s, fun b x e => ?_, R.frame, R.jar, fun b hb => ?_, R.len, fun i d e => ?_, fun i ds e => ?_, R.sep, fun b xs e => ?_, fun b x e => ?_, fun b hb => ?_, R.gf, R.al⟩
  · by_cases q : b = a
    · subst q; rw [upd_same] at e; cases e; exact h
    · rw [upd_ne q] at e; exact R.sub b x e
  · rw [upd_ne]
    · exact R.jz b hb
    · rintro rfl; exact nj hb
  · obtain ⟨v, e1, e2⟩ := R.fz i d e
    exact ⟨v, e1, e2.mono s⟩
  · obtain ⟨b, ws, e1, e2, e3, e4, e5, e6⟩ := R.ow i ds e
    refine ⟨b, ws, e1, e2, e3, e4.mono s, ?_, e6⟩
    rw [upd_ne]
    · exact e5
    · rintro rfl; exact hs i ds e e1
  · by_cases q : b = a
    · subst q; rw [upd_same] at e
      rcases e with e | e <;> cases e
      exact hl
    · rw [upd_ne q] at e; exact R.zs b xs e
  · by_cases q : b = a
    · subst q; rw [upd_same] at e; cases e; exact .inl ⟨_, rfl⟩
    · rw [upd_ne q] at e; exact R.zo b x e
  · rw [upd_ne]
    · exact R.ng b hb
    · rintro rfl; exact R.gf _ hb hf
theorem Rel.pinned (R : Rel K J F σ H Z r) {x : Rz} {v : V} (h : RepR K J F σ H Z r x v) : ∃ Z', Same Z Z' ∧ Rel K J F σ H Z' r ∧ Pin K J σ Z' x v := by
  cases x with
  | val d => exact ⟨Z, .refl _, R, h⟩
  | sl i => exact ⟨Z, .refl _, R, h.1⟩
  | new ds =>
    obtain ⟨a, vs, rfl, e1, e2, e3, e4, e5, e6, e7⟩ := h
    obtain ⟨s, R'⟩ := R.give e1 e4 e5 e6 e2 e7
    exact ⟨_, s, R', .lst upd_same (e3.mono s)⟩
theorem Pin.mono {Z' : Hp} {x : Rz} {v : V} (s : Same Z Z') (h : Pin K J σ Z x v) : Pin K J σ Z' x v := by
  cases x with
  | val d => exact Rep.mono s h
  | sl i => exact h
  | new ds => exact Rep.mono s h
theorem Rel.repS (R : Rel K J F σ H Z r) {v : V} {d : D} (h : Rep K J Z v d) : RepS K J H Z v d := by
  cases h with
  | lst h l => exact ⟨_, _, rfl, R.sub _ _ h, R.zs _ _ (.inl h), l⟩
  | tup h l => exact .tup h l
  | jar h => exact .jar h
  | dct h => exact .dct h
  | non => exact .non
  | bl b => exact .bl b
  | int b => exact .int b
  | str b => exact .str b
/-- a value is read -/
theorem Rel.der (R : Rel K J F σ H Z r) {x : Rz} {v : V} {Q : D → Prop} (h : Pin K J σ Z x v) (q : der r x Q) : ∃ d, RepS K J H Z v d ∧ Q d := by
  cases x with
  | val d => exact ⟨d, R.repS h, q⟩
  | new ds => exact ⟨.list ds, R.repS h, q⟩
  | sl i =>
    unfold G.der at q
    dsimp only at q
    split at q
    · rename_i ds e
      obtain ⟨a, vs, e1, e2, e3, e4, _⟩ := R.ow i ds e
      have e0 : σ[i]? = some (some v) := h
      rw [e0] at e1
      cases e1
      exact ⟨.list ds, ⟨a, vs, rfl, e2, e3, e4⟩, q⟩
    · rename_i d e
      obtain ⟨w, e1, e2⟩ := R.fz i d e
      have e0 : σ[i]? = some (some v) := h
      rw [e0] at e1
      cases e1
      exact ⟨d, R.repS e2, q⟩
    · exact q.elim
/-- a value is given up -/
theorem Rel.frz (R : Rel K J F σ H Z r) {x : Rz} {v : V} {Q : D → En → Prop} (h : RepR K J F σ H Z r x v) (q : frz r x Q) : ∃ d r' Z', Same Z Z' ∧ Rel K J F σ H Z' r' ∧ Rep K J Z' v d ∧ Q d r' := by
  cases x with
  | val d => exact ⟨d, r, Z, .refl _, R, h, q⟩
  | new ds =>
    obtain ⟨a, vs, rfl, e1, e2, e3, e4, e5, e6, e7⟩ := h
    obtain ⟨s, R'⟩ := R.give e1 e4 e5 e6 e2 e7
    exact ⟨.list ds, r, _, s, R', .lst upd_same (e3.mono s), q⟩
  | sl i =>
    obtain ⟨h, hn⟩ := h
    unfold G.frz at q
    dsimp only at q
    split at q
    · rename_i ds e
      obtain ⟨a, vs, e1, e2, e3, e4, e5, e6, e7⟩ := R.ow i ds e
      rw [h] at e1
      cases e1
      have il : i < r.length := rd_lt hn
      -- the slot lets go of it
      have R1 : Rel K J F σ H Z (r.set i .un) := by
        refine ⟨R.sub, R.frame, R.jar, R.jz, by rw [En.length_set]; exact R.len, fun j d ej => ?_, fun j es ej => ?_, fun j k es fs b ej ek => ?_, R.zs, R.zo, R.ng, R.gf, fun j k h => (R.alS (fun k z => by cases z) j k h).2⟩
        · by_cases ij : i = j
          · subst ij; rw [rd_same il] at ej; cases ej
          · rw [rd_ne ij] at ej; exact R.fz j d ej
        · by_cases ij : i = j
          · subst ij; rw [rd_same il] at ej; cases ej
          · rw [rd_ne ij] at ej; exact R.ow j es ej
        · by_cases ij : i = j
          · subst ij; rw [rd_same il] at ej; cases ej
          · rw [rd_ne ij] at ej
            by_cases ik : i = k
            · subst ik; rw [rd_same il] at ek; cases ek
            · rw [rd_ne ik] at ek; exact R.sep j k es fs b ej ek
      obtain ⟨s, R2⟩ := R1.give e2 e5 e6 e7 e3 fun j es ej ej2 => by
        by_cases ij : i = j
        · subst ij; rw [rd_same il] at ej; cases ej
        · rw [rd_ne ij] at ej
          exact ij (R.sep i j ds es a e ej h ej2)
      refine ⟨.list ds, _, _, s, ?_, .lst upd_same (e4.mono s), q⟩
      refine ⟨R2.sub, R2.frame, R2.jar, R2.jz, by rw [En.length_set]; exact R.len, fun j d ej => ?_, fun j es ej => ?_, fun j k es fs b ej ek => ?_, R2.zs, R2.zo, R2.ng, R2.gf, fun j k h => (R.alS (s := .fz (.list ds)) (fun k z => by cases z) j k h).2⟩
      · by_cases ij : i = j
        · subst ij; rw [rd_same il] at ej; cases ej
          exact ⟨_, h, .lst upd_same (e4.mono s)⟩
        · rw [rd_ne ij] at ej; exact R2.fz j d (by rw [rd_ne ij]; exact ej)
      · by_cases ij : i = j
        · subst ij; rw [rd_same il] at ej; cases ej
        · rw [rd_ne ij] at ej; exact R2.ow j es (by rw [rd_ne ij]; exact ej)
      · by_cases ij : i = j
        · subst ij; rw [rd_same il] at ej; cases ej
        · rw [rd_ne ij] at ej
          by_cases ik : i = k
          · subst ik; rw [rd_same il] at ek; cases ek
          · rw [rd_ne ik] at ek; exact R.sep j k es fs b ej ek
    · rename_i d e
      obtain ⟨w, e1, e2⟩ := R.fz i d e
      rw [h] at e1
      cases e1
      exact ⟨d, r, Z, .refl _, R, e2, q⟩
    · exact q.elim
end
end G

set_option linter.all false
set_option maxRecDepth 100000
set_option Elab.async false
/-! Kw: how keywords bind in a plain def. -/
namespace G
open PySem PySem.Spec PyProof.Rows L2
theorem forIn_inv {α σ : Type} {f : α → σ → Sem (ForInStep σ)} {g : σ → α → σ} (P : List α → σ → Prop) (hf : ∀ a l b, P (a :: l) b → f a b = pure (.yield (g b a)) ∧ P l (g b a)) : ∀ (l : List α) (b : σ), P l b → forIn l b f = pure (l.foldl g b)
  | [], b, _ => by rw [List.forIn_nil]; rfl
  | a :: l, b, h => by
    obtain ⟨h1, h2⟩ := hf a l b h
    rw [List.forIn_cons, h1]
    show forIn l (g b a) f = _
    rw [forIn_inv P hf l (g b a) h2]
    rfl
/-- a def with plain parameters only -/
structure Plain (fd : FuncData) (ps : List Str) : Prop where
  pos : fd.params.posonlyargs = []
  kwo : fd.params.kwonlyargs = []
  va : fd.params.vararg = none
  ka : fd.params.kwarg = none
  df : fd.defaults = .none
  ps : fd.params.args.map (·.arg) = ps
theorem bind_plain {fd : FuncData} {ps : List Str} (h : Plain fd ps) {us : List Value} {kws : List (Str × Value)} (hl : us.length ≤ ps.length) (hk : ∀ p ∈ kws, p.1 ∈ ps) (hn : (kws.map (·.1)).Nodup) (hd : ∀ p ∈ kws, ∀ v, (p.1, v) ∉ ps.zip us)
    (hall : ∀ n ∈ ps, ((ps.zip us ++ kws).lookup n).isSome = true) : bindArgs fd ⟨us, kws⟩ = pure (ps.filterMap fun n => ((ps.zip us ++ kws).lookup n).map (n, ·)) := by
  have key : ∀ {q : List (Str × Value)} {x : Str}, (∀ v, (x, v) ∉ q) → q.lookup x = none := by
    intro q x hx
    induction q with
    | nil => rfl
    | cons p q ih =>
      rw [List.lookup_cons]
      have : (x == p.1) = false := by
        rw [beq_eq_false_iff_ne]
        rintro rfl
        exact hx p.2 List.mem_cons_self
      rw [this]
      exact ih fun v hv => hx v (List.mem_cons_of_mem _ hv)
  have hloop : kws.foldl (fun (b : List (Str × Value) × List (Str × Value)) a => (b.1 ++ [(a.1, a.2)], b.2)) (ps.zip us, []) = (ps.zip us ++ kws, []) := by
    have : ∀ (l : List (Str × Value)) (b : List (Str × Value)), l.foldl (fun (b : List (Str × Value) × List (Str × Value)) a => (b.1 ++ [(a.1, a.2)], b.2)) (b, []) = (b ++ l, []) := by
      intro l
      induction l with
      | nil => intro b; simp
      | cons a l ih => intro b; rw [List.foldl_cons, ih]; simp
    exact this kws _
  unfold bindArgs
  dsimp only
  rw [h.pos, h.kwo, h.va, h.ka, h.df, h.ps]
  simp only [List.map_nil, List.nil_append, List.append_nil]
  rw [forIn_inv (g := fun (b : List (Str × Value) × List (Str × Value)) a => (b.1 ++ [(a.1, a.2)], b.2)) (fun l b => (∀ p ∈ l, p.1 ∈ ps) ∧ (l.map (·.1)).Nodup ∧ ∀ p ∈ l, ∀ v, (p.1, v) ∉ b.1) ?hf kws _ ⟨hk, hn, hd⟩, hloop]
  case hf =>
    rintro a l b ⟨g1, g2, g3⟩
    rw [List.map_cons, List.nodup_cons] at g2
    have c1 : (ps.contains a.1 || [].contains a.1) = true := by
      rw [Bool.or_eq_true]
      exact .inl (List.contains_iff_mem.mpr (g1 a List.mem_cons_self))
    rw [if_pos c1, if_neg (by rw [key (g3 a List.mem_cons_self)]; exact Bool.false_ne_true)]
    refine ⟨rfl, fun p hp => g1 p (List.mem_cons_of_mem _ hp), g2.2, fun p hp v hv => ?_⟩
    rcases List.mem_append.mp hv with hv | hv
    · exact g3 p (List.mem_cons_of_mem _ hp) v hv
    · rw [List.mem_singleton] at hv
      have e : p.1 = a.1 := (Prod.mk.inj hv).1
      exact g2.1 (e ▸ List.mem_map_of_mem hp)
  have e0 : (decide (us.length > ps.length)) = false := by simpa using hl
  have e1 : (List.filter (fun n => (List.lookup n (ps.zip us ++ kws)).isNone) ps) = [] := by
    rw [List.filter_eq_nil_iff]
    intro n hn' q
    rw [Option.isNone_iff_eq_none] at q
    have := hall n hn'
    rw [q] at this
    cases this
  show (do
    let dl ← seqItems? Value.none
    _) = _
  have es : seqItems? Value.none = pure none := rfl
  rw [es]
  show (if (decide (us.length > ps.length) && none.isNone) = true then _ else _) = _
  rw [e0, Bool.false_and, if_neg Bool.false_ne_true]
  have ed : ((none : Option (Array Value)).getD #[]).toList = [] := rfl
  rw [ed]
  simp only [List.drop_nil, List.length_nil, Nat.sub_zero, List.take_length, List.drop_length, List.zip_nil_left, e1, List.isEmpty_nil, Bool.not_true, if_neg Bool.false_ne_true]
  rfl
/-- the places of the parameters' values among those given -/
def kperm (ps : List Str) (n : Nat) (ks : List Str) : List Nat := ps.mapIdx fun i x => if i < n then i else n + ks.idxOf x
def kOk (ps : List Str) (n : Nat) (ks : List Str) : Bool := decide (n ≤ ps.length) && (decide ps.Nodup && (decide ks.Nodup && ((ps.drop n).all (fun x => decide (x ∈ ks)) && ks.all fun x => decide (x ∈ ps.drop n))))
theorem lookup_zip {ks : List Str} {ws : List Value} {x : Str} (h : x ∈ ks) (hl : ws.length = ks.length) : (ks.zip ws).lookup x = ws[ks.idxOf x]? := by
  induction ks generalizing ws with
  | nil => cases h
  | cons k ks ih =>
    cases ws with
    | nil => cases hl
    | cons w ws =>
      rw [List.zip_cons_cons, List.lookup_cons, List.idxOf_cons]
      by_cases e : x = k
      · subst e
        simp
      · have e1 : (x == k) = false := beq_eq_false_iff_ne.mpr e
        have e2 : (k == x) = false := beq_eq_false_iff_ne.mpr (Ne.symm e)
        rw [e1, e2]
        rcases List.mem_cons.mp h with q | q
        · exact absurd q e
        · simpa using ih q (by simpa using hl)
theorem lookup_none {q : List (Str × Value)} {x : Str} (hx : ∀ v, (x, v) ∉ q) : q.lookup x = none := by
  induction q with
  | nil => rfl
  | cons p q ih =>
    rw [List.lookup_cons]
    have : (x == p.1) = false := by
      rw [beq_eq_false_iff_ne]
      rintro rfl
      exact hx p.2 List.mem_cons_self
    rw [this]
    exact ih fun v hv => hx v (List.mem_cons_of_mem _ hv)
theorem lookup_app {q r : List (Str × Value)} {x : Str} : (q ++ r).lookup x = (q.lookup x).or (r.lookup x) := by
  induction q with
  | nil => simp
  | cons p q ih =>
    rw [List.cons_append, List.lookup_cons, List.lookup_cons, ih]
    cases x == p.1 <;> rfl
theorem lookup_pos : ∀ {ps : List Str} {us : List Value} {i : Nat} {x : Str}, ps.Nodup → ps[i]? = some x → i < us.length → (ps.zip us).lookup x = us[i]?
  | [], us, i, x, _, h, _ => by simp at h
  | p :: ps, [], i, x, _, _, h => by simp at h
  | p :: ps, u :: us, 0, x, _, h, _ => by
    simp at h
    subst h
    simp
  | p :: ps, u :: us, i + 1, x, n, h, l => by
    rw [List.nodup_cons] at n
    have hm : x ∈ ps := List.mem_of_getElem? (by simpa using h)
    have e : (x == p) = false := beq_eq_false_iff_ne.mpr (by rintro rfl; exact n.1 hm)
    rw [List.zip_cons_cons, List.lookup_cons, e]
    simpa using lookup_pos (us := us) (i := i) n.2 (by simpa using h) (by simpa using l)
theorem mem_zip_take {ps : List Str} {us : List Value} {x : Str} {v : Value} (h : (x, v) ∈ ps.zip us) : x ∈ ps.take us.length := by
  obtain ⟨i, hi, e⟩ := List.mem_iff_getElem.mp h
  rw [List.getElem_zip] at e
  have e1 := (Prod.mk.inj e).1
  rw [List.length_zip] at hi
  rw [← e1]
  exact List.mem_take_iff_getElem.mpr ⟨i, by omega, rfl⟩
theorem fm_idx {α γ : Type} (f : α → Option (α × γ)) : ∀ (v : Nat → α → γ) (ps : List α), (∀ i x, ps[i]? = some x → f x = some (x, v i x)) → ps.filterMap f = ps.zip (ps.mapIdx v)
  | v, [], _ => rfl
  | v, p :: ps, h => by
    rw [List.filterMap_cons, h 0 p rfl, List.mapIdx_cons, List.zip_cons_cons, fm_idx f (fun i => v (i + 1)) ps fun i x hx => h (i + 1) x (by simpa using hx)]
theorem kbind {fd : FuncData} {ps : List Str} (h : Plain fd ps) {us ws : List Value} {ks : List Str} (hk : kOk ps us.length ks = true) (hw : ws.length = ks.length) :
    bindArgs fd ⟨us, ks.zip ws⟩ = pure (ps.zip ((kperm ps us.length ks).map fun p => (us ++ ws).getD p .none)) := by
  unfold kOk at hk
  simp only [Bool.and_eq_true, decide_eq_true_eq, List.all_eq_true] at hk
  obtain ⟨h1, h2, h3, h4, h5⟩ := hk
  have keys : (ks.zip ws).map (·.1) = ks := by rw [List.map_fst_zip (by omega)]
  have val : ∀ i x, ps[i]? = some x → (ps.zip us ++ ks.zip ws).lookup x = some ((us ++ ws).getD (if i < us.length then i else us.length + ks.idxOf x) .none) := by
    intro i x hx
    rw [lookup_app]
    by_cases hi : i < us.length
    · rw [if_pos hi, lookup_pos h2 hx hi, List.getElem?_eq_getElem hi]
      rw [List.getD_eq_getElem?_getD, List.getElem?_append_left hi, List.getElem?_eq_getElem hi]
      rfl
    · have hd : x ∈ ps.drop us.length := by
        apply List.mem_of_getElem? (i := i - us.length)
        rw [List.getElem?_drop, show us.length + (i - us.length) = i by omega]
        exact hx
      have hm := h4 x hd
      rw [if_neg hi, lookup_none, Option.none_or, lookup_zip hm hw]
      · have : ks.idxOf x < ws.length := by rw [hw]; exact List.idxOf_lt_length_of_mem hm
        rw [List.getElem?_eq_getElem this]
        rw [List.getD_eq_getElem?_getD, List.getElem?_append_right (by omega), show us.length + ks.idxOf x - us.length = ks.idxOf x by omega, List.getElem?_eq_getElem this]
        rfl
      · intro v hv
        have q := mem_zip_take hv
        have nd : (ps.take us.length ++ ps.drop us.length).Nodup := by rw [List.take_append_drop]; exact h2
        exact (List.nodup_append.mp nd).2.2 x q x hd rfl
  rw [bind_plain h h1 (fun p hp => ?_) (by rw [keys]; exact h3) (fun p hp v hv => ?_) (fun n hn => ?_)]
  · congr 1
    rw [fm_idx (fun n => ((ps.zip us ++ ks.zip ws).lookup n).map (n, ·)) (fun i x => (us ++ ws).getD (if i < us.length then i else us.length + ks.idxOf x) .none) ps fun i x hx => by rw [val i x hx]; rfl]
    unfold kperm
    congr 1
    apply List.ext_getElem?
    intro i
    rw [List.getElem?_map, List.getElem?_mapIdx, List.getElem?_mapIdx]
    cases ps[i]? <;> rfl
  · have : p.1 ∈ ks := (List.of_mem_zip hp).1
    exact List.mem_of_mem_drop (h5 _ this)
  · have : p.1 ∈ ks := (List.of_mem_zip hp).1
    have nd : (ps.take us.length ++ ps.drop us.length).Nodup := by rw [List.take_append_drop]; exact h2
    exact (List.nodup_append.mp nd).2.2 _ (mem_zip_take hv) _ (h5 _ this) rfl
  · obtain ⟨i, hi⟩ := List.mem_iff_getElem?.mp hn
    rw [val i n hi]
    rfl
end G

set_option linter.all false
set_option maxRecDepth 100000
set_option Elab.async false
/-! Zl: list(zip(a, b)) of two lists, of two tuples. -/
namespace G
open PySem PySem.Spec PyProof.Rows L2 RZ

/-- the iterator i stands at place k of the items xs of l -/
def Sit (h : Heap) (i l : Addr) (k : Nat) (xs : Array Value) : Prop :=
  (h.IsListIter i l k ∧ h.IsList l xs) ∨ (h.IsTupleIter i l k ∧ h.IsTuple l xs)
theorem Sit.keep {h h' : Heap} {i l : Addr} {k : Nat} {xs : Array Value} (g : Sit h i l k xs) (p : ∀ o, h.get? i = some o → h'.get? i = some o) (q : ∀ o, h.get? l = some o → h'.get? l = some o) : Sit h' i l k xs := by
  rcases g with ⟨g1, g2⟩ | ⟨g1, g2⟩
  · exact .inl ⟨g1.at p, g2.at q⟩
  · exact .inr ⟨g1.at p, g2.at q⟩
theorem Sit.there {h : Heap} {i l : Addr} {k : Nat} {xs : Array Value} (g : Sit h i l k xs) : ∃ o, h.get? i = some o := by
  rcases g with ⟨⟨o, e, _⟩, _⟩ | ⟨⟨o, e, _⟩, _⟩ <;> exact ⟨o, e⟩
section
variable {P : Program} {w : World} {A : Around} {E : Value → Shared → Prop} {s : Shared}
theorem sit_item {i l : Addr} {k : Nat} {xs : Array Value} {x : Value} {Q : Value → Shared → Prop} (il : l ≠ i) (g : Sit s.heap i l k xs) (hx : xs[k]? = some x)
    (q : ∀ h', Sit h' i l (k + 1) xs → Heap.SameBut i s.heap h' → Q x { s with heap := h' }) : wpAny (model P w) A (Builtin.SmallTypes.nextOf (.ref i)) Q E s := by
  rcases g with ⟨g1, g2⟩ | ⟨g1, g2⟩
  · exact wpAny_nextOf_list_item g1 g2 hx fun h' a b => q h' (.inl ⟨a, g2.extBut b.extBut il⟩) b
  · exact nextOf_tuple_item g1 g2 hx fun h' a b => q h' (.inr ⟨a, g2.extBut b.extBut il⟩) b
theorem sit_end {i l : Addr} {k : Nat} {xs : Array Value} {Q : Value → Shared → Prop} (hh : A.handled = none) (g : Sit s.heap i l k xs) (hx : xs[k]? = none)
    (q : ∀ h' e, Heap.ExtBut i s.heap h' → (∃ o, h'.get? e = some o ∧ o.cls = .type "StopIteration") → E (.ref e) { s with heap := h' }) : wpAny (model P w) A (Builtin.SmallTypes.nextOf (.ref i)) Q E s := by
  rcases g with ⟨g1, g2⟩ | ⟨g1, g2⟩
  · exact wpAny_nextOf_list_end hh g1 g2 hx q
  · exact nextOf_tuple_end hh g1 g2 hx q
open PySem.W in
/-- the next pair, the one before still alive -/
theorem held_item {z TI TO T i1 i2 l1 l2 : Addr} {f : Bool} {oT : Obj} {k : Nat} {xs ys : Array Value} {x y : Value} {Q : Option Value → Shared → Prop} (D : ZipApart z TI TO i1 i2 l1 l2)
    (gz : IsZipHeld s.heap z TI TO T f) (gT : s.heap.get? T = some oT) (gI : IsPair s.heap TI (.ref i1) (.ref i2)) (s1 : Sit s.heap i1 l1 k xs) (s2 : Sit s.heap i2 l2 k ys) (n1 : l1 ≠ i1) (n2 : l2 ≠ i2) (n3 : l1 ≠ i2) (hx : xs[k]? = some x) (hy : ys[k]? = some y)
    (q : ∀ h', IsZipHeld h' z TI TO T true → Sit h' i1 l1 (k + 1) xs → Sit h' i2 l2 (k + 1) ys → IsPair h' s.heap.objs.size x y → h'.objs.size = s.heap.objs.size + 1 → (∀ c o, c ≠ z → c ≠ i1 → c ≠ i2 → s.heap.get? c = some o → h'.get? c = some o) →
      Q (some (.ref s.heap.objs.size)) { s with heap := h' }) : wpAny (model P w) A (pyNext (.ref z)) Q E s := by
  have ty : s.TypeIs (.ref z) "zip" := ⟨_, gz, rfl⟩
  unfold pyNext
  refine wpAny_bind (wpAny_attempt (wpAny_callSpecial?_slot (name := Str.ofString "__next__") ty F.slot_zip_next (wpAny_call_entry F.slot_zip_next ty F.entry_zip_next ?_ (F.args_zip_next_1 _))))
  show wpAny _ _ (field (.ref z) 2 >>= _) _ _ _
  refine wpAny_bind (wpAny_field gz rfl (x := .bool false) (by rfl) ?_)
  show wpAny _ _ (field (.ref z) 3 >>= _) _ _ _
  refine wpAny_bind (wpAny_field gz rfl (x := .ref TI) (by rfl) (wpAny_bind (wpAny_seqItems gI rfl ?_)))
  show wpAny _ _ (Builtin.SmallTypes.ownedTupleIsFree (.ref z) >>= _) _ _ _
  refine wpAny_bind (wpAny_tupleHeld_zip gz gT fun h1 gz1 b1 => ?_)
  simp only [Bool.false_eq_true, if_false]
  refine wpAny_bind ?_
  rw [← Array.forIn_toList]
  simp only [List.forIn_cons, List.forIn_nil]
  refine wpAny_bind (wpAny_bind (wpAny_holding ?_))
  show wpAny _ _ (Builtin.SmallTypes.nextOf (.ref i1) >>= _) _ _ _
  refine wpAny_bind (sit_item (s := { s with heap := h1 }) n1 (s1.keep (b1.extBut _ · D.i1z) (b1.extBut _ · D.l1z)) hx fun h2 t1 b2 => wpAny_pure (wpAny_pure ?_))
  refine wpAny_bind (wpAny_bind (wpAny_holding ?_))
  show wpAny _ _ (Builtin.SmallTypes.nextOf (.ref i2) >>= _) _ _ _
  have e2 : Sit h2 i2 l2 k ys := (s2.keep (b1.extBut _ · D.i2z) (b1.extBut _ · D.l2z)).keep (b2.extBut _ · D.i12.symm) (b2.extBut _ · D.l2i1)
  refine wpAny_bind (sit_item (s := { s with heap := h2 }) n2 e2 hy fun h3 t2 b3 => wpAny_pure (wpAny_pure (wpAny_pure ?_)))
  show wpAny _ _ (newTuple [x, y] >>= _) _ _ _
  refine wpAny_bind (wpAny_newTuple ?_)
  have sz : h3.objs.size = s.heap.objs.size := b3.1.trans (b2.1.trans b1.1)
  have gz3 : IsZipHeld h3 z TI TO T true := b3.extBut _ _ D.i2z.symm (b2.extBut _ _ D.i1z.symm gz1)
  have kp : ∀ c o, c ≠ z → c ≠ i1 → c ≠ i2 → s.heap.get? c = some o → h3.get? c = some o := fun c o c1 c2 c3 e => b3.extBut _ _ c3 (b2.extBut _ _ c2 (b1.extBut _ _ c1 e))
  have t13 : Sit h3 i1 l1 (k + 1) xs := t1.keep (b3.extBut _ · D.i12) (b3.extBut _ · n3)
  have pr : IsPair (h3.push { cls := .type "tuple", data := .seq #[x, y] }) h3.objs.size x y := Heap.get?_push_size _ rfl
  have pz : (h3.push { cls := .type "tuple", data := .seq #[x, y] }).objs.size = h3.objs.size + 1 := Heap.size_push ..
  refine wpAny_pure ⟨_, rfl, wpAny_pure ?_⟩
  show Q (some (.ref h3.objs.size)) _
  rw [sz] at pr pz ⊢
  exact q _ (Heap.get?_push_of_some _ gz3) (t13.keep (fun o e => Heap.get?_push_of_some _ e) fun o e => Heap.get?_push_of_some _ e) (t2.keep (fun o e => Heap.get?_push_of_some _ e) fun o e => Heap.get?_push_of_some _ e) pr pz fun c o c1 c2 c3 e => Heap.get?_push_of_some _ (kp c o c1 c2 c3 e)
open PySem.W in
theorem held_end {z TI TO T i1 i2 l1 l2 : Addr} {f : Bool} {oT : Obj} {k : Nat} {xs ys : Array Value} {Q : Option Value → Shared → Prop} (hh : A.handled = none) (D : ZipApart z TI TO i1 i2 l1 l2)
    (gz : IsZipHeld s.heap z TI TO T f) (gT : s.heap.get? T = some oT) (gI : IsPair s.heap TI (.ref i1) (.ref i2)) (s1 : Sit s.heap i1 l1 k xs) (s2 : Sit s.heap i2 l2 k ys) (n1 : l1 ≠ i1) (hend : xs[k]? = none ∨ ys[k]? = none)
    (q : ∀ h', (∀ c o, c ≠ z → c ≠ i1 → c ≠ i2 → s.heap.get? c = some o → h'.get? c = some o) → Q none { s with heap := h' }) : wpAny (model P w) A (pyNext (.ref z)) Q E s := by
  have ty : s.TypeIs (.ref z) "zip" := ⟨_, gz, rfl⟩
  unfold pyNext
  have stop : ∀ h' e, (∀ c o, c ≠ z → c ≠ i1 → c ≠ i2 → s.heap.get? c = some o → h'.get? c = some o) → (∃ o, h'.get? e = some o ∧ o.cls = .type "StopIteration") →
      wpAny (model P w) A (do if ← isInstance (.ref e) (.type "StopIteration") then return (none : Option Value) else throw (.ref e)) Q E { s with heap := h' } := fun h' e kp ⟨o, eo, ec⟩ =>
    wpAny_bind (wpAny_isInstance (T := "StopIteration") (b := true) ⟨o, eo, ec⟩ isSubtype_stop (wpAny_pure (q h' kp)))
  refine wpAny_bind (wpAny_attempt (wpAny_callSpecial?_slot (name := Str.ofString "__next__") ty F.slot_zip_next (wpAny_call_entry F.slot_zip_next ty F.entry_zip_next ?_ (F.args_zip_next_1 _))))
  show wpAny _ _ (field (.ref z) 2 >>= _) _ _ _
  refine wpAny_bind (wpAny_field gz rfl (x := .bool false) (by rfl) ?_)
  show wpAny _ _ (field (.ref z) 3 >>= _) _ _ _
  refine wpAny_bind (wpAny_field gz rfl (x := .ref TI) (by rfl) (wpAny_bind (wpAny_seqItems gI rfl ?_)))
  show wpAny _ _ (Builtin.SmallTypes.ownedTupleIsFree (.ref z) >>= _) _ _ _
  refine wpAny_bind (wpAny_tupleHeld_zip gz gT fun h1 gz1 b1 => ?_)
  simp only [Bool.false_eq_true, if_false]
  refine wpAny_bind ?_
  rw [← Array.forIn_toList]
  simp only [List.forIn_cons, List.forIn_nil]
  refine wpAny_bind (wpAny_bind (wpAny_holding ?_))
  show wpAny _ _ (Builtin.SmallTypes.nextOf (.ref i1) >>= _) _ _ _
  have e1 : Sit h1 i1 l1 k xs := s1.keep (b1.extBut _ · D.i1z) (b1.extBut _ · D.l1z)
  cases hx : xs[k]? with
  | none => exact wpAny_bind (sit_end (s := { s with heap := h1 }) hh e1 hx fun h2 e b2 he => stop h2 e (fun c o c1 c2 _ x => b2 _ _ c2 (b1.extBut _ _ c1 x)) he)
  | some x =>
    have hy : ys[k]? = none := hend.resolve_left (by rw [hx]; exact fun z => by cases z)
    refine wpAny_bind (sit_item (s := { s with heap := h1 }) n1 e1 hx fun h2 t1 b2 => wpAny_pure (wpAny_pure ?_))
    refine wpAny_bind (wpAny_bind (wpAny_holding ?_))
    show wpAny _ _ (Builtin.SmallTypes.nextOf (.ref i2) >>= _) _ _ _
    have e2 : Sit h2 i2 l2 k ys := (s2.keep (b1.extBut _ · D.i2z) (b1.extBut _ · D.l2z)).keep (b2.extBut _ · D.i12.symm) (b2.extBut _ · D.l2i1)
    exact wpAny_bind (sit_end (s := { s with heap := h2 }) hh e2 hy fun h3 e b3 he => stop h3 e (fun c o c1 c2 c3 x => b3 _ _ c3 (b2.extBut _ _ c2 (b1.extBut _ _ c1 x))) he)
end

theorem cls_ne {h : Heap} {T z TI TO T2 : Addr} {f : Bool} {a b : Value} (g : IsPair h T a b) (gz : IsZipHeld h z TI TO T2 f) : T ≠ z := fun e => by
  rw [← e] at gz
  have e3 := Option.some.inj ((show h.get? T = some _ from g).symm.trans gz)
  have e4 := congrArg (·.cls) e3
  simp at e4
theorem sit_ne {h : Heap} {T i l : Addr} {k : Nat} {xs : Array Value} {a b : Value} (g : IsPair h T a b) (gs : Sit h i l k xs) : T ≠ i := fun e => by
  rw [← e] at gs
  rcases gs with ⟨⟨o, e1, e2, _⟩, _⟩ | ⟨⟨o, e1, e2, _⟩, _⟩
  all_goals
    have e3 := Option.some.inj ((show h.get? T = some _ from g).symm.trans e1)
    rw [← e3] at e2
    simp at e2
/-- the pairs that are laid so far -/
def Prs (H0 H : Hp) (xs ys vs : List V) : Prop := ∀ (j : Nat) (v : V), vs[j]? = some v → ∃ (T : Addr) (x y : V), v = .ref T ∧ H T = some (.tup [x, y]) ∧ xs[j]? = some x ∧ ys[j]? = some y ∧ H0 T = none
section
variable {X : Cx} {pins : List (Addr × Obj)} {σ : L2.St} {A : Around} {R : Result → Shared → Prop} {res : Value} {S z TI TO i1 i2 l1 l2 : Addr} {its its2 : Array Value} {xs ys : List V}
open PySem.W in
/-- how the zip stands -/
def Zst (z TI TO i1 i2 l1 l2 : Addr) (its its2 : Array Value) (h : Heap) (k : Nat) : Prop :=
  (k = 0 ∧ IsZip h z TI TO .none ∧ (∃ a b, IsPair h TO a b) ∧ ((h.IsListIter i1 l1 0 ∧ h.IsListIter i2 l2 0 ∧ h.IsList l1 its ∧ h.IsList l2 its2) ∨ (h.IsTupleIter i1 l1 0 ∧ h.IsTupleIter i2 l2 0 ∧ h.IsTuple l1 its ∧ h.IsTuple l2 its2))) ∨
  ((∃ T f a b, IsZipHeld h z TI TO T f ∧ IsPair h T a b) ∧ Sit h i1 l1 k its ∧ Sit h i2 l2 k its2)
theorem Zst.keep {h h' : Heap} {k : Nat} (g : Zst z TI TO i1 i2 l1 l2 its its2 h k) (q : ∀ c o, c ≠ S → h.get? c = some o → h'.get? c = some o) (nS : S ∉ [z, TI, TO, i1, i2, l1, l2]) (hS : ∀ T a b, IsPair h T a b → T ≠ S) : Zst z TI TO i1 i2 l1 l2 its its2 h' k := by
  simp only [List.mem_cons, List.not_mem_nil, or_false, not_or] at nS
  obtain ⟨a1, a2, a3, a4, a5, a6, a7⟩ := nS
  rcases g with ⟨g1, g2, ⟨a, b, g3⟩, g4⟩ | ⟨⟨T, f, a, b, g1, g2⟩, g3, g4⟩
  · refine .inl ⟨g1, q _ _ (Ne.symm a1) g2, ⟨a, b, q _ _ (Ne.symm a3) g3⟩, ?_⟩
    rcases g4 with ⟨b1, b2, b3, b4⟩ | ⟨b1, b2, b3, b4⟩
    · exact .inl ⟨b1.at fun o => q _ o (Ne.symm a4), b2.at fun o => q _ o (Ne.symm a5), b3.at fun o => q _ o (Ne.symm a6), b4.at fun o => q _ o (Ne.symm a7)⟩
    · exact .inr ⟨b1.at fun o => q _ o (Ne.symm a4), b2.at fun o => q _ o (Ne.symm a5), b3.at fun o => q _ o (Ne.symm a6), b4.at fun o => q _ o (Ne.symm a7)⟩
  · have nT : T ≠ S := hS T a b g2
    exact .inr ⟨⟨T, f, a, b, q _ _ (Ne.symm a1) g1, q _ _ nT g2⟩, g3.keep (fun o => q _ o (Ne.symm a4)) fun o => q _ o (Ne.symm a6), g4.keep (fun o => q _ o (Ne.symm a5)) fun o => q _ o (Ne.symm a7)⟩
theorem zip_drain {H0 : Hp} (hh : A.handled = none) (D : ZipApart z TI TO i1 i2 l1 l2) (n1 : l1 ≠ i1) (n2 : l2 ≠ i2) (n3 : l1 ≠ i2) (nS : S ∉ [z, TI, TO, i1, i2, l1, l2]) (rx : Vals xs its.toList) (ry : Vals ys its2.toList) (sz : xs.length ≤ sizeLine)
    (fin : ∀ s' H' vs, Inv X pins σ H' s' → H' S = some (.lst vs) → vs.length = min xs.length ys.length → Prs H0 H' xs ys vs → (∀ b o, b ≠ S → H0 b = some o → H' b = some o) → R (.ok (.ret res)) s') :
    ∀ (m k : Nat) (s : Shared) (H : Hp) (vs : List V), k + m = min xs.length ys.length → Inv X pins σ H s → (∀ c ∈ [z, TI, TO, i1, i2], FpOk X pins H c) → (∀ c ∈ [z, TI, TO, i1, i2], c < s.heap.objs.size) → H S = some (.lst vs) → vs.length = k → Prs H0 H xs ys vs →
      (∀ b o, b ≠ S → H0 b = some o → H b = some o) → IsPair s.heap TI (.ref i1) (.ref i2) → Zst z TI TO i1 i2 l1 l2 its its2 s.heap k → codeAny (model X.prog X.w) A (.builtin "list.extend.loop" ⟨[.ref S, .ref z, res], []⟩) R s := by
  intro m
  have lx : its.size = xs.length := by rw [← Array.length_toList, rx.length]
  have ly : its2.size = ys.length := by rw [← Array.length_toList, ry.length]
  induction m with
  | zero =>
    intro k s H vs hk I fp lt hS hv pr sm gI st
    refine codeAny_builtin F.entry_extend_loop ?_
    rw [Around.under_plainId F.plain_extend_loop _]
    show wpAny _ A.in1 (pyNext (.ref z) >>= _) _ _ s
    have en : its[k]? = none ∨ its2[k]? = none := by
      by_cases q : xs.length ≤ ys.length
      · exact .inl (Array.getElem?_eq_none (by omega))
      · exact .inr (Array.getElem?_eq_none (by omega))
    have out : ∀ h', (∀ c o, c ∉ [z, TO, i1, i2] → s.heap.get? c = some o → h'.get? c = some o) → R (.ok (.ret res)) { s with heap := h' } := fun h' kp =>
      fin _ H vs (I.turnedL (t' := s.toks) (ch := [z, TO, i1, i2]) (fun b o hb e => kp b o hb e) fun b hb => fp b (by simp only [List.mem_cons, List.not_mem_nil, or_false] at hb ⊢; rcases hb with q | q | q | q <;> simp [q])) hS (by omega) pr sm
    rcases st with ⟨g1, g2, ⟨a, b, g3⟩, g4⟩ | ⟨⟨T, f, a, b, g1, g2⟩, g3, g4⟩
    · subst g1
      rcases g4 with ⟨b1, b2, b3, b4⟩ | ⟨b1, b2, b3, b4⟩
      · refine wpAny_bind (wpAny_pyNext_zip_end (A := A.in1) hh D g2 gI g3 b1 b2 b3 b4 en fun h' kp => wpAny_pure (out h' fun c o hc e => ?_))
        simp only [List.mem_cons, List.not_mem_nil, or_false, not_or] at hc
        exact kp c o hc.1 hc.2.1 hc.2.2.1 hc.2.2.2 e
      · refine wpAny_bind (pyNext_zipT_end (A := A.in1) hh D g2 gI g3 b1 b2 b3 b4 en fun h' kp => wpAny_pure (out h' fun c o hc e => ?_))
        simp only [List.mem_cons, List.not_mem_nil, or_false, not_or] at hc
        exact kp c o hc.1 hc.2.1 hc.2.2.1 hc.2.2.2 e
    · refine wpAny_bind (held_end (A := A.in1) hh D g1 g2 gI g3 g4 n1 en fun h' kp => wpAny_pure (out h' fun c o hc e => ?_))
      simp only [List.mem_cons, List.not_mem_nil, or_false, not_or] at hc
      exact kp c o hc.1 hc.2.2.1 hc.2.2.2 e
  | succ m ih =>
    intro k s H vs hk I fp lt hS hv pr sm gI st
    refine codeAny_builtin F.entry_extend_loop ?_
    rw [Around.under_plainId F.plain_extend_loop _]
    show wpAny _ A.in1 (pyNext (.ref z) >>= _) _ _ s
    have kx : k < xs.length := by omega
    have ky : k < ys.length := by omega
    obtain ⟨u, hu, ru⟩ := rx.get (List.getElem?_eq_getElem kx)
    obtain ⟨u2, hu2, ru2⟩ := ry.get (List.getElem?_eq_getElem ky)
    have hu' : its[k]? = some u := by rw [← hu, Array.getElem?_toList]
    have hu2' : its2[k]? = some u2 := by rw [← hu2, Array.getElem?_toList]
    have hfN : H s.heap.objs.size = none := I.hok.fresh (Nat.le_refl _)
    have neS : S ≠ s.heap.objs.size := fun e => by rw [e, hfN] at hS; cases hS
    have go : ∀ h', (∀ c o, c ∉ [z, TO, i1, i2] → s.heap.get? c = some o → h'.get? c = some o) → IsPair h' s.heap.objs.size u u2 → h'.objs.size = s.heap.objs.size + 1 → IsPair h' TI (.ref i1) (.ref i2) →
        (∃ T f a b, IsZipHeld h' z TI TO T f ∧ IsPair h' T a b) → Sit h' i1 l1 (k + 1) its → Sit h' i2 l2 (k + 1) its2 →
        wpAny (model X.prog X.w) A.in1 (updateSeq S (·.push (.ref s.heap.objs.size)) >>= fun _ => again (.builtin "list.extend.loop" ⟨[.ref S, .ref z, res], []⟩)) (fun fin s' => match fin with | .done f => R (.ok f) s' | .again c' => c'.quiet = true ∧ codeAny (model X.prog X.w) A c' R s') (fun e s' => R (.error e) s') { s with heap := h' } := by
      intro h' kp gp hz gI' gh t1 t2
      have new : ObjOk X.prog X.w (upd H s.heap.objs.size (.tup [xs[k], ys[k]])) h' s.heap.objs.size (.tup [xs[k], ys[k]]) := ⟨by show 2 ≤ sizeLine; decide, [u, u2], .cons ru (.cons ru2 .nil), ⟨_, gp, rfl, _, rfl⟩⟩
      have fp4 : ∀ b ∈ [z, TO, i1, i2], FpOk X pins H b := fun b hb => fp b (by simp only [List.mem_cons, List.not_mem_nil, or_false] at hb ⊢; rcases hb with q | q | q | q <;> simp [q])
      have I1 := I.turnedNew (t' := s.toks) (ch := [z, TO, i1, i2]) (fun b o hb e => kp b o hb e) fp4 (Nat.le_refl _) new
      have hS1 : upd H s.heap.objs.size (.tup [xs[k], ys[k]]) S = some (.lst vs) := by rw [upd_ne neS]; exact hS
      obtain ⟨zl, us, c, rv, eS⟩ := I1.hok S _ hS1
      have eS' : h'.get? S = some { cls := .type "list", data := .seq us.toArray c } := eS
      have ul : us.length = k := by rw [← rv.length, hv]
      refine wpAny_bind (wpAny_updateSeq eS' rfl (wpAny_pure ⟨plainId_quiet F.plain_extend_loop _, ?_⟩) (by rw [List.size_toArray]; omega) (by show (us.toArray.push _).size ≤ _; rw [Array.size_push, List.size_toArray]; omega))
      have es := Heap.get?_update_self (Obj.mapSeq (·.push (Value.ref s.heap.objs.size))) eS' rfl
      have ot : ∀ b o, b ≠ S → h'.get? b = some o → (h'.update S (Obj.mapSeq (·.push (Value.ref s.heap.objs.size)))).get? b = some o := fun b o hb e => (Heap.get?_update_other _ _ (Ne.symm hb)).trans e
      have new2 : ObjOk X.prog X.w (upd (upd H s.heap.objs.size (.tup [xs[k], ys[k]])) S (.lst (vs ++ [.ref s.heap.objs.size]))) (h'.update S (Obj.mapSeq (·.push (Value.ref s.heap.objs.size)))) S (.lst (vs ++ [.ref s.heap.objs.size])) := by
        have e9 : ∃ c2, (h'.update S (Obj.mapSeq (·.push (Value.ref s.heap.objs.size)))).get? S = some { cls := .type "list", data := .seq (us ++ [Value.ref s.heap.objs.size]).toArray c2 } := by
          rw [es, ← List.push_toArray]
          exact ⟨_, rfl⟩
        obtain ⟨c2, e9⟩ := e9
        exact ⟨by rw [List.length_append, hv]; show k + 1 ≤ sizeLine; omega, us ++ [Value.ref s.heap.objs.size], c2, rv.append (.cons (show RelV (V.ref _) (Value.ref s.heap.objs.size) from rfl) .nil), e9⟩
      have I2 := I1.write (x := S) (e := S) (t' := s.toks) (by rw [hS1]; exact trivial) (.inl rfl) (fun b o hb e => ot b o hb e) ⟨_, es⟩ new2
      have nS' := nS
      simp only [List.mem_cons, List.not_mem_nil, or_false, not_or] at nS'
      refine ih (k + 1) _ _ (vs ++ [.ref s.heap.objs.size]) (by omega) I2 (fun c hc => ?_) (fun c hc => ?_) upd_same (by rw [List.length_append, hv]; rfl) (fun j v hj => ?_) (fun b o hb e => ?_) (ot _ _ (Ne.symm nS'.2.1) gI') (Zst.keep (S := S) (.inr ⟨gh, t1, t2⟩) ot nS fun T a b g e => by rw [e] at g; have e3 := Option.some.inj ((show h'.get? S = some _ from g).symm.trans eS'); have e4 := congrArg (·.cls) e3; simp at e4)
      · have hS3 : S ≠ c := fun e => by
          subst e
          simp only [List.mem_cons, List.not_mem_nil, or_false] at hc
          rcases hc with q | q | q | q | q
          · exact nS'.1 q
          · exact nS'.2.1 q
          · exact nS'.2.2.1 q
          · exact nS'.2.2.2.1 q
          · exact nS'.2.2.2.2.1 q
        obtain ⟨f1, f2⟩ := fp c hc
        exact ⟨by rw [upd_ne (Ne.symm hS3), upd_ne (Nat.ne_of_lt (lt c hc))]; exact f1, f2⟩
      · show c < (h'.update S _).objs.size
        rw [Heap.size_update, hz]
        exact Nat.lt_succ_of_lt (lt c hc)
      · by_cases hjk : j < k
        · rw [List.getElem?_append_left (by rw [hv]; exact hjk)] at hj
          obtain ⟨T, x, y, e1, e2, e3, e4, e5⟩ := pr j v hj
          have nT : T ≠ S := fun e => by rw [e, hS] at e2; cases e2
          exact ⟨T, x, y, e1, by rw [upd_ne nT, upd_ne (ne_of_none e2 hfN)]; exact e2, e3, e4, e5⟩
        · have jk : j = k := by
            have := (List.getElem?_eq_some_iff.mp hj).1
            rw [List.length_append, hv] at this
            simp at this
            omega
          subst jk
          rw [List.getElem?_append_right (by omega), hv, Nat.sub_self] at hj
          cases hj
          exact ⟨_, _, _, rfl, by rw [upd_ne (Ne.symm neS)]; exact upd_same, List.getElem?_eq_getElem kx, List.getElem?_eq_getElem ky, by
            cases q : H0 s.heap.objs.size with
            | none => rfl
            | some o => rw [sm _ o (Ne.symm neS) q] at hfN; cases hfN⟩
      · have q := sm b o hb e
        rw [upd_ne hb, upd_ne (ne_of_none q hfN)]
        exact q
    rcases st with ⟨g1, g2, ⟨a, b, g3⟩, g4⟩ | ⟨⟨T, f, a, b, g1, g2⟩, g3, g4⟩
    · subst g1
      rcases g4 with ⟨b1, b2, b3, b4⟩ | ⟨b1, b2, b3, b4⟩
      · refine wpAny_bind (wpAny_pyNext_zip_item (A := A.in1) D g2 gI g3 b1 b2 b3 b4 hu' hu2' fun h' z1 z2 z3 z4 z5 z6 z7 => go h' (fun c o hc e => ?_) z5 z6 (z7 _ _ D.TIz D.TITO D.TIi1 D.TIi2 gI) ⟨_, false, _, _, z1, z5⟩ (.inl ⟨z3, b3.at fun o e => z7 _ _ D.l1z D.l1TO n1 n3 e⟩) (.inl ⟨z4, b4.at fun o e => z7 _ _ D.l2z D.l2TO D.l2i1 n2 e⟩))
        simp only [List.mem_cons, List.not_mem_nil, or_false, not_or] at hc
        exact z7 c o hc.1 hc.2.1 hc.2.2.1 hc.2.2.2 e
      · refine wpAny_bind (pyNext_zipT_item (A := A.in1) D g2 gI g3 b1 b2 b3 b4 hu' hu2' fun h' z1 z2 z3 z4 z5 z6 z7 => go h' (fun c o hc e => ?_) z5 z6 (z7 _ _ D.TIz D.TITO D.TIi1 D.TIi2 gI) ⟨_, false, _, _, z1, z5⟩ (.inr ⟨z3, b3.at fun o e => z7 _ _ D.l1z D.l1TO n1 n3 e⟩) (.inr ⟨z4, b4.at fun o e => z7 _ _ D.l2z D.l2TO D.l2i1 n2 e⟩))
        simp only [List.mem_cons, List.not_mem_nil, or_false, not_or] at hc
        exact z7 c o hc.1 hc.2.1 hc.2.2.1 hc.2.2.2 e
    · refine wpAny_bind (held_item (A := A.in1) D g1 g2 gI g3 g4 n1 n2 n3 hu' hu2' fun h' z1 z3 z4 z5 z6 z7 => go h' (fun c o hc e => ?_) z5 z6 (z7 _ _ D.TIz D.TIi1 D.TIi2 gI) ⟨T, true, a, b, z1, z7 _ _ (cls_ne g2 g1) (sit_ne g2 g3) (sit_ne g2 g4) g2⟩ z3 z4)
      simp only [List.mem_cons, List.not_mem_nil, or_false, not_or] at hc
      exact z7 c o hc.1 hc.2.2.1 hc.2.2.2 e
end
theorem zip_no_len : typeLookup (.type "zip") "__len__" = pure none := am_miss_of_fast (by decide +kernel)
theorem zip_no_hint : typeLookup (.type "zip") "__length_hint__" = pure none := am_miss_of_fast (by decide +kernel)
section
variable {X : Cx}
/-- zip(a, b) is made -/
theorem zip_made {pins : List (Addr × Obj)} {σ : L2.St} {H : Hp} {s : Shared} {e e2 : Expr} {ta : TA} {p pos : Pos} {Q : Addr → List V → Addr → List V → Hp → Prop} (hg : Gl X "zip") (hm : X.mg "zip" = none) (ha : PA X [e, e2] ta) (I : Inv X pins σ H s)
    (hs : starEach [e, e2] X.env = (false, eval e X.env) :: starEach [e2] X.env) (hpl : (backTo pos (starEach [e2] X.env)).any (·.1) = false)
    (h : ta σ H fun vs H1 => ∃ a b xs ys, vs = [.ref a, .ref b] ∧ ((SqL X.K H1 a xs ∧ SqL X.K H1 b ys) ∨ (SqT X.K H1 a xs ∧ SqT X.K H1 b ys)) ∧ Q a xs b ys H1) :
    wpAny (model X.prog X.w) X.A (eval (.Call (.Name "zip" p) [e, e2] [] pos) X.env) (fun u s' => ∃ z TI TO i1 i2 a b its its2 xs ys H1, u = .ref z ∧ Inv X pins σ H1 s' ∧ ZipApart z TI TO i1 i2 a b ∧ (a < i1 ∧ a < i2 ∧ b < i1 ∧ b < i2 ∧ a < s'.heap.objs.size ∧ b < s'.heap.objs.size) ∧ Vals xs its.toList ∧ Vals ys its2.toList ∧ xs.length ≤ sizeLine ∧
      (∀ c ∈ [z, TI, TO, i1, i2], FpOk X pins H1 c) ∧ (∀ c ∈ [z, TI, TO, i1, i2], c < s'.heap.objs.size) ∧ IsZip s'.heap z TI TO .none ∧ IsPair s'.heap TI (.ref i1) (.ref i2) ∧ Zst z TI TO i1 i2 a b its its2 s'.heap 0 ∧ Q a xs b ys H1) X.xe s := by
  refine Call_ (ld_blt I hg hm PyProof.Rows.boot_zip (PyProof.Rows.callWith_type1 (thn (ha.run pos pins s σ H _ I h) fun us s1 ⟨vs, H1, I1, r1, q1⟩ => ?_) hs hpl))
  obtain ⟨a, b, xs, ys, ex, kd, q⟩ := q1
  subst ex
  cases r1 with
  | cons r rr =>
    cases rr with
    | cons r' rr =>
      cases rr
      cases r
      cases r'
      have five : ∀ c, c ∈ [s1.heap.objs.size + 4, s1.heap.objs.size + 2, s1.heap.objs.size + 3, s1.heap.objs.size, s1.heap.objs.size + 1] → s1.heap.objs.size ≤ c ∧ c < s1.heap.objs.size + 5 := fun c hc => by
        simp only [List.mem_cons, List.not_mem_nil, or_false] at hc
        rcases hc with z | z | z | z | z
        · rw [z]; exact ⟨Nat.le_add_right _ _, Nat.lt_succ_self _⟩
        · rw [z]; exact ⟨Nat.le_add_right _ _, Nat.add_lt_add_left (by decide) _⟩
        · rw [z]; exact ⟨Nat.le_add_right _ _, Nat.add_lt_add_left (by decide) _⟩
        · rw [z]; exact ⟨Nat.le_refl _, Nat.lt_add_of_pos_right (by decide)⟩
        · rw [z]; exact ⟨Nat.le_add_right _ _, Nat.add_lt_add_left (by decide) _⟩
      have fp5 : ∀ c, c ∈ [s1.heap.objs.size + 4, s1.heap.objs.size + 2, s1.heap.objs.size + 3, s1.heap.objs.size, s1.heap.objs.size + 1] → FpOk X pins H1 c := fun c hc => I1.fpOk (five c hc).1 (I1.hok.fresh (five c hc).1)
      rcases kd with ⟨k1, k2⟩ | ⟨k1, k2⟩
      · obtain ⟨us1, rv, p1, zl⟩ := I1.list k1
        obtain ⟨us2, rv2, p2, _⟩ := I1.list k2
        refine call_zip_2 p1.isList p2.isList fun h' z1 z2 z3 z4 z5 z6 z7 => ?_
        have l1 := p1.lt
        have l2 := p2.lt
        refine ⟨_, _, _, _, _, a, b, us1.toArray, us2.toArray, xs, ys, H1, rfl, I1.kept (t' := s1.toks) z7, PySem.W.ktu_apart s1.heap.objs.size a b l1 l2, ⟨l1, Nat.lt_succ_of_lt l1, l2, Nat.lt_succ_of_lt l2, ?_, ?_⟩, rv, rv2, zl, fp5, fun c hc => ?_, z1, z2, .inl ⟨rfl, z1, ⟨_, _, z3⟩, .inl ⟨z4, z5, p1.isList.at fun o => z7 _ o, p2.isList.at fun o => z7 _ o⟩⟩, q⟩
        · show a < h'.objs.size; rw [z6]; exact Nat.lt_add_right 5 l1
        · show b < h'.objs.size; rw [z6]; exact Nat.lt_add_right 5 l2
        · show c < h'.objs.size; rw [z6]; exact (five c hc).2
      · obtain ⟨us1, rv, p1, zl⟩ := I1.tuple k1
        obtain ⟨us2, rv2, p2, _⟩ := I1.tuple k2
        obtain ⟨o1, ho1, _⟩ := id p1
        obtain ⟨o2, ho2, _⟩ := id p2
        have l1 := Heap.lt_size ho1
        have l2 := Heap.lt_size ho2
        have t1 : s1.heap.IsTuple a us1.toArray := p1
        have t2 : s1.heap.IsTuple b us2.toArray := p2
        refine call_zipT t1 t2 fun h' z1 z2 z3 z4 z5 z6 z7 => ?_
        refine ⟨_, _, _, _, _, a, b, us1.toArray, us2.toArray, xs, ys, H1, rfl, I1.kept (t' := s1.toks) z7, PySem.W.ktu_apart s1.heap.objs.size a b l1 l2, ⟨l1, Nat.lt_succ_of_lt l1, l2, Nat.lt_succ_of_lt l2, ?_, ?_⟩, rv, rv2, zl, fp5, fun c hc => ?_, z1, z2, .inl ⟨rfl, z1, ⟨_, _, z3⟩, .inr ⟨z4, z5, t1.at fun o => z7 _ o, t2.at fun o => z7 _ o⟩⟩, q⟩
        · show a < h'.objs.size; rw [z6]; exact Nat.lt_add_right 5 l1
        · show b < h'.objs.size; rw [z6]; exact Nat.lt_add_right 5 l2
        · show c < h'.objs.size; rw [z6]; exact (five c hc).2
/-- list(zip(a, b)) -/
def tLz (K : PySem.W.Frag) (ta : TA) : TE := fun σ H Q => ta σ H fun vs H1 => ∃ a b xs ys, vs = [.ref a, .ref b] ∧ ((SqL K H1 a xs ∧ SqL K H1 b ys) ∨ (SqT K H1 a xs ∧ SqT K H1 b ys)) ∧
  ∀ S H' ws, H1 S = none → H' S = some (.lst ws) → ws.length = min xs.length ys.length → ws.length ≤ sizeLine → Prs H1 H' xs ys ws → Same H1 H' → Q (.ref S) H'
theorem pe_lz {e e2 : Expr} {ta : TA} {p p2 pos pos2 : Pos} (hc : X.calm = true) (hl : Gl X "list") (hml : X.mg "list" = none) (hg : Gl X "zip") (hm : X.mg "zip" = none) (ha : PA X [e, e2] ta)
    (hs : starEach [e, e2] X.env = (false, eval e X.env) :: starEach [e2] X.env) (hpl : (backTo pos2 (starEach [e2] X.env)).any (·.1) = false) :
    PE X (.Call (.Name "list" p) [.Call (.Name "zip" p2) [e, e2] [] pos2] [] pos) (tLz X.K ta) := by
  refine ⟨fun pins s σ H Q I h => ?_⟩
  unfold tLz at h
  refine Call_ (ld_blt I hl hml boot_list (PyProof.Rows.callWith_type1 (args_cons (thn (zip_made (Q := fun a xs b ys H1 => ∀ S H' ws, H1 S = none → H' S = some (.lst ws) → ws.length = min xs.length ys.length → ws.length ≤ sizeLine → Prs H1 H' xs ys ws → Same H1 H' → Q (.ref S) H') hg hm ha I hs hpl h) fun u s1 hh => args_nil ?_) rfl) rfl))
  obtain ⟨z, TI, TO, i1, i2, a, b, its, its2, xs, ys, H1, rfl, I1, D, ⟨m1, m2, m3, m4, m5, m6⟩, rx, ry, zl, fp, lt, gz, gI, st, q⟩ := hh
  have Sb : ∀ c ∈ [z, TI, TO, i1, i2, a, b], c < s1.heap.objs.size := fun c hc => by
    simp only [List.mem_cons, List.not_mem_nil, or_false] at hc lt
    rcases hc with k | k | k | k | k | k | k
    · exact lt c (.inl k)
    · exact lt c (.inr (.inl k))
    · exact lt c (.inr (.inr (.inl k)))
    · exact lt c (.inr (.inr (.inr (.inl k))))
    · exact lt c (.inr (.inr (.inr (.inr k))))
    · rw [k]; exact m5
    · rw [k]; exact m6
  have nS : s1.heap.objs.size ∉ [z, TI, TO, i1, i2, a, b] := fun hc => Nat.lt_irrefl _ (Sb _ hc)
  have nSz : s1.heap.objs.size ≠ z := fun k => nS (by rw [k]; exact List.mem_cons_self)
  refine callType_codes (Q₁ := fun obj s2 => obj = .ref s1.heap.objs.size ∧ s2 = { s1 with heap := s1.heap.push { cls := .type "list", data := .seq #[] } }) PySem.F.called_list (PySem.F.typeCall_list_1 _) PySem.F.entry_list_init (code_list_new _ ⟨rfl, rfl⟩) fun obj s2 h2 => ?_
  obtain ⟨rfl, rfl⟩ := h2
  have g0 : (s1.heap.push { cls := .type "list", data := .seq #[] }).get? s1.heap.objs.size = some { cls := .type "list", data := .seq #[] } := Heap.get?_push_size _ rfl
  refine ⟨⟨_, g0, rfl⟩, PySem.F.args_list_init_2 _ _, ?_⟩
  show wpAny _ _ (do let old ← Builtin.List.listItems (.ref s1.heap.objs.size); Builtin.List.listUpdate (.ref s1.heap.objs.size) (fun _ => #[]); letGo old.toList.reverse; Builtin.List.listExtendWith (.ref s1.heap.objs.size) (.ref z) .none) _ _ _
  refine wpAny_bind ?_
  unfold Builtin.List.listItems
  refine wpAny_bind (wpAny_seqItems g0 rfl (wpAny_pure ?_))
  show wpAny _ _ (updateSeq s1.heap.objs.size (fun _ => #[]) >>= fun _ => letGo (#[] : Array Value).toList.reverse >>= fun _ => Builtin.List.listExtendWith (.ref s1.heap.objs.size) (.ref z) .none) _ _ _
  refine wpAny_bind (wpAny_updateSeq g0 rfl ?_)
  have g1 := Heap.get?_update_self (Obj.mapSeq (fun _ => (#[] : Array Value))) g0 rfl
  have k0 : ∀ c o, s1.heap.get? c = some o → (s1.heap.push { cls := .type "list", data := .seq #[] }).get? c = some o := fun c o e => Heap.get?_push_of_some _ e
  have ne : ∀ c o, s1.heap.get? c = some o → s1.heap.objs.size ≠ c := fun c o e => Ne.symm (Nat.ne_of_lt (Heap.lt_size e))
  have k1 : ∀ c o, s1.heap.get? c = some o → ((s1.heap.push { cls := .type "list", data := .seq #[] }).update s1.heap.objs.size (Obj.mapSeq (fun _ => (#[] : Array Value)))).get? c = some o := fun c o e => (Heap.get?_update_other _ _ (ne c o e)).trans (k0 c o e)
  generalize hh1 : (s1.heap.push { cls := .type "list", data := .seq #[] }).update s1.heap.objs.size (Obj.mapSeq (fun _ => (#[] : Array Value))) = hp1 at g1 k1 ⊢
  obtain ⟨c1, g1'⟩ : ∃ c, hp1.get? s1.heap.objs.size = some { cls := .type "list", data := .seq #[] c } := by rw [g1]; exact ⟨_, rfl⟩
  refine wpAny_bind (wpAny_letGo ?_)
  unfold Builtin.List.listExtendWith
  have ty : ∀ (hp : Heap) (tk : Nat), (∀ c o, s1.heap.get? c = some o → hp.get? c = some o) → (⟨hp, s1.gens, s1.drawn, tk, s1.os⟩ : Shared).TypeIs (.ref z) "zip" := fun hp tk k => ⟨_, k _ _ gz, rfl⟩
  refine wpAny_bind (wpAny_typeOf (T := "zip") (ty hp1 _ k1) ?_)
  have c1' : Builtin.List.listSameRef (.ref s1.heap.objs.size) (.ref z) = false := by simp [Builtin.List.listSameRef, nSz]
  simp only [c1', show (Value.type "zip" == Value.type "list") = false by decide, show (Value.type "zip" == Value.type "tuple") = false by decide, Bool.or_false, Bool.false_eq_true, if_false]
  refine wpAny_bind (wpAny_pyIter_zip (s := { s1 with heap := hp1 }) (k1 _ _ gz) ?_)
  refine wpAny_bind (wpAny_holding ?_)
  unfold Builtin.List.listLengthHint
  refine wpAny_bind (wpAny_specialOf (ty hp1 _ k1) zip_no_len ?_)
  show wpAny _ _ (specialOf (Value.ref z) (Str.ofString "__length_hint__") >>= _) _ _ _
  refine wpAny_bind (wpAny_specialOf (ty hp1 _ k1) zip_no_hint (wpAny_pure ?_))
  show wpAny _ _ (rule "list.extend.makes-room" >>= fun _ => Builtin.List.listTouch (.ref s1.heap.objs.size) >>= fun _ => again (.builtin "list.extend.loop" ⟨[.ref s1.heap.objs.size, .ref z, .none], []⟩)) _ _ _
  refine wpAny_bind (wpAny_rule (wpAny_bind ?_))
  show wpAny _ _ (updateSeq s1.heap.objs.size (·.push .none) >>= fun _ => updateSeq s1.heap.objs.size (·.pop)) _ _ _
  refine wpAny_bind (wpAny_updateSeq g1' rfl ?_)
  have g2 := Heap.get?_update_self (Obj.mapSeq (·.push Value.none)) g1' rfl
  refine wpAny_updateSeq (hz := by seq_fits) g2 rfl ?_
  have g3 := Heap.get?_update_self (Obj.mapSeq (·.pop)) g2 rfl
  have k3 : ∀ c o, s1.heap.get? c = some o → ((hp1.update s1.heap.objs.size (Obj.mapSeq (·.push Value.none))).update s1.heap.objs.size (Obj.mapSeq (·.pop))).get? c = some o := fun c o e => (Heap.get?_update_other _ _ (ne c o e)).trans ((Heap.get?_update_other _ _ (ne c o e)).trans (k1 c o e))
  generalize hh3 : (hp1.update s1.heap.objs.size (Obj.mapSeq (·.push Value.none))).update s1.heap.objs.size (Obj.mapSeq (·.pop)) = hp3 at g3 k3 ⊢
  obtain ⟨c3, g3'⟩ : ∃ c, hp3.get? s1.heap.objs.size = some { cls := .type "list", data := .seq #[] c } := by rw [g3]; exact ⟨_, rfl⟩
  refine wpAny_pure ⟨plainId_quiet F.plain_extend_loop _, ?_⟩
  have I3 : Inv X pins σ (upd H1 s1.heap.objs.size (.lst [])) { s1 with heap := hp3 } := I1.laid (t' := s1.toks) k3 (Nat.le_refl _) (show ObjOk X.prog X.w _ _ _ (.lst []) from ⟨Nat.zero_le _, [], c3, .nil, g3'⟩)
  have nf : H1 s1.heap.objs.size = none := I1.hok.fresh (Nat.le_refl _)
  have sz3 : s1.heap.objs.size < hp3.objs.size := Heap.lt_size g3'
  refine zip_drain (A := X.A.in1) (S := s1.heap.objs.size) (H0 := H1) (I1.ok.hd hc) D (Nat.ne_of_lt m1) (Nat.ne_of_lt m4) (Nat.ne_of_lt m2) nS rx ry zl (fun s' H' vs I' e1 e2 e3 e4 => ?_) (min xs.length ys.length) 0 _ _ [] (Nat.zero_add _) I3 (fun c hc => ?_) (fun c hc => ?_) upd_same rfl (fun j v hj => by simp at hj) (fun b o hb e => by rw [upd_ne hb]; exact e) (k3 _ _ gI) (Zst.keep (S := s1.heap.objs.size) st (fun c o _ e => k3 c o e) nS fun T a b g => Nat.ne_of_lt (Heap.lt_size g))
  · refine ⟨rfl, .ref s1.heap.objs.size, H', I', rfl, q _ H' vs nf e1 e2 (by rw [e2]; exact Nat.le_trans (Nat.min_le_left _ _) zl) e3 fun b o e => e4 b o (fun k => by rw [k, nf] at e; cases e) e⟩
  · obtain ⟨f1, f2⟩ := fp c hc
    refine ⟨?_, f2⟩
    rw [upd_ne (Nat.ne_of_lt (lt c hc))]
    exact f1
  · exact Nat.lt_trans (lt c hc) sz3
end
end G

set_option Elab.async false
set_option linter.all false
set_option maxRecDepth 100000
set_option maxHeartbeats 4000000
/-! Zt: tuple * int, by one and by nothing. -/
namespace G
open PySem PySem.Spec PyProof.Rows L2
theorem tuple_mulB (l : Addr) (items : Array Value) (n : Nat) (dd : Option Addr) (sl : Array (Option Value)) (x : Int) (u : Tok) (c0 : (decide (x < -(2 ^ 63)) || decide (x ≥ 2 ^ 63)) = false) (c1 : (items.isEmpty || x == 1) = true) :
    Meets (Builtin.«tuple.__mul__» ⟨[.ref l, .int x u], []⟩) (fun _ R s => s.heap.get? l = some { cls := .type "tuple", dict := dd, data := .seq items n, slots := sl } ∧ R (.ok (.ret (Value.ref l))) { s with heap := s.heap, toks := s.toks }) :=
  .of_wp fun prog w A R s h => by
    obtain ⟨hp, g, d, tk, os⟩ := s
    obtain ⟨hl, h⟩ := h
    have f1 := AutoSeq1.idx_int
    wp_walk using wpAny_loadPart' hl
    repeat (first
      | (refine wpAny_ite_false (decide_eq_false (by rw [c0]; exact Bool.false_ne_true)) ?_; wp_walk using wpAny_loadPart' hl)
      | (refine wpAny_ite_true (decide_eq_true c1) ?_; wp_walk using wpAny_loadPart' hl))
    exact ⟨_, rfl, h⟩
theorem tuple_mulC (l : Addr) (items : Array Value) (n : Nat) (dd : Option Addr) (sl : Array (Option Value)) (x : Int) (u : Tok) (c0 : (decide (x < -(2 ^ 63)) || decide (x ≥ 2 ^ 63)) = false) (c1 : (items.isEmpty || x == 1) = false) (c2 : (decide (x ≤ 0) || items.isEmpty) = true) :
    Meets (Builtin.«tuple.__mul__» ⟨[.ref l, .int x u], []⟩) (fun _ R s => s.heap.get? l = some { cls := .type "tuple", dict := dd, data := .seq items n, slots := sl } ∧ R (.ok (.ret (Value.ref s.heap.objs.size))) { s with heap := s.heap.push { cls := Value.type "tuple", data := Data.seq #[] }, toks := s.toks }) :=
  .of_wp fun prog w A R s h => by
    obtain ⟨hp, g, d, tk, os⟩ := s
    obtain ⟨hl, h⟩ := h
    have f1 := AutoSeq1.idx_int
    wp_walk using wpAny_loadPart' hl
    repeat (first
      | (refine wpAny_ite_false (decide_eq_false (by rw [c0]; exact Bool.false_ne_true)) ?_; wp_walk using wpAny_loadPart' hl)
      | (refine wpAny_ite_false (decide_eq_false (by rw [c1]; exact Bool.false_ne_true)) ?_; wp_walk using wpAny_loadPart' hl)
      | (refine wpAny_ite_true (decide_eq_true c2) ?_; wp_walk using wpAny_loadPart' hl))
    exact ⟨_, rfl, h⟩
/-- t * 1 -/
def rRepB (K : PySem.W.Frag) : R2 := fun x y H Q => ∃ l xs, x = .ref l ∧ y = .int 1 ∧ SqT K H l xs ∧ Q (.ref l) H
/-- t * n, n not above 0 -/
def rRepC (K : PySem.W.Frag) : R2 := fun x y H Q => ∃ l k xs, x = .ref l ∧ y = .int k ∧ SqT K H l xs ∧ xs ≠ [] ∧ -(2 ^ 63) ≤ k ∧ k ≤ 0 ∧ ∀ p, H p = none → Q (.ref p) (upd H p (.tup []))
section
variable {X : Cx}
theorem op_repB : OpR X (binaryOp .Mult) (rRepB X.K) := by
  intro pins s σ H x y v u Q I rx ry h
  obtain ⟨l, xs, rfl, rfl, hT, q⟩ := h
  cases rx
  obtain ⟨t, rfl⟩ := ry
  obtain ⟨its, r, ⟨⟨cls, dd, data, sl⟩, ho, hc, n, hd⟩, hs⟩ := I.tuple hT
  simp only at hc hd
  subst hc hd
  have c1 : (its.toArray.isEmpty || (1 : Int) == 1) = true := by rw [Bool.or_eq_true]; exact .inr rfl
  refine wpAny_binaryOp_repeat_ref (T := "tuple") (U := "int") (by decide) ⟨_, ho, rfl⟩ (fun s' => typeIs_int s' 1 t) noFill_tuple_mul F.fills_int_mul F.slot_int_rmul repeat_tuple F.slot_int_index.lookup
    (call_meets F.slot_int_rmul (typeIs_int s 1 t) F.entry_int_rmul (F.args_int_rmul_2 _ _) (int_rmul_tuple 1 t l its.toArray n dd sl)
      ⟨ho, rfl, ⟨_, ho, rfl⟩, call_meets F.slot_tuple_mul ⟨_, ho, rfl⟩ F.entry_tuple_mul (F.args_tuple_mul_2 _ _) (tuple_mulB l its.toArray n dd sl 1 t (by decide) c1) ⟨ho, ?_⟩⟩)
  exact ⟨.ref l, H, I, rfl, q⟩
theorem op_repC : OpR X (binaryOp .Mult) (rRepC X.K) := by
  intro pins s σ H x y v u Q I rx ry h
  obtain ⟨l, k, xs, rfl, rfl, hT, hne, h1, h2, q⟩ := h
  cases rx
  obtain ⟨t, rfl⟩ := ry
  obtain ⟨its, r, ⟨⟨cls, dd, data, sl⟩, ho, hc, n, hd⟩, hs⟩ := I.tuple hT
  simp only at hc hd
  subst hc hd
  have hle : its.length = xs.length := r.length.symm
  have hi : its.toArray.isEmpty = false := by
    cases its with
    | nil => exact absurd (List.eq_nil_of_length_eq_zero hle.symm) hne
    | cons a b => rfl
  have c0 : (decide (k < -(2 ^ 63)) || decide (k ≥ 2 ^ 63)) = false := by
    rw [decide_eq_false (by omega), decide_eq_false (by omega)] <;> rfl
  have c1 : (its.toArray.isEmpty || k == 1) = false := by
    rw [hi, Bool.false_or]
    exact beq_eq_false_iff_ne.mpr (by omega)
  have c2 : (decide (k ≤ 0) || its.toArray.isEmpty) = true := by rw [decide_eq_true h2]; rfl
  refine wpAny_binaryOp_repeat_ref (T := "tuple") (U := "int") (by decide) ⟨_, ho, rfl⟩ (fun s' => typeIs_int s' k t) noFill_tuple_mul F.fills_int_mul F.slot_int_rmul repeat_tuple F.slot_int_index.lookup
    (call_meets F.slot_int_rmul (typeIs_int s k t) F.entry_int_rmul (F.args_int_rmul_2 _ _) (int_rmul_tuple k t l its.toArray n dd sl)
      ⟨ho, rfl, ⟨_, ho, rfl⟩, call_meets F.slot_tuple_mul ⟨_, ho, rfl⟩ F.entry_tuple_mul (F.args_tuple_mul_2 _ _) (tuple_mulC l its.toArray n dd sl k t c0 c1 c2) ⟨ho, ?_⟩⟩)
  refine ⟨.ref s.heap.objs.size, _, I.laid (t' := s.toks) (o := .tup []) (fun b ob q => Heap.get?_push_of_some _ q) (Nat.le_refl _) ?_, rfl, q _ (I.hok.fresh (Nat.le_refl _))⟩
  exact ⟨by rw [sizeLine_eq]; exact Nat.zero_le _, [], .nil, IsTup.new _ _⟩
end
end G

set_option linter.all false
set_option maxRecDepth 100000
set_option Elab.async false
/-! Sb: a core term says what a piece of the text says; what is known of the module. -/
namespace G
open PySem PySem.Spec PyProof.Rows L2

/-- what the law's text has: its defs (name, parameters), the builtins that it uses, its constants -/
structure Cfg where
  fns : List (Str × List Str)
  dfl : List (List Int) := []
  excs : List (Str × Option Str) := []
  free : List Str
  gcd : Bool
  consts : List (Str × Int)
  jk : Option Bool
  js : Bool
/-- where a name stands: the scope, the names that may be stored -/
structure Sc where
  sc : Scope
  st : Str → Bool

def lk (S : Sc) (x : Str) : Option NameKind := S.sc.names.lookup x
def okName (x : Str) : Bool := !(x == ("__debug__" : Str)) && !(x == ("__classdict__" : Str))
def visB (S : Sc) (x : Str) : Bool := match lk S x with | some .local => true | some .cell => true | some .free => true | _ => false
def glB (S : Sc) (x : Str) : Bool := match lk S x with | some .globalImplicit => true | _ => false
def bltB (cf : Cfg) (S : Sc) (x y : Str) : Bool := decide (x = y) && (cf.free.contains x && glB S x)
def notStar : Expr → Bool | .Starred .. => false | _ => true
def notSet : Expr → Bool | .Set .. => false | _ => true
def noComp : Expr → Bool | .ListComp .. => false | .SetComp .. => false | .DictComp .. => false | _ => true
def plainT : Expr → Bool | .IfExp .. => false | .Compare .. => false | .BoolOp .. => false | .UnaryOp .. => false | _ => true
def boMatch : BO → Operator → Bool
  | .add, .Add => true | .sub, .Sub => true | .mul, .Mult => true | .fdiv, .FloorDiv => true | .mod, .Mod => true | .pow, .Pow => true | _, _ => false
def coMatch : CO → CmpOp → Bool
  | .eq, .Eq => true | .ne, .NotEq => true | .lt, .Lt => true | .le, .LtE => true | .gt, .Gt => true | .ge, .GtE => true | .isin, .In => true | .notin, .NotIn => true | _, _ => false
def biName : BI → Str
  | .len => "len" | .abs => "abs" | .min2 => "min" | .max2 => "max" | .min1 => "min" | .max1 => "max" | .sum => "sum" | .sorted => "sorted" | .list => "list" | .tuple => "tuple"
  | .int => "int" | .bool => "bool" | .repr => "repr" | .all => "all" | .any => "any" | .divmod => "divmod" | .gcd => "gcd" | .str => "str" | _ => "isinstance"
def biN : BI → Nat
  | .min2 => 2 | .max2 => 2 | .divmod => 2 | .gcd => 2 | _ => 1
def isiName : BI → Str
  | .isTuple => "tuple" | .isInt => "int" | .isBool => "bool" | .isStr => "str" | .isList => "list" | _ => ""
def isIsi (k : BI) : Bool := match k with | .isTuple => true | .isInt => true | .isBool => true | .isStr => true | .isList => true | _ => false
/-- a slice's step is -1 -/
def isRev : Expr → Bool
  | .Slice none none (some (.UnaryOp .USub (.Constant (.int 1) _ _) _)) _ => true
  | _ => false
def isSlice : Expr → Bool | .Slice .. => true | _ => false

def exsLen : Exs → Nat | .nil => 0 | .cons _ es => exsLen es + 1

/-- a key of the law's random state -/
def chkKey : Sum Int Str → Expr → Bool
  | .inr x, .Constant (.str y) _ _ => decide (x = y)
  | .inl i, .Constant (.int n) _ _ => decide (i = n)
  | _, _ => false
def isStrK : Sum Int Str → Bool | .inr _ => true | .inl _ => false
section
variable (cf : Cfg) (N : List Str)
def chkSrc (S : Sc) : Src → Expr → Bool
  | .fld i k, .Subscript (.Name x _) c _ => decide (N[i]? = some x) && (visB S x && (okName x && (chkKey k c && decide (cf.jk = some (isStrK k)))))
  | .al i, .Name x _ => decide (N[i]? = some x) && (visB S x && (okName x && cf.jk.isSome))
  | _, _ => false
mutual
def chkTg (S : Sc) : Tg → Expr → Bool
  | .v i, .Name x _ => decide (N[i]? = some x) && S.st x
  | .t ts, .Tuple es _ _ => chkTgs S ts es
  | _, _ => false
def chkTgs (S : Sc) : Tgs → List Expr → Bool
  | .nil, [] => true
  | .cons t ts, e :: es => notStar e && (chkTg S t e && chkTgs S ts es)
  | _, _ => false
end
mutual
def inOwn (own : List (Str × Nat)) : Tg → Bool
  | .v i => own.any fun p => p.2 == i
  | .t ts => insOwn own ts
def insOwn (own : List (Str × Nat)) : Tgs → Bool
  | .nil => true
  | .cons t ts => inOwn own t && insOwn own ts
end
def isTup : Expr → Bool | .Tuple .. => true | _ => false
mutual
def chkE (S : Sc) : Ex → Expr → Bool
  | .v i, .Name x _ => decide (N[i]? = some x) && (visB S x && okName x)
  | .i n, .Constant (.int m) _ _ => decide (n = m)
  | .b x, .Constant (.bool y) _ _ => decide (x = y)
  | .n, .Constant .none _ _ => true
  | .s x, .Constant (.str y) _ _ => decide (x = y)
  | .g x n, .Name y _ => decide (x = y) && (glB S x && (okName x && cf.consts.any fun p => decide (p.1 = x) && decide (p.2 = n)))
  | .tup es, .Tuple xs _ _ => decide (exsLen es ≤ 1000) && chkEs S es xs
  | .lst es, .List xs _ => decide (exsLen es ≤ 1000) && chkEs S es xs
  | .bin o a b, .BinOp x op y _ => boMatch o op && (chkE S a x && chkE S b y)
  | .neg a, .UnaryOp .USub x _ => chkE S a x
  | .nt a, .UnaryOp .Not x _ => chkE S a x
  | .cmp o a b, .Compare x [op] [y] _ => coMatch o op && (notSet y && (chkE S a x && chkE S b y))
  | .chain o p a b c, .Compare x [op, op'] [y, z] _ => coMatch o op && (coMatch p op' && (notSet z && (chkE S a x && (chkE S b y && chkE S c z))))
  | .isN a, .Compare x [.Is] [.Constant .none _ _] _ => chkE S a x
  | .notN a, .Compare x [.IsNot] [.Constant .none _ _] _ => chkE S a x
  | .and a b, .BoolOp .And [x, y] _ => chkE S a x && chkE S b y
  | .and a b, .BoolOp .And (x :: y :: z :: r) p => chkE S a x && chkE S b (.BoolOp .And (y :: z :: r) p)
  | .or a b, .BoolOp .Or [x, y] _ => chkE S a x && chkE S b y
  | .or a b, .BoolOp .Or (x :: y :: z :: r) p => chkE S a x && chkE S b (.BoolOp .Or (y :: z :: r) p)
  | .ite t a b, .IfExp u x y _ => chkT S t u && (chkE S a x && chkE S b y)
  | .ix a i, .Subscript x y _ => !isSlice y && (chkE S a x && chkE S i y)
  | .cut a lo hi, .Subscript x (.Slice l h none _) _ => chkE S a x && (chkO S lo l && chkO S hi h)
  | .rev a, .Subscript x y _ => isRev y && chkE S a x
  | .call f es, .Call (.Name x _) (y :: ys) [] _ => (match cf.fns[f]? with | some p => decide (p.1 = x) && decide (p.2.length = exsLen es) | none => false) && (glB S x && (okName x && chkEs S es (y :: ys)))
  | .calld f es ns, .Call (.Name x _) (y :: ys) [] _ => (match cf.fns[f]? with | some p => decide (p.1 = x) && (decide (ns = cf.dfl.getD f []) && (decide (ns ≠ []) && decide (p.2.length = exsLen es + ns.length))) | none => false) && (glB S x && (okName x && chkEs S es (y :: ys)))
  | .dct0, .Dict [] [] _ => true
  | .lw (.r1 a), .Call (.Name l _) [.Call (.Name f _) [x] [] _] [] _ => bltB cf S l "list" && (bltB cf S f "range" && (notStar x && chkE S a x))
  | .lw (.r2 a b), .Call (.Name l _) [.Call (.Name f _) [x, y] [] _] [] _ => bltB cf S l "list" && (bltB cf S f "range" && (notStar x && (notStar y && (chkE S a x && chkE S b y))))
  | .lw (.zip a b), .Call (.Name l _) [.Call (.Name f _) [x, y] [] _] [] _ => bltB cf S l "list" && (bltB cf S f "zip" && (notStar x && (notStar y && (chkE S a x && chkE S b y))))
  | .callk f es ks ps, .Call (.Name x _) ys (k :: kws) _ => (match cf.fns[f]? with | some p => decide (p.1 = x) && (decide (cf.dfl.getD f [] = []) && (kOk p.2 (exsLen es) ((k :: kws).filterMap (·.arg)) && decide (ps = kperm p.2 (exsLen es) ((k :: kws).filterMap (·.arg))))) | none => false) &&
      (glB S x && (okName x && (chkEs S es ys && chkKs S ks (k :: kws))))
  | .bi k es, .Call (.Name x _) xs [] _ => decide (x = biName k) && (decide (exsLen es = biN k) && (glB S x && (if isIsi k then (match xs with
      | [a, .Name t _] => decide (t = isiName k) && (bltB cf S t t && (cf.free.contains x && chkEs S es [a]))
      | _ => false) else (if x = ("gcd" : Str) then cf.gcd else cf.free.contains x) && chkEs S es xs)))
  | .comp e t w c own, .ListComp elt [⟨tg, iter, ifs, a⟩] scope _ => decide (a = 0) && (blkC N S.sc scope own && (notSet iter && (inOwn own t && (chkW S w iter tg &&
      (chkTg N ⟨relS scope S.sc, fun x => match scope.names.lookup x with | some .local => true | some .cell => true | _ => false⟩ t tg &&
      ((match c, ifs with
        | .yes, [] => true
        | c, [i] => chkT ⟨relS scope S.sc, fun x => match scope.names.lookup x with | some .local => true | some .cell => true | _ => false⟩ c i
        | _, _ => false) &&
        chkE ⟨relS scope S.sc, fun x => match scope.names.lookup x with | some .local => true | some .cell => true | _ => false⟩ e elt))))))
  | .pop i, .Call (.Attribute (.Name x _) m ap) [] [] cp => decide (m = ("pop" : Str)) && ((ap.endLine == cp.line) && (decide (N[i]? = some x) && (visB S x && okName x)))
  | .popA i n, .Call (.Attribute (.Name x _) m ap) [.Constant (.int k) _ _] [] cp => decide (m = ("pop" : Str)) && ((ap.endLine == cp.line) && (decide (N[i]? = some x) && (visB S x && (okName x && decide (n = k)))))
  | .jg i k, .Subscript (.Name x _) c _ => decide (N[i]? = some x) && (visB S x && (okName x && (chkKey k c && decide (cf.jk = some (isStrK k)))))
  | .scut i n, .Subscript (.Name x _) (.Slice none (some (.Constant (.int m) _ _)) none _) _ => decide (N[i]? = some x) && (visB S x && (okName x && (decide (n = m) && cf.js)))
  | .stp a lo k, .Subscript x (.Slice (some (.Constant (.int l) _ _)) none (some (.Constant (.int m) _ _)) _) _ => decide ((lo : Int) = l) && (decide ((k : Int) = m) && (decide (0 < k) && chkE S a x))
  | .slen i, .Call (.Name f _) [.Name x _] [] _ => decide (N[i]? = some x) && (visB S x && (okName x && (bltB cf S f "len" && cf.js)))
  | .jn s, .Compare x [.NotEq] [.List [] _] _ => chkSrc cf N S s x
  | .jp s false, .Call (.Attribute x m ap) [] [] cp => decide (m = ("pop" : Str)) && ((ap.endLine == cp.line) && chkSrc cf N S s x)
  | .jp s true, .Call (.Attribute x m ap) [.Constant (.int 0) _ _] [] cp => decide (m = ("pop" : Str)) && ((ap.endLine == cp.line) && chkSrc cf N S s x)
  | _, _ => false
def chkT (S : Sc) : Ts → Expr → Bool
  | .and a b, .BoolOp .And [x, y] _ => chkT S a x && chkT S b y
  | .and a b, .BoolOp .And (x :: y :: z :: r) p => chkT S a x && chkT S b (.BoolOp .And (y :: z :: r) p)
  | .or a b, .BoolOp .Or [x, y] _ => chkT S a x && chkT S b y
  | .or a b, .BoolOp .Or (x :: y :: z :: r) p => chkT S a x && chkT S b (.BoolOp .Or (y :: z :: r) p)
  | .nt a, .UnaryOp .Not x _ => chkT S a x
  | .e a, x => (plainT x || (match a, x with | .cmp .., .Compare .. => true | .chain .., .Compare .. => true | .isN _, .Compare .. => true | .notN _, .Compare .. => true | .jn _, .Compare .. => true | _, _ => false)) && chkE S a x
  | _, _ => false
def chkEs (S : Sc) : Exs → List Expr → Bool
  | .nil, [] => true
  | .cons e es, x :: xs => notStar x && (chkE S e x && chkEs S es xs)
  | _, _ => false
def chkKs (S : Sc) : Exs → List Keyword → Bool
  | .nil, [] => true
  | .cons e es, ⟨some _, x, _⟩ :: xs => chkE S e x && chkKs S es xs
  | _, _ => false
def chkO (S : Sc) : Op → Option Expr → Bool
  | .no, none => true
  | .so e, some x => chkE S e x
  | _, _ => false
def chkW (S : Sc) : It → Expr → Expr → Bool
  | .e a, x, _ => chkE S a x
  | .r1 a, .Call (.Name f _) [x] [] _, _ => bltB cf S f "range" && (notStar x && chkE S a x)
  | .r2 a b, .Call (.Name f _) [x, y] [] _, _ => bltB cf S f "range" && (notStar x && (notStar y && (chkE S a x && chkE S b y)))
  | .en a, .Call (.Name f _) [x] [] _, tg => bltB cf S f "enumerate" && (isTup tg && (notStar x && chkE S a x))
  | .zip a b, .Call (.Name f _) [x, y] [] _, tg => bltB cf S f "zip" && (isTup tg && (notStar x && (notStar y && (chkE S a x && chkE S b y))))
  | _, _, _ => false
end
end
end G

set_option linter.all false
set_option maxRecDepth 100000
set_option Elab.async false
/-! Sc: the operations by values. -/
namespace G
open PySem PySem.Spec PyProof.Rows L2

/-- what an operation gives, at the heap -/
def Res (K : PySem.W.Frag) (J : Jar) (H Z : Hp) (z : Rz) (v : V) (H' : Hp) : Prop :=
  match z with
  | .val d => (H' = H ∧ Rep K J Z v d) ∨ ∃ p vs ds, H p = none ∧ H' = upd H p (.tup vs) ∧ v = .ref p ∧ d = .tuple ds ∧ RepL K J Z vs ds ∧ vs.length ≤ sizeLine
  | .new ds => ∃ p vs, H p = none ∧ H' = upd H p (.lst vs) ∧ v = .ref p ∧ RepL K J Z vs ds ∧ vs.length ≤ sizeLine
  | .sl _ => False
theorem Rel.res {K : PySem.W.Frag} {J : Jar} {F : Fm} {σ : L2.St} {H Z H' : Hp} {r : En} {z : Rz} {v : V} (R : Rel K J F σ H Z r) (h : Res K J H Z z v H') : ∃ Z', Same Z Z' ∧ Rel K J F σ H' Z' r ∧ RepR K J F σ H' Z' r z v := by
  cases z with
  | val d =>
    rcases h with ⟨rfl, h⟩ | ⟨p, vs, ds, hp, rfl, rfl, rfl, hl, hz⟩
    · exact ⟨Z, .refl _, R, h⟩
    · obtain ⟨s, R'⟩ := R.lay (o := .tup vs) hp (fun xs e => by rcases e with e | e <;> cases e; exact hz) (.inr (.inl ⟨_, rfl⟩))
      exact ⟨_, s, R', .tup (.of upd_same) (hl.mono s)⟩
  | new ds =>
    obtain ⟨p, vs, hp, rfl, rfl, hl, hz⟩ := h
    obtain ⟨h1, h2, h3, h4⟩ := R.fresh hp
    exact ⟨Z, .refl _, R.grow hp, p, vs, rfl, upd_same, hz, hl, h1, h2, h3, h4⟩
  | sl i => exact h.elim

theorem szl : sizeLine = 16777216 := sizeLine_eq
section
variable {X : Cx} {J : Jar}
def rOp (K : PySem.W.Frag) (J : Jar) (o : BO) : R2 := fun x y H Q => ∃ Z d e, Same Z H ∧ RepS K J H Z x d ∧ RepS K J H Z y e ∧ opW o d e fun z => ∀ v H', Res K J H Z z v H' → Q v H'
theorem rep_int {K : PySem.W.Frag} {Z : Hp} {v : V} {i : Int} (h : Rep K J Z v (.int i)) : v = .int i := by cases h; rfl
theorem rep_str {K : PySem.W.Frag} {Z : Hp} {v : V} {i : Str} (h : Rep K J Z v (.str i)) : v = .str i := by cases h; rfl
theorem rep_bool {K : PySem.W.Frag} {Z : Hp} {v : V} {i : Bool} (h : Rep K J Z v (.bool i)) : v = .bl i := by cases h; rfl
theorem rep_none {K : PySem.W.Frag} {Z : Hp} {v : V} (h : Rep K J Z v .none) : v = .non := by cases h; rfl
theorem rep_tup {K : PySem.W.Frag} {Z : Hp} {v : V} {ds : List D} (h : Rep K J Z v (.tuple ds)) : ∃ a xs, v = .ref a ∧ SqT K Z a xs ∧ RepL K J Z xs ds := by cases h with | tup h l => exact ⟨_, _, rfl, h, l⟩
theorem repL_nil {K : PySem.W.Frag} {Z : Hp} {ds : List D} (h : RepL K J Z [] ds) : ds = [] := by cases h; rfl
theorem op_add' : OpR X (binaryOp .Add) (rOp X.K J .add) := by
  rintro pins s σ H x y v u Q I rx ry ⟨Z, d, e, sz, hx, hy, q⟩
  unfold opW at q
  dsimp only at q
  split at q
  · split at q
    · cases rep_int hx; cases rep_int hy
      exact op_add pins s σ H _ _ v u Q I rx ry ⟨_, _, rfl, rfl, q _ _ (.inl ⟨rfl, .int _⟩)⟩
    · exact q.elim
  · split at q
    · obtain ⟨a, vs, rfl, e1, e2, l1⟩ := hx
      obtain ⟨b, ws, rfl, f1, f2, l2⟩ := hy
      have hz : vs.length + ws.length ≤ sizeLine := by rw [szl, l1.length, l2.length]; exact q.1
      exact op_cat pins s σ H _ _ v u Q I rx ry ⟨_, _, _, _, rfl, rfl, e1, f1, hz, fun p hp => q.2 _ _ ⟨p, _, hp, rfl, rfl, l1.append l2, by rw [List.length_append]; exact hz⟩⟩
    · exact q.elim
  · split at q
    · obtain ⟨a, vs, rfl, e1, l1⟩ := rep_tup hx
      obtain ⟨b, ws, rfl, f1, l2⟩ := rep_tup hy
      have hz : vs.length + ws.length ≤ sizeLine := by rw [szl, l1.length, l2.length]; exact q.1
      refine op_catA pins s σ H _ _ v u Q I rx ry ⟨_, _, _, _, rfl, rfl, sqT_mono sz e1, sqT_mono sz f1, hz, fun e => ?_, fun _ e => ?_, fun _ _ p hp => ?_⟩
      · subst e
        cases repL_nil l1
        exact q.2 _ _ (.inl ⟨rfl, .tup f1 l2⟩)
      · subst e
        cases repL_nil l2
        exact q.2 _ _ (.inl ⟨rfl, by rw [List.append_nil]; exact .tup e1 l1⟩)
      · exact q.2 _ _ (.inr ⟨p, _, _, hp, rfl, rfl, rfl, l1.append l2, by rw [List.length_append]; exact hz⟩)
    · exact q.elim
  · split at q
    · cases rep_str hx; cases rep_str hy
      exact op_add_str pins s σ H _ _ v u Q I rx ry ⟨_, _, rfl, rfl, by rw [szl]; exact q.1, q.2 _ _ (.inl ⟨rfl, .str _⟩)⟩
    · exact q.elim
  · exact q.elim
theorem op_sub' : OpR X (binaryOp .Sub) (rOp X.K J .sub) := by
  rintro pins s σ H x y v u Q I rx ry ⟨Z, d, e, sz, hx, hy, q⟩
  unfold opW at q
  dsimp only at q
  split at q
  · split at q
    · cases rep_int hx; cases rep_int hy
      exact op_sub pins s σ H _ _ v u Q I rx ry ⟨_, _, rfl, rfl, q _ _ (.inl ⟨rfl, .int _⟩)⟩
    · exact q.elim
  · exact q.elim
theorem op_mul' : OpR X (binaryOp .Mult) (rOp X.K J .mul) := by
  rintro pins s σ H x y v u Q I rx ry ⟨Z, d, e, sz, hx, hy, q⟩
  unfold opW at q
  cases d with
  | int i =>
    cases e with
    | int j =>
      cases rep_int hx; cases rep_int hy
      obtain ⟨c, q⟩ := q
      rcases c with c | c | c
      · exact op_mul pins s σ H _ _ v u Q I rx ry ⟨_, _, rfl, rfl, .inl c, q _ _ (.inl ⟨rfl, .int _⟩)⟩
      · exact op_mul pins s σ H _ _ v u Q I rx ry ⟨_, _, rfl, rfl, .inr c, q _ _ (.inl ⟨rfl, .int _⟩)⟩
      · exact op_mulW pins s σ H _ _ v u Q I rx ry ⟨_, _, rfl, rfl, c, q _ _ (.inl ⟨rfl, .int _⟩)⟩
    | _ => exact q.elim
  | list x =>
    cases e with
    | int j =>
      cases rep_int hy
      obtain ⟨a, vs, rfl, e1, e2, l1⟩ := hx
      obtain ⟨q1, q2, q3, q⟩ := q
      have hz : vs.length * j.toNat ≤ sizeLine := by rw [szl, l1.length]; exact q3
      refine op_rep pins s σ H _ _ v u Q I rx ry ⟨_, _, _, rfl, rfl, e1, q1, q2, hz, fun p hp => q _ _ ⟨p, _, hp, rfl, rfl, l1.rep _, ?_⟩⟩
      rw [List.length_flatten, List.map_replicate, List.sum_replicate_nat, Nat.mul_comm]
      exact hz
    | _ => exact q.elim
  | tuple x =>
    cases e with
    | int j =>
      cases rep_int hy
      obtain ⟨a, vs, rfl, e1, l1⟩ := rep_tup hx
      obtain ⟨q1, q2, q3, q4, q⟩ := q
      have ne : vs ≠ [] := fun e => by subst e; exact q1 (repL_nil l1)
      by_cases c2 : 2 ≤ j
      · refine op_repT pins s σ H _ _ v u Q I rx ry ⟨_, _, _, rfl, rfl, sqT_mono sz e1, ne, c2, q3, by rw [l1.length]; exact q4, fun p hp => q _ _ (.inr ⟨p, _, _, hp, rfl, rfl, rfl, l1.rep _, ?_⟩)⟩
        rw [List.length_flatten, List.map_replicate, List.sum_replicate_nat, l1.length, szl]
        have h1 : j.toNat ≤ 1000 := by omega
        exact Nat.le_trans (Nat.mul_le_mul h1 q4) (by decide)
      · by_cases c1 : j = 1
        · subst c1
          have e : (List.replicate (1 : Int).toNat x).flatten = x := by
            show (List.replicate 1 x).flatten = x
            simp
          rw [e] at q
          exact op_repB pins s σ H _ _ v u Q I rx ry ⟨_, _, rfl, rfl, sqT_mono sz e1, q _ _ (.inl ⟨rfl, .tup e1 l1⟩)⟩
        · have e : (List.replicate j.toNat x).flatten = [] := by
            rw [show j.toNat = 0 by omega]
            rfl
          rw [e] at q
          exact op_repC pins s σ H _ _ v u Q I rx ry ⟨_, _, _, rfl, rfl, sqT_mono sz e1, ne, q2, by omega, fun p hp => q _ _ (.inr ⟨p, _, _, hp, rfl, rfl, rfl, .nil, Nat.zero_le _⟩)⟩
    | _ => exact q.elim
  | _ => exact q.elim
theorem op_fdiv' : OpR X (binaryOp .FloorDiv) (rOp X.K J .fdiv) := by
  rintro pins s σ H x y v u Q I rx ry ⟨Z, d, e, sz, hx, hy, q⟩
  unfold opW at q
  cases d with
  | int i =>
    cases e with
    | int j =>
      cases rep_int hx; cases rep_int hy
      obtain ⟨c, q⟩ := q
      rcases c with c | c
      · refine op_fdivW pins s σ H _ _ v u Q I rx ry ⟨_, _, rfl, rfl, c, ?_⟩
        have e1 := Int.fdiv_eq_ediv_of_nonneg i (Int.le_of_lt c.1)
        have q' := q _ _ (.inl ⟨rfl, .int _⟩)
        rw [e1] at q'
        exact q'
      · exact op_fdivN pins s σ H _ _ v u Q I rx ry ⟨_, _, rfl, rfl, c, q _ _ (.inl ⟨rfl, .int _⟩)⟩
    | _ => exact q.elim
  | _ => exact q.elim
theorem op_mod' : OpR X (binaryOp .Mod) (rOp X.K J .mod) := by
  rintro pins s σ H x y v u Q I rx ry ⟨Z, d, e, sz, hx, hy, q⟩
  unfold opW at q
  dsimp only at q
  split at q
  · split at q
    · cases rep_int hx; cases rep_int hy
      exact op_modN pins s σ H _ _ v u Q I rx ry ⟨_, _, rfl, rfl, q.1, q.2 _ _ (.inl ⟨rfl, .int _⟩)⟩
    · exact q.elim
  · exact q.elim
theorem op_pow' : OpR X (binaryOp .Pow) (rOp X.K J .pow) := by
  rintro pins s σ H x y v u Q I rx ry ⟨Z, d, e, sz, hx, hy, q⟩
  unfold opW at q
  dsimp only at q
  split at q
  · split at q
    · cases rep_int hx; cases rep_int hy
      exact op_pow pins s σ H _ _ v u Q I rx ry ⟨_, _, rfl, rfl, q.1, q.2 _ _ (.inl ⟨rfl, .int _⟩)⟩
    · exact q.elim
  · exact q.elim
theorem op_all {o : BO} {op : Operator} (h : boMatch o op = true) : OpR X (binaryOp op) (rOp X.K J o) := by
  cases o <;> cases op <;> first | (exact absurd (show false = true from h) Bool.false_ne_true) | skip
  · exact op_add'
  · exact op_sub'
  · exact op_mul'
  · exact op_fdiv'
  · exact op_mod'
  · exact op_pow'

/-! ### comparisons -/
def rCmp (K : PySem.W.Frag) (J : Jar) (o : CO) : R2 := fun x y H Q => ∃ Z d e, Same Z H ∧ RepS K J H Z x d ∧ RepS K J H Z y e ∧ cmpW o d e fun z => Q (.bl z) H
theorem shaped_no {d : D} (h : shaped d) : d.hasDict = false := PyData.hasDict_of_canLay d (SeqAt.canLay_of_shaped h)
theorem shaped_int (i : Int) : shaped (.int i) := by show SeqAt.shaped _ = true; simp [SeqAt.shaped, PyData.canLay0, PyData.depth]
theorem v_int {i j : Int} : decide (V.int i = V.int j) = decide (i = j) := by simp
theorem v_str {i j : Str} : decide (V.str i = V.str j) = decide (i = j) := by simp
theorem eq_sound (hu : X.A.units + 64 < cLine) {Z : Hp} {d e : D} {pins : List (Addr × Obj)} {s : Shared} {σ : L2.St} {H : Hp} {x y : V} {v u : Value} {Q : VK} (I : Inv X pins σ H s) (rx : RelV x v) (ry : RelV y u) (sz : Same Z H)
    (hx : RepS X.K J H Z x d) (hy : RepS X.K J H Z y e) (q : eqW d e fun z => Q (.bl z) H) : wpAny (model X.prog X.w) X.A (compareOp .Eq v u) (EP X pins σ Q) X.xe s := by
  have gen : shaped d ∧ shaped e ∧ Q (.bl (PyData.eqv d e)) H → wpAny (model X.prog X.w) X.A (compareOp .Eq v u) (EP X pins σ Q) X.xe s := fun ⟨q0, q1, q2⟩ =>
    op_eqD hu pins s σ H _ _ v u Q I rx ry ⟨_, _, hx.dp sz (shaped_no q0), hy.dp sz (shaped_no q1), q0, q1, q2⟩
  unfold eqW at q
  cases d with
  | int i =>
    cases e with
    | int j =>
      cases rep_int hx; cases rep_int hy
      exact op_eq pins s σ H (.int i) (.int j) v u Q I rx ry ⟨rfl, by rw [v_int]; exact q⟩
    | _ => exact gen ⟨shaped_int _, q.1, q.2⟩
  | str i =>
    cases e with
    | str j =>
      cases rep_str hx; cases rep_str hy
      exact op_eq pins s σ H (.str i) (.str j) v u Q I rx ry ⟨rfl, by rw [v_str]; exact q⟩
    | _ => exact gen q
  | _ => exact gen q
theorem ne_sound (hu : X.A.units + 64 < cLine) {Z : Hp} {d e : D} {pins : List (Addr × Obj)} {s : Shared} {σ : L2.St} {H : Hp} {x y : V} {v u : Value} {Q : VK} (I : Inv X pins σ H s) (rx : RelV x v) (ry : RelV y u) (sz : Same Z H)
    (hx : RepS X.K J H Z x d) (hy : RepS X.K J H Z y e) (q : eqW d e fun z => Q (.bl (!z)) H) : wpAny (model X.prog X.w) X.A (compareOp .NotEq v u) (EP X pins σ Q) X.xe s := by
  have gen : shaped d ∧ shaped e ∧ Q (.bl (!PyData.eqv d e)) H → wpAny (model X.prog X.w) X.A (compareOp .NotEq v u) (EP X pins σ Q) X.xe s := fun ⟨q0, q1, q2⟩ =>
    op_neD hu pins s σ H _ _ v u Q I rx ry ⟨_, _, hx.dp sz (shaped_no q0), hy.dp sz (shaped_no q1), q0, q1, q2⟩
  unfold eqW at q
  cases d with
  | int i =>
    cases e with
    | int j =>
      cases rep_int hx; cases rep_int hy
      exact op_ne pins s σ H (.int i) (.int j) v u Q I rx ry ⟨rfl, by rw [v_int]; exact q⟩
    | _ => exact gen ⟨shaped_int _, q.1, q.2⟩
  | str i =>
    cases e with
    | str j =>
      cases rep_str hx; cases rep_str hy
      exact op_ne pins s σ H (.str i) (.str j) v u Q I rx ry ⟨rfl, by rw [v_str]; exact q⟩
    | _ => exact gen q
  | _ => exact gen q
theorem flat_rep {K : PySem.W.Frag} {Z : Hp} {v : V} {d : D} (h : Rep K J Z v d) (f : flatD d = true) : flatV v = true := by
  cases h <;> first | rfl | exact absurd (show false = true from f) Bool.false_ne_true
theorem flat_eqv {K : PySem.W.Frag} {Z : Hp} {v w : V} {d e : D} (h : Rep K J Z v d) (f : flatD d = true) (h' : Rep K J Z w e) (f' : flatD e = true) : eqV w v = PyData.eqv e d := by
  cases h <;> first | (exact absurd (show false = true from f) Bool.false_ne_true) | skip
  all_goals (cases h' <;> first | (exact absurd (show false = true from f') Bool.false_ne_true) | skip)
  all_goals (unfold eqV PyData.eqv; first | rfl | (simp [Bool.beq_eq_decide_eq]) | skip)
theorem flat_all {K : PySem.W.Frag} {Z : Hp} : ∀ {vs : List V} {ds : List D}, RepL K J Z vs ds → ds.all flatD = true → vs.all flatV = true
  | _, _, .nil, _ => rfl
  | _, _, .cons h l, f => by
    rw [List.all_cons, Bool.and_eq_true] at f ⊢
    exact ⟨flat_rep h f.1, flat_all l f.2⟩
theorem in_flat {K : PySem.W.Frag} {Z : Hp} {v : V} {d : D} (h : Rep K J Z v d) (f : flatD d = true) : ∀ {vs : List V} {ds : List D}, RepL K J Z vs ds → ds.all flatD = true → inV v vs = inD d ds
  | _, _, .nil, _ => rfl
  | _, _, .cons h' l, f' => by
    rw [List.all_cons, Bool.and_eq_true] at f'
    have := in_flat h f l f'.2
    unfold inV inD at this ⊢
    rw [List.any_cons, List.any_cons, this, flat_eqv h f h' f'.1]
theorem repS_flat {K : PySem.W.Frag} {H Z : Hp} {v : V} {d : D} (h : RepS K J H Z v d) (f : flatD d = true) : Rep K J Z v d := by
  cases d <;> first | exact h | exact absurd (show false = true from f) Bool.false_ne_true
theorem in_sound (hu : X.A.units + 65 < cLine) {Z : Hp} {d e : D} {pins : List (Addr × Obj)} {s : Shared} {σ : L2.St} {H : Hp} {x y : V} {v u : Value} {Q : VK} (I : Inv X pins σ H s) (rx : RelV x v) (ry : RelV y u) (sz : Same Z H)
    (hx : RepS X.K J H Z x d) (hy : RepS X.K J H Z y e) (q : inW d e fun z => Q (.bl z) H) : wpAny (model X.prog X.w) X.A (compareOp .In v u) (EP X pins σ Q) X.xe s := by
  unfold inW at q
  split at q
  · obtain ⟨q0, q1, q2⟩ := q
    exact op_inD hu pins s σ H _ _ v u Q I rx ry ⟨_, _, hx.dp sz (shaped_no q0), hy.dp sz (shaped_no q1), q0, q1, q2⟩
  · obtain ⟨q0, q1, q2⟩ := q
    obtain ⟨a, vs, rfl, e1, l1⟩ := rep_tup hy
    have hx' := repS_flat hx q0
    refine op_in_seq pins s σ H _ _ v u Q I rx ry ⟨_, _, rfl, .inr (sqT_mono sz e1), flat_rep hx' q0, flat_all l1 q1, ?_⟩
    rw [if_neg Bool.false_ne_true, in_flat hx' q0 l1 q1]
    exact q2
  · exact q.elim
theorem notin_sound (hu : X.A.units + 65 < cLine) {Z : Hp} {d e : D} {pins : List (Addr × Obj)} {s : Shared} {σ : L2.St} {H : Hp} {x y : V} {v u : Value} {Q : VK} (I : Inv X pins σ H s) (rx : RelV x v) (ry : RelV y u) (sz : Same Z H)
    (hx : RepS X.K J H Z x d) (hy : RepS X.K J H Z y e) (q : inW d e fun z => Q (.bl (!z)) H) : wpAny (model X.prog X.w) X.A (compareOp .NotIn v u) (EP X pins σ Q) X.xe s := by
  unfold inW at q
  split at q
  · obtain ⟨q0, q1, q2⟩ := q
    exact op_notInD hu pins s σ H _ _ v u Q I rx ry ⟨_, _, hx.dp sz (shaped_no q0), hy.dp sz (shaped_no q1), q0, q1, q2⟩
  · obtain ⟨q0, q1, q2⟩ := q
    obtain ⟨a, vs, rfl, e1, l1⟩ := rep_tup hy
    have hx' := repS_flat hx q0
    refine op_notIn_seq pins s σ H _ _ v u Q I rx ry ⟨_, _, rfl, .inr (sqT_mono sz e1), flat_rep hx' q0, flat_all l1 q1, ?_⟩
    rw [if_pos rfl, in_flat hx' q0 l1 q1]
    exact q2
  · exact q.elim
theorem lt_sound (hu : X.A.units < cLine) {Z : Hp} {d e : D} {pins : List (Addr × Obj)} {s : Shared} {σ : L2.St} {H : Hp} {x y : V} {v u : Value} {Q : VK} (I : Inv X pins σ H s) (rx : RelV x v) (ry : RelV y u) (sz : Same Z H)
    (hx : RepS X.K J H Z x d) (hy : RepS X.K J H Z y e) (q : ordW (fun i j => decide (i < j)) HT.lexLt d e fun z => Q (.bl z) H) : wpAny (model X.prog X.w) X.A (compareOp .Lt v u) (EP X pins σ Q) X.xe s := by
  unfold ordW at q
  split at q
  · split at q
    · cases rep_int hx; cases rep_int hy
      exact op_lt pins s σ H _ _ v u Q I rx ry ⟨_, _, rfl, rfl, q⟩
    · exact q.elim
  · split at q
    · split at q
      · rename_i e1
        split at q
        · rename_i e2
          obtain ⟨a, vs, rfl, f1, l1⟩ := rep_tup hx
          obtain ⟨b, ws, rfl, f2, l2⟩ := rep_tup hy
          obtain ⟨rfl, _⟩ := l1.ints e1
          obtain ⟨rfl, _⟩ := l2.ints e2
          exact op_ltT hu pins s σ H _ _ v u Q I rx ry ⟨_, _, _, _, rfl, rfl, sqT_mono sz f1, sqT_mono sz f2, q⟩
        · exact q.elim
      · exact q.elim
    · exact q.elim
  · exact q.elim
theorem cmp_all (hu : X.A.units + 65 < cLine) {o : CO} {op : CmpOp} (h : coMatch o op = true) : OpR X (compareOp op) (rCmp X.K J o) := by
  rintro pins s σ H x y v u Q I rx ry ⟨Z, d, e, sz, hx, hy, q⟩
  unfold cmpW at q
  cases o <;> cases op <;> first | (exact absurd (show false = true from h) Bool.false_ne_true) | skip
  · exact eq_sound (by omega) I rx ry sz hx hy q
  · exact ne_sound (by omega) I rx ry sz hx hy q
  · exact lt_sound (by omega) I rx ry sz hx hy q
  all_goals dsimp only at q
  · split at q
    · split at q
      · cases rep_int hx; cases rep_int hy
        exact op_le pins s σ H _ _ v u Q I rx ry ⟨_, _, rfl, rfl, q⟩
      · exact q.elim
    · exact q.elim
  · split at q
    · split at q
      · cases rep_int hx; cases rep_int hy
        exact op_gt pins s σ H _ _ v u Q I rx ry ⟨_, _, rfl, rfl, q⟩
      · exact q.elim
    · exact q.elim
  · split at q
    · split at q
      · cases rep_int hx; cases rep_int hy
        exact op_ge pins s σ H _ _ v u Q I rx ry ⟨_, _, rfl, rfl, q⟩
      · exact q.elim
    · exact q.elim
  · exact in_sound hu I rx ry sz hx hy q
  · exact notin_sound hu I rx ry sz hx hy q
/-! ### truth -/
theorem len_eq {α β : Type} {xs : List α} {ys : List β} (h : xs.length = ys.length) : xs.isEmpty = ys.isEmpty := by
  cases xs <;> cases ys <;> first | rfl | cases h
theorem tru_sound : TruR X (fun x H Q => ∃ Z d, Same Z H ∧ RepS X.K J H Z x d ∧ truW d fun b => Q b H) := by
  rintro pins s σ H x v Q I rx ⟨Z, d, sz, hx, q⟩
  unfold truW at q
  split at q
  · cases rep_none hx; exact tru_ok pins s σ H _ v Q I rx ⟨_, rfl, q⟩
  · cases rep_bool hx; exact tru_ok pins s σ H _ v Q I rx ⟨_, rfl, q⟩
  · cases rep_int hx; exact tru_ok pins s σ H _ v Q I rx ⟨_, rfl, q⟩
  · obtain ⟨a, vs, rfl, e1, e2, l1⟩ := hx
    exact tru_ok pins s σ H _ v Q I rx ⟨_, .inl ⟨_, .of e1, rfl⟩, by rw [len_eq l1.length]; exact q⟩
  · obtain ⟨a, vs, rfl, e1, l1⟩ := rep_tup hx
    exact tru_ok pins s σ H _ v Q I rx ⟨_, .inr (.inl ⟨_, sqT_mono sz e1, rfl⟩), by rw [len_eq l1.length]; exact q⟩
  · exact q.elim
/-! ### a[i], a[i:j] -/
def rIxD (K : PySem.W.Frag) (J : Jar) : R2 := fun x y H Q => ∃ Z d e, Same Z H ∧ RepS K J H Z x d ∧ RepS K J H Z y e ∧ ixW d e fun z => ∀ v, Rep K J Z v z → Q v H
theorem at_rep {K : PySem.W.Frag} {Z : Hp} {vs : List V} {ds : List D} {i : Int} {d : D} (l : RepL K J Z vs ds) (h : atD ds i = some d) : ∃ v, atI vs i = some v ∧ Rep K J Z v d := by
  unfold atD atI at h
  unfold atI
  rw [l.length]
  cases e : ixN ds.length i with
  | none => rw [e] at h; cases h
  | some j =>
    rw [e] at h
    exact l.get h
theorem ix_sound : IxR X (rIxD X.K J) := by
  rintro va sl pins s σ H x y v u Q I rx ry ⟨Z, d, e, sz, hx, hy, q⟩ hsu
  unfold ixW at q
  split at q
  · cases rep_int hy
    split at q
    · split at q
      · rename_i e1
        obtain ⟨a, vs, rfl, f1, f2, l1⟩ := hx
        obtain ⟨w, g1, g2⟩ := at_rep l1 e1
        exact ix_list va sl pins s σ H _ _ v u Q I rx ry ⟨_, _, _, _, rfl, rfl, .of f1, g1, q _ g2⟩ hsu
      · exact q.elim
    · split at q
      · rename_i e1
        obtain ⟨a, vs, rfl, f1, l1⟩ := rep_tup hx
        obtain ⟨w, g1, g2⟩ := at_rep l1 e1
        exact ix_tup va sl pins s σ H _ _ v u Q I rx ry ⟨_, _, _, _, rfl, rfl, sqT_mono sz f1, g1, q _ g2⟩ hsu
      · exact q.elim
    · exact q.elim
  · exact q.elim
def rCutD (K : PySem.W.Frag) (J : Jar) : V → Option Int → Option Int → Hp → VK → Prop := fun x lo hi H Q => ∃ Z d, Same Z H ∧ (∀ a xs, Z a = some (.lst xs) ∨ Z a = some (.tup xs) → xs.length ≤ sizeLine) ∧ RepS K J H Z x d ∧
  match d with
  | .list ds => ∀ v H', Res K J H Z (.new (cutD ds lo hi)) v H' → Q v H'
  | .tuple ds => ∀ v H', Res K J H Z (.val (.tuple (cutD ds lo hi))) v H' → Q v H'
  | _ => False
theorem cut_rep {K : PySem.W.Frag} {Z : Hp} {vs : List V} {ds : List D} (l : RepL K J Z vs ds) (lo hi : Option Int) : RepL K J Z (cutV vs lo hi) (cutD ds lo hi) := by
  unfold cutV cutD
  rw [l.length]
  exact (l.drop _).take _
theorem cut_whole {α : Type} {xs : List α} {lo hi : Option Int} (h : HT.sIx xs.length 0 lo = 0 ∧ HT.sIx xs.length xs.length hi = xs.length) : (xs.drop (HT.sIx xs.length 0 lo)).take (HT.sIx xs.length xs.length hi - HT.sIx xs.length 0 lo) = xs := by
  rw [h.1, h.2]
  simp
theorem cut_sound : SlR X (rCutD X.K J) := by
  rintro pins s σ H x v vl vu lo hi sl Q I rx hs pl pu ⟨Z, d, sz, zs, hx, q⟩
  cases d with
  | list ds =>
    obtain ⟨a, vs, rfl, f1, f2, l1⟩ := hx
    exact sl_list pins s σ H _ v vl vu lo hi sl Q I rx hs pl pu ⟨_, _, rfl, .of f1, fun p hp => q _ _ ⟨p, _, hp, rfl, rfl, cut_rep l1 lo hi, Nat.le_trans (cutV_length _ _ _) f2⟩⟩
  | tuple ds =>
    obtain ⟨a, vs, rfl, f1, l1⟩ := rep_tup hx
    obtain ⟨its, _, _, f2⟩ := I.tuple (sqT_mono sz f1)
    refine sl_tupA pins s σ H _ v vl vu lo hi sl Q I rx hs pl pu ⟨_, _, rfl, sqT_mono sz f1, fun w => ?_, fun _ p hp => ?_⟩
    · refine q _ _ (.inl ⟨rfl, ?_⟩)
      have w' := w
      rw [l1.length] at w'
      have e : cutD ds lo hi = ds := cut_whole w'
      rw [e]
      exact .tup f1 l1
    · exact q _ _ (.inr ⟨p, _, _, hp, rfl, rfl, rfl, cut_rep l1 lo hi, Nat.le_trans (cutV_length _ _ _) f2⟩)
  | _ => exact q.elim
end
end G

set_option linter.all false
set_option maxRecDepth 100000
set_option Elab.async false
/-! Sd: builtins by values. -/
namespace G
open PySem PySem.Spec PyProof.Rows L2

inductive RepSL (K : PySem.W.Frag) (J : Jar) (H Z : Hp) : List V → List D → Prop
  | nil : RepSL K J H Z [] []
  | cons {v : V} {vs : List V} {d : D} {ds : List D} : RepS K J H Z v d → RepSL K J H Z vs ds → RepSL K J H Z (v :: vs) (d :: ds)
def biVal : BI → Value
  | .list => .type "list" | .tuple => .type "tuple" | .int => .type "int" | .bool => .type "bool" | .str => .type "str"
  | .len => .builtin "len" | .abs => .builtin "abs" | .min2 => .builtin "min" | .max2 => .builtin "max" | .min1 => .builtin "min" | .max1 => .builtin "max" | .sum => .builtin "sum" | .sorted => .builtin "sorted"
  | .repr => .builtin "repr" | .all => .builtin "all" | .any => .builtin "any" | .divmod => .builtin "divmod" | .gcd => .builtin "math.gcd" | _ => .builtin "isinstance"
def rBi (K : PySem.W.Frag) (J : Jar) (k : BI) : List V → Hp → VK → Prop := fun xs H Q => ∃ Z ds, Same Z H ∧ RepSL K J H Z xs ds ∧ biW k ds fun z => ∀ v H', Res K J H Z z v H' → Q v H'
theorem repSL1 {K : PySem.W.Frag} {J : Jar} {H Z : Hp} {xs : List V} {d : D} (h : RepSL K J H Z xs [d]) : ∃ v, xs = [v] ∧ RepS K J H Z v d := by
  cases h with | cons h t => cases t; exact ⟨_, rfl, h⟩
theorem repSL2 {K : PySem.W.Frag} {J : Jar} {H Z : Hp} {xs : List V} {d e : D} (h : RepSL K J H Z xs [d, e]) : ∃ v w, xs = [v, w] ∧ RepS K J H Z v d ∧ RepS K J H Z w e := by
  cases h with | cons h t => cases t with | cons h' t => cases t; exact ⟨_, _, rfl, h, h'⟩
section
variable {X : Cx} {J : Jar}
/-- repr of data -/
theorem call_reprD (gd : X.A.guards = some []) (hu : X.A.units + 100 < cLine) : CallR X (.builtin "repr") (fun xs H Q => ∃ x d, xs = [x] ∧ Dp X.K H x d ∧ d.showable = true ∧ d.depth ≤ 64 ∧ d.hasDict = false ∧ d.shown.length ≤ sizeLine ∧ Q (.str d.shown) H) := by
  intro pins s σ H xs us Q I r h
  obtain ⟨x, d, rfl, hd, h1, h2, h3, h4, q⟩ := h
  obtain ⟨u, rfl, rx⟩ := vals1 r
  cases hd with
  | non => cases rx; exact PySem.P.repr_of_none ⟨.str _, H, I.tok _, ⟨_, rfl⟩, by simpa only [PyData.shown] using q⟩
  | bl b => cases rx; exact PySem.P.repr_of_bool ⟨.str _, H, I.tok _, ⟨_, rfl⟩, by simpa only [PyData.shown] using q⟩
  | int i => obtain ⟨t, rfl⟩ := rx; exact PySem.P.repr_of_int (by simpa [PyData.showable] using h1) ⟨.str _, H, I.tok _, ⟨_, rfl⟩, by simpa only [PyData.shown] using q⟩
  | str y => obtain ⟨t, rfl⟩ := rx; exact PySem.P.repr_of_str ⟨.str _, H, I.tok _, ⟨_, rfl⟩, by simpa only [PyData.shown] using q⟩ (by simpa only [PyData.shown] using h4)
  | lst hl l =>
    cases rx
    obtain ⟨as, rr⟩ := Dp.reads I _ _ _ (.lst hl l) rfl
    exact repr_of_reads' rr h1 (PyData.noDict_hsm h3) gd (by omega) (fun b o e => e) (fun h' u tk hk => ⟨.str _, H, I.kept (t' := tk) hk, ⟨_, rfl⟩, q⟩) h4
  | tup hl l =>
    cases rx
    obtain ⟨as, rr⟩ := Dp.reads I _ _ _ (.tup hl l) rfl
    exact repr_of_reads' rr h1 (PyData.noDict_hsm h3) gd (by omega) (fun b o e => e) (fun h' u tk hk => ⟨.str _, H, I.kept (t' := tk) hk, ⟨_, rfl⟩, q⟩) h4
/-- repr of {} -/
theorem call_repr0 (gd : X.A.guards = some []) (hu : X.A.units + 100 < cLine) : CallR X (.builtin "repr") (fun xs H Q => ∃ a, xs = [.ref a] ∧ H a = some (.dK []) ∧ Q (.str (PyData.dict []).shown) H) := by
  intro pins s σ H xs us Q I r h
  obtain ⟨a, rfl, ha, q⟩ := h
  obtain ⟨u, rfl, rx⟩ := vals1 r
  cases rx
  obtain ⟨_, na, vs, rk, o, es, n, e1, e2, e3⟩ := (show ObjOk X.prog X.w H s.heap a (.dK []) from I.hok a _ ha)
  cases rk
  have e4 : es = #[] := by
    have := e3.2.2.1.length
    rw [List.length_nil, Array.length_toList] at this
    exact Array.eq_empty_of_size_eq_zero this
  subst e4
  have hdp : (PyData.dict []).depth + 1 ≤ 65 := by decide
  have rr : Reads s.heap (.ref a) (.dict []) (a :: [] ++ []) := .dict e1 e2.1 e3.1 .nil .nil
  refine repr_of_reads' rr rfl (fun _ h => ?_) gd (Nat.lt_of_le_of_lt (Nat.add_le_add_left hdp _) (by omega)) (fun b o e => e) (fun h' u tk hk => ⟨.str _, H, I.kept (t' := tk) hk, ⟨_, rfl⟩, q⟩) (by rw [szl]; decide)
  rw [List.append_nil, List.mem_singleton] at h
  rw [← h] at na
  simp at na
theorem bits_le {i : Int} {n : Nat} (h : i.natAbs < 2 ^ n) : Builtin.Int.intBits i ≤ n := by
  unfold Builtin.Int.intBits
  split
  · exact Nat.zero_le _
  · rename_i z
    have z' : i.natAbs ≠ 0 := fun e => z (by simp [Int.natAbs_eq_zero.mp e])
    exact (Nat.log2_lt z').mpr h
theorem repS_list {K : PySem.W.Frag} {H Z : Hp} {v : V} {ds : List D} (h : RepS K J H Z v (.list ds)) : ∃ a vs, v = .ref a ∧ H a = some (.lst vs) ∧ vs.length ≤ sizeLine ∧ RepL K J Z vs ds := h
theorem bi_sound (hc : X.calm = true) (gd : X.A.guards = some []) (hu : X.A.units + 100 < cLine) {k : BI} (nk : isIsi k = false) : CallR X (biVal k) (rBi X.K J k) := by
  rintro pins s σ H xs us Q I r ⟨Z, ds, sz, hx, q⟩
  unfold biW at q
  cases k with
  | len =>
    dsimp only at q
    split at q
    · obtain ⟨v, rfl, h⟩ := repSL1 hx
      obtain ⟨a, vs, rfl, e1, _, l⟩ := repS_list h
      exact call_len_seq pins s σ H _ us Q I r ⟨_, _, rfl, .inl (.of e1), by rw [l.length]; exact q _ _ (.inl ⟨rfl, .int _⟩)⟩
    · obtain ⟨v, rfl, h⟩ := repSL1 hx
      obtain ⟨a, vs, rfl, e1, l⟩ := rep_tup h
      exact call_len_seq pins s σ H _ us Q I r ⟨_, _, rfl, .inr (sqT_mono sz e1), by rw [l.length]; exact q _ _ (.inl ⟨rfl, .int _⟩)⟩
    · obtain ⟨v, rfl, h⟩ := repSL1 hx
      cases rep_str h
      exact call_len_str pins s σ H _ us Q I r ⟨_, rfl, by rw [szl]; exact q.1, q.2 _ _ (.inl ⟨rfl, .int _⟩)⟩
    · exact q.elim
  | abs =>
    dsimp only at q
    split at q
    · obtain ⟨v, rfl, h⟩ := repSL1 hx
      cases rep_int h
      exact call_abs pins s σ H _ us Q I r ⟨_, rfl, q _ _ (.inl ⟨rfl, .int _⟩)⟩
    · exact q.elim
  | min2 =>
    dsimp only at q
    split at q
    · obtain ⟨v, w, rfl, h, h'⟩ := repSL2 hx
      cases rep_int h; cases rep_int h'
      exact call_min2 hc pins s σ H _ us Q I r ⟨_, _, rfl, q _ _ (.inl ⟨rfl, .int _⟩)⟩
    · exact q.elim
  | max2 =>
    dsimp only at q
    split at q
    · obtain ⟨v, w, rfl, h, h'⟩ := repSL2 hx
      cases rep_int h; cases rep_int h'
      exact call_max2 hc pins s σ H _ us Q I r ⟨_, _, rfl, q _ _ (.inl ⟨rfl, .int _⟩)⟩
    · exact q.elim
  | min1 =>
    dsimp only at q
    split at q
    · split at q
      · rename_i e
        obtain ⟨v, rfl, h⟩ := repSL1 hx
        obtain ⟨a, vs, rfl, e1, _, l⟩ := repS_list h
        obtain ⟨rfl, _⟩ := l.ints e
        exact cr_min hc pins s σ H _ us Q I r ⟨_, _, rfl, .of e1, q.1, fun m h1 h2 => q.2 m h1 h2 _ _ (.inl ⟨rfl, .int _⟩)⟩
      · exact q.elim
    · exact q.elim
  | max1 =>
    dsimp only at q
    split at q
    · split at q
      · rename_i e
        obtain ⟨v, rfl, h⟩ := repSL1 hx
        obtain ⟨a, vs, rfl, e1, _, l⟩ := repS_list h
        obtain ⟨rfl, _⟩ := l.ints e
        exact cr_max hc pins s σ H _ us Q I r ⟨_, _, rfl, .of e1, q.1, fun m h1 h2 => q.2 m h1 h2 _ _ (.inl ⟨rfl, .int _⟩)⟩
      · exact q.elim
    · exact q.elim
  | sum =>
    dsimp only at q
    split at q
    · split at q
      · rename_i e
        obtain ⟨v, rfl, h⟩ := repSL1 hx
        obtain ⟨a, vs, rfl, e1, _, l⟩ := repS_list h
        obtain ⟨rfl, _⟩ := l.ints e
        exact cr_sum hc pins s σ H _ us Q I r ⟨_, _, rfl, .of e1, q _ _ (.inl ⟨rfl, .int _⟩)⟩
      · exact q.elim
    · exact q.elim
  | all =>
    dsimp only at q
    split at q
    · split at q
      · rename_i e
        obtain ⟨v, rfl, h⟩ := repSL1 hx
        obtain ⟨a, vs, rfl, e1, _, l⟩ := repS_list h
        cases l.bools e
        exact cr_all hc pins s σ H _ us Q I r ⟨_, _, rfl, .of e1, q _ _ (.inl ⟨rfl, .bl _⟩)⟩
      · exact q.elim
    · exact q.elim
  | any =>
    dsimp only at q
    split at q
    · split at q
      · rename_i e
        obtain ⟨v, rfl, h⟩ := repSL1 hx
        obtain ⟨a, vs, rfl, e1, _, l⟩ := repS_list h
        cases l.bools e
        exact cr_any hc pins s σ H _ us Q I r ⟨_, _, rfl, .of e1, q _ _ (.inl ⟨rfl, .bl _⟩)⟩
      · exact q.elim
    · exact q.elim
  | sorted =>
    dsimp only at q
    split at q
    · split at q
      · rename_i e
        obtain ⟨v, rfl, h⟩ := repSL1 hx
        obtain ⟨a, vs, rfl, e1, e2, l⟩ := repS_list h
        obtain ⟨rfl, _⟩ := l.ints e
        refine cr_sortedI pins s σ H _ us Q I r ⟨_, _, rfl, .of e1, fun ns' p h1 h2 hp => q ns' h1 h2 _ _ ⟨p, _, hp, rfl, rfl, .ofInts ns', ?_⟩⟩
        rw [List.length_map, h1.length_eq]
        rw [List.length_map] at e2
        exact e2
      · exact q.elim
    · exact q.elim
  | list =>
    dsimp only at q
    split at q
    · obtain ⟨v, rfl, h⟩ := repSL1 hx
      obtain ⟨a, vs, rfl, e1, e2, l⟩ := repS_list h
      exact call_list_of pins s σ H _ us Q I r ⟨_, _, rfl, .inl (.of e1), fun p hp => q _ _ ⟨p, _, hp, rfl, rfl, l, e2⟩⟩
    · obtain ⟨v, rfl, h⟩ := repSL1 hx
      obtain ⟨a, vs, rfl, e1, l⟩ := rep_tup h
      obtain ⟨_, _, _, e2⟩ := I.tuple (sqT_mono sz e1)
      exact call_list_of pins s σ H _ us Q I r ⟨_, _, rfl, .inr (sqT_mono sz e1), fun p hp => q _ _ ⟨p, _, hp, rfl, rfl, l, e2⟩⟩
    · exact q.elim
  | tuple =>
    dsimp only at q
    split at q
    · obtain ⟨v, rfl, h⟩ := repSL1 hx
      obtain ⟨a, vs, rfl, e1, e2, l⟩ := repS_list h
      exact call_tuple_of pins s σ H _ us Q I r ⟨_, _, rfl, .inl ⟨.of e1, fun p hp => q _ _ (.inr ⟨p, _, _, hp, rfl, rfl, rfl, l, e2⟩)⟩⟩
    · obtain ⟨v, rfl, h⟩ := repSL1 hx
      obtain ⟨a, vs, rfl, e1, l⟩ := rep_tup h
      exact call_tuple_of pins s σ H _ us Q I r ⟨_, _, rfl, .inr ⟨sqT_mono sz e1, q _ _ (.inl ⟨rfl, .tup e1 l⟩)⟩⟩
    · exact q.elim
  | int =>
    dsimp only at q
    split at q
    · obtain ⟨v, rfl, h⟩ := repSL1 hx
      cases rep_int h
      exact call_int1 pins s σ H _ us Q I r (.inl ⟨_, rfl, q _ _ (.inl ⟨rfl, .int _⟩)⟩)
    · obtain ⟨v, rfl, h⟩ := repSL1 hx
      cases rep_bool h
      exact call_int1 pins s σ H _ us Q I r (.inr ⟨_, rfl, q _ _ (.inl ⟨rfl, .int _⟩)⟩)
    · exact q.elim
  | bool =>
    dsimp only at q
    split at q
    · obtain ⟨v, rfl, h⟩ := repSL1 hx
      cases rep_int h
      exact call_bool1 pins s σ H _ us Q I r (.inl ⟨_, rfl, q _ _ (.inl ⟨rfl, .bl _⟩)⟩)
    · obtain ⟨v, rfl, h⟩ := repSL1 hx
      cases rep_bool h
      exact call_bool1 pins s σ H _ us Q I r (.inr ⟨_, rfl, q _ _ (.inl ⟨rfl, .bl _⟩)⟩)
    · exact q.elim
  | repr =>
    dsimp only at q
    split at q
    · obtain ⟨v, rfl, h⟩ := repSL1 hx
      obtain ⟨q1, q2, q3, q4, q⟩ := q
      rcases q3 with q3 | rfl
      · exact call_reprD gd hu pins s σ H _ us Q I r ⟨_, _, rfl, h.dp sz q3, q1, q2, q3, by rw [szl]; exact q4, q _ _ (.inl ⟨rfl, .str _⟩)⟩
      · cases (show Rep X.K J Z v (.dict []) from h) with
        | dct h2 => exact call_repr0 gd hu pins s σ H _ us Q I r ⟨_, rfl, sz _ _ h2, q _ _ (.inl ⟨rfl, .str _⟩)⟩
    · exact q.elim
  | divmod =>
    dsimp only at q
    split at q
    · obtain ⟨v, w, rfl, h, h'⟩ := repSL2 hx
      cases rep_int h; cases rep_int h'
      obtain ⟨⟨q1, q2⟩, q⟩ := q
      have fin : ∀ p, H p = none → Q (.ref p) (upd H p (.tup [.int (_ / _), .int (_ % _)])) := fun p hp => q _ _ (.inr ⟨p, _, _, hp, rfl, rfl, rfl, .cons (.int _) (.cons (.int _) .nil), by rw [szl]; show 2 ≤ 16777216; omega⟩)
      rcases q2 with q2 | q2
      · exact call_divmod pins s σ H _ us Q I r ⟨_, _, rfl, ⟨q1, q2⟩, fin⟩
      · exact call_divmodW pins s σ H _ us Q I r ⟨_, _, rfl, divp_ok q1 (Nat.le_trans (bits_le q2) (Nat.le_add_left _ _)), fin⟩
    · exact q.elim
  | gcd =>
    dsimp only at q
    split at q
    · obtain ⟨v, w, rfl, h, h'⟩ := repSL2 hx
      cases rep_int h; cases rep_int h'
      exact cr_gcd pins s σ H _ us Q I r ⟨_, _, rfl, q _ _ (.inl ⟨rfl, .int _⟩)⟩
    · exact q.elim
  | str =>
    dsimp only at q
    split at q
    · obtain ⟨v, rfl, h⟩ := repSL1 hx
      cases rep_int h
      exact call_str_int pins s σ H _ us Q I r ⟨_, rfl, q.1, q.2 _ _ (.inl ⟨rfl, .str _⟩)⟩
    · exact q.elim
  | _ => exact absurd (show true = false from nk) (by decide)
end
end G

set_option linter.all false
set_option maxRecDepth 100000
set_option Elab.async false
/-! Se: what the model does at a piece of the text, by the core term that says the same. -/
namespace G
open PySem PySem.Spec PyProof.Rows L2

/-- how an error that is told by plain data stands: its class, its own dict's place -/
abbrev XRT := Exn → Hp → Hp → Value → Option Addr → Prop
/-- what a call may be handed -/
structure Inn (J : Jar) (g : Gh) (H Z : Hp) : Prop where
  sub : Same Z H
  jar : J.P g H
  jz : ∀ b, J.A b → Z b = none
  zs : ∀ a xs, Z a = some (.lst xs) ∨ Z a = some (.tup xs) → xs.length ≤ sizeLine
  zo : ∀ a o, Z a = some o → (∃ xs, o = .lst xs) ∨ (∃ xs, o = .tup xs) ∨ o = .dK []
/-- what a call leaves -/
structure Out (J : Jar) (H Z : Hp) (g : Gh) (H' Z' : Hp) : Prop where
  same : Same Z Z'
  inn : Inn J g H' Z'
  frame : ∀ b o, H b = some o → ¬ J.A b → H' b = some o
  ng : ∀ b, H b ≠ none → Z b = none → Z' b = none
def spOf (K : PySem.W.Frag) (J : Jar) (XR : XRT) (C : Calls) (f : Nat) : Sp := fun vs H Q E => ∃ Z ds g, Inn J g H Z ∧ RepL K J Z vs ds ∧
  C f ds g (fun d g' => ∀ v H' Z', Out J H Z g' H' Z' → Rep K J Z' v d → Q v H') fun e g' => ∀ cls dd H' Z', Out J H Z g' H' Z' → XR e H' Z' cls dd → E cls dd H'
/-- the def at a does what the calls' table says of f -/
structure FnG (P : Program) (w : World) (K : PySem.W.Frag) (mg : Str → Option Value) (base : Heap) (J : Jar) (XR : XRT) (C : Calls) (lv f : Nat) (a : Addr) (fd : FuncData) (ps : List Str) : Prop where
  run : ∀ (A : Around) (outer : List Env) (s : Shared) (H : Hp) (args : Args) (us : List Value) (vs : List V) (Q : VK) (E : XK), Room lv A → A.guards = some [] → Env0 P w K mg base A outer s H → BindsTo s fd args (ps.zip us) →
    Vals vs us → vs.length = ps.length → spOf K J XR C f vs H Q E → codeAny (model P w) A (.call (.ref a) args) (CR (L2.CX P w) outer P w H s Q E) s
structure Facts (cf : Cfg) (mg : Str → Option Value) : Prop where
  free : ∀ x, cf.free.contains x = true → mg x = none
  gcd : cf.gcd = true → mg "gcd" = some (.builtin "math.gcd")
  consts : ∀ p ∈ cf.consts, ∃ t, mg p.1 = some (.int p.2 t)
/-- a def of the text: where it stands, how its arguments come -/
structure FnAt (P : Program) (w : World) (K : PySem.W.Frag) (mg : Str → Option Value) (base : Heap) (J : Jar) (XR : XRT) (C : Calls) (lv f : Nat) (nm : Str) (ps : List Str) (dv : List Int) : Prop where
  ex : ∃ a fd, mg nm = some (.ref a) ∧ PySem.W.keepIn K (.ref a) = true ∧ Binds K fd ps [] ∧ FnG P w K mg base J XR C lv f a fd ps ∧ (dv = [] → Plain fd ps) ∧ (dv ≠ [] → ∃ ds, Vals (dv.map V.int) ds ∧ Binds K fd ps ds)
/-- how the law's random state is read and changed: a dict with texts for keys, or a list -/
def JGet (dk : Bool) (H : Hp) (a : Addr) (k : Sum Int Str) (v : V) : Prop :=
  if dk = true then ∃ kvs x, k = .inr x ∧ H a = some (.dK kvs) ∧ valV kvs k = some v else ∃ vs i, k = .inl i ∧ H a = some (.lst vs) ∧ atI vs i = some v
def JPut (dk : Bool) (H : Hp) (a : Addr) (k : Sum Int Str) (v : V) (o : HO) : Prop :=
  if dk = true then ∃ kvs x, k = .inr x ∧ H a = some (.dK kvs) ∧ kvs.length < sizeLine ∧ o = .dK (putK kvs k v) else ∃ vs i j, k = .inl i ∧ H a = some (.lst vs) ∧ ixN vs.length i = some j ∧ o = .lst (vs.set j v)
structure JFacts (J : Jar) (a : Addr) (dk : Bool) : Prop where
  at_ : J.at_ = some a
  ja : J.A a
  get : ∀ g H k d, J.P g H → gget g k = some d → ∃ v, JGet dk H a k v ∧ ((∃ n, d = .int n ∧ v = .int n) ∨ ∃ (ns : List Int) (l : Addr), d = .list (ns.map .int) ∧ v = .ref l ∧ J.L k = some l ∧ J.A l ∧ H l = some (.lst (ns.map V.int)) ∧ ns.length ≤ sizeLine)
  putL : ∀ g H k ds l (ns : List Int), J.P g H → gget g k = some (.list ds) → J.L k = some l → ns.length ≤ sizeLine → J.P (gput g k (.list (ns.map .int))) (upd H l (.lst (ns.map V.int)))
  putI : ∀ g H k m n, J.P g H → gget g k = some (.int m) → ∃ o, JPut dk H a k (.int n) o ∧ J.P (gput g k (.int n)) (upd H a o)
/-- the script, as it was handed over -/
structure SFacts (K : PySem.W.Frag) (J : Jar) (a : Addr) : Prop where
  at_ : J.at_ = some a
  get : ∀ g H ds, J.P g H → gget g (.inl 0) = some (.list ds) → ∃ ns : List Int, ds = ns.map .int ∧ SqL K H a (ns.map V.int) ∧ ns.length ≤ sizeLine
/-- all that is known where a body runs -/
structure Good (cf : Cfg) (J : Jar) (XR : XRT) (C : Calls) (lv : Nat) (X : Cx) (S : Sc) : Prop where
  calm : X.calm = true
  room : Room lv X.A
  gd : X.A.guards = some []
  nd : X.N.Nodup
  sc : X.env.scope = S.sc
  kd : S.sc.kind = .function
  st : ∀ x, S.st x = true → Loc X.env.scope x ∧ (X.fn x = true ∨ X.env.scope.names.lookup x = some .local)
  facts : Facts cf X.mg
  jf : ∀ dk, cf.jk = some dk → ∃ a, JFacts J a dk
  sf : cf.js = true → ∃ a, SFacts X.K J a
  fns : ∀ f p, cf.fns[f]? = some p → FnAt X.prog X.w X.K X.mg X.base J XR C lv f p.1 p.2 (cf.dfl.getD f [])

section
variable {cf : Cfg} {J : Jar} {XR : XRT} {C : Calls} {lv : Nat} {X : Cx} {S : Sc}
/-- an error's wish, at any later state -/
def XC (K : PySem.W.Frag) (J : Jar) (XR : XRT) (F : Fm) (σ : L2.St) (Z : Hp) (W : WX) (Y : XW) : Prop :=
  ∀ e r, Y e r → ∀ H' Z' cls dd, Same Z Z' → Rel K J F σ H' Z' r → XR e H' Z' cls dd → W cls dd σ H'
theorem XC.mono {K : PySem.W.Frag} {F : Fm} {σ : L2.St} {Z Z' : Hp} {W : WX} {Y : XW} (h : XC K J XR F σ Z W Y) (s : Same Z Z') : XC K J XR F σ Z' W Y := fun e r y H' Z2 cls dd s2 => h e r y H' Z2 cls dd (s.trans s2)
theorem XC.no {K : PySem.W.Frag} {F : Fm} {σ : L2.St} {Z : Hp} {W : WX} : XC K J XR F σ Z W noX := fun _ _ y => y.elim
def lE (K : PySem.W.Frag) (J : Jar) (XR : XRT) (C : Calls) (W : WX) (c : Ex) : TE := fun σ H Q => ∃ F Z r Y, Rel K J F σ H Z r ∧ XC K J XR F σ Z W Y ∧
  exW C c r (fun x r' => ∀ v H' Z', Same Z Z' → Rel K J F σ H' Z' r' → RepR K J F σ H' Z' r' x v → Q v H') Y
def lT (K : PySem.W.Frag) (J : Jar) (XR : XRT) (C : Calls) (W : WX) (c : Ts) : TT := fun σ H Q => ∃ F Z r Y, Rel K J F σ H Z r ∧ XC K J XR F σ Z W Y ∧
  tsW C c r (fun b r' => ∀ H' Z', Same Z Z' → Rel K J F σ H' Z' r' → Q b H') Y
def lEs (K : PySem.W.Frag) (J : Jar) (XR : XRT) (C : Calls) (W : WX) (c : Exs) : TA := fun σ H Q => ∃ F Z r Y, Rel K J F σ H Z r ∧ XC K J XR F σ Z W Y ∧
  exsW C c r (fun ds r' => ∀ vs H' Z', Same Z Z' → Rel K J F σ H' Z' r' → RepL K J Z' vs ds → Q vs H') Y
def lAs (K : PySem.W.Frag) (J : Jar) (XR : XRT) (C : Calls) (W : WX) (c : Exs) : TA := fun σ H Q => ∃ F Z r Y, Rel K J F σ H Z r ∧ XC K J XR F σ Z W Y ∧
  argsW C c r (fun ds r' => ∀ vs H' Z', Same Z Z' → Rel K J F σ H' Z' r' → RepSL K J H' Z' vs ds → Q vs H') Y
def lO (K : PySem.W.Frag) (J : Jar) (XR : XRT) (C : Calls) (W : WX) (c : Op) : TO := fun σ H Q => ∃ F Z r Y, Rel K J F σ H Z r ∧ XC K J XR F σ Z W Y ∧
  opwW C c r (fun o r' => ∀ H' Z', Same Z Z' → Rel K J F σ H' Z' r' → Q o H') Y
/-- what is walked gives these items -/
def Wk (K : PySem.W.Frag) (J : Jar) (Z : Hp) (ds : List D) (It : L2.It) : Prop :=
  ∀ (i : Nat) (H : Hp), Same Z H → (∀ d, ds[i]? = some d → It.go i H ∧ ∀ x H', It.yld i H x H' → Res K J H Z (.val d) x H') ∧ (ds.length ≤ i → It.stop i H)
def lW (K : PySem.W.Frag) (J : Jar) (XR : XRT) (C : Calls) (W : WX) (c : It) : TI := fun σ H R => ∃ F Z r Y, Rel K J F σ H Z r ∧ XC K J XR F σ Z W Y ∧
  itW C c r (fun ds r' => ∀ It H' Z', Same Z Z' → Rel K J F σ H' Z' r' → Wk K J Z' ds It → ds.length ≤ sizeLine → R It H') Y

theorem _root_.L2.PE.imp {e : Expr} {t t' : TE} (h : PE X e t) (hi : ∀ pins s σ H Q, Inv X pins σ H s → t' σ H Q → t σ H Q) : PE X e t' := ⟨fun pins s σ H Q I q => h.run pins s σ H Q I (hi pins s σ H Q I q)⟩
theorem _root_.L2.PT.imp {e : Expr} {t t' : TT} (h : PT X e t) (hi : ∀ pins s σ H Q, Inv X pins σ H s → t' σ H Q → t σ H Q) : PT X e t' := ⟨fun pins s σ H Q I q => h.run pins s σ H Q I (hi pins s σ H Q I q)⟩
theorem _root_.L2.PW.imp {e : Expr} {t t' : TT} (h : PW X e t) (hi : ∀ pins s σ H Q, Inv X pins σ H s → t' σ H Q → t σ H Q) : PW X e t' := ⟨fun wh pins s σ H Q I q => h.run wh pins s σ H Q I (hi pins s σ H Q I q)⟩
theorem _root_.L2.PA.imp {e : List Expr} {t t' : TA} (h : PA X e t) (hi : ∀ pins s σ H Q, Inv X pins σ H s → t' σ H Q → t σ H Q) : PA X e t' := ⟨fun p pins s σ H Q I q => h.run p pins s σ H Q I (hi pins s σ H Q I q)⟩

section
variable {K : PySem.W.Frag} {F : Fm} {σ : L2.St} {H Z : Hp} {r : En} {W : WX} {Y : XW} (hC : CMono C)
include hC
theorem use_pin {c : Ex} {Q : VK} {k : Rz → En → Prop} (R : Rel K J F σ H Z r) (hx : XC K J XR F σ Z W Y) (h : exW C c r k Y)
    (hk : ∀ x r1, k x r1 → ∀ v H1 Z1, Same Z Z1 → Rel K J F σ H1 Z1 r1 → Pin K J σ Z1 x v → Q v H1) : lE K J XR C W c σ H Q :=
  ⟨F, Z, r, Y, R, hx, exW_mono hC c (fun x r1 q v H1 Z1 s R1 p => let ⟨Z2, s2, R2, p2⟩ := R1.pinned p; hk x r1 q v H1 Z2 (s.trans s2) R2 p2) (fun _ _ q => q) h⟩
theorem use_E {c : Ex} {Q : VK} {k : Rz → En → Prop} (R : Rel K J F σ H Z r) (hx : XC K J XR F σ Z W Y) (h : exW C c r k Y)
    (hk : ∀ x r1, k x r1 → ∀ v H1 Z1, Same Z Z1 → Rel K J F σ H1 Z1 r1 → RepR K J F σ H1 Z1 r1 x v → Q v H1) : lE K J XR C W c σ H Q :=
  ⟨F, Z, r, Y, R, hx, exW_mono hC c hk (fun _ _ q => q) h⟩
theorem use_T {c : Ts} {Q : Bool → Hp → Prop} {k : Bool → En → Prop} (R : Rel K J F σ H Z r) (hx : XC K J XR F σ Z W Y) (h : tsW C c r k Y)
    (hk : ∀ b r1, k b r1 → ∀ H1 Z1, Same Z Z1 → Rel K J F σ H1 Z1 r1 → Q b H1) : lT K J XR C W c σ H Q :=
  ⟨F, Z, r, Y, R, hx, tsW_mono hC c hk (fun _ _ q => q) h⟩
theorem use_Es {c : Exs} {Q : List V → Hp → Prop} {k : List D → En → Prop} (R : Rel K J F σ H Z r) (hx : XC K J XR F σ Z W Y) (h : exsW C c r k Y)
    (hk : ∀ b r1, k b r1 → ∀ vs H1 Z1, Same Z Z1 → Rel K J F σ H1 Z1 r1 → RepL K J Z1 vs b → Q vs H1) : lEs K J XR C W c σ H Q :=
  ⟨F, Z, r, Y, R, hx, exsW_mono hC c hk (fun _ _ q => q) h⟩
theorem use_As {c : Exs} {Q : List V → Hp → Prop} {k : List D → En → Prop} (R : Rel K J F σ H Z r) (hx : XC K J XR F σ Z W Y) (h : argsW C c r k Y)
    (hk : ∀ b r1, k b r1 → ∀ vs H1 Z1, Same Z Z1 → Rel K J F σ H1 Z1 r1 → RepSL K J H1 Z1 vs b → Q vs H1) : lAs K J XR C W c σ H Q :=
  ⟨F, Z, r, Y, R, hx, argsW_mono hC c hk (fun _ _ q => q) h⟩
theorem use_O {c : Op} {Q : Option Int → Hp → Prop} {k : Option Int → En → Prop} (R : Rel K J F σ H Z r) (hx : XC K J XR F σ Z W Y) (h : opwW C c r k Y)
    (hk : ∀ b r1, k b r1 → ∀ H1 Z1, Same Z Z1 → Rel K J F σ H1 Z1 r1 → Q b H1) : lO K J XR C W c σ H Q :=
  ⟨F, Z, r, Y, R, hx, opwW_mono hC c hk (fun _ _ q => q) h⟩
end

theorem marks_of {op : CmpOp} {e : Expr} (h : notSet e = true) : behindInMarks op e = false := by cases e <;> first | rfl | cases h
theorem marks_of2 {op op' : CmpOp} {b e : Expr} (h : notSet e = true) : lastMarks [op, op'] [b, e] = false := by cases e <;> first | rfl | cases h
/-! ### names, constants, operators -/
section
variable {W : WX} (G : Good cf J XR C lv X S) (hC : CMono C)
include G
theorem Good.vis {x : Str} (h : visB S x = true) : Vis X.env.scope x := by
  rw [G.sc]
  unfold visB lk at h
  split at h
  · exact .inl (by assumption)
  · exact .inr (.inl (by assumption))
  · exact .inr (.inr (by assumption))
  · cases h
theorem Good.gl {x : Str} (h : glB S x = true) : Gl X x := by
  show X.env.scope.names.lookup x = some .globalImplicit
  rw [G.sc]
  unfold glB lk at h
  split at h
  · assumption
  · cases h
theorem okName_of {x : Str} (h : okName x = true) : (x == ("__debug__" : Str)) = false ∧ (x == ("__classdict__" : Str)) = false := by
  unfold okName at h
  simpa using h
theorem s_v {i : Nat} {x : Str} {pos : Pos} (h1 : X.N[i]? = some x) (h2 : visB S x = true) (h3 : okName x = true) : PE X (.Name x pos) (lE X.K J XR C W (.v i)) := by
  obtain ⟨d1, d2⟩ := okName_of G h3
  refine (pe_var h1 (G.vis h2) d1 d2).imp fun pins s σ H Q I ⟨F, Z, r, Y, R, hx, h⟩ => ?_
  unfold exW at h
  split at h
  · rename_i d e
    obtain ⟨v, e1, e2⟩ := R.fz i d e
    exact ⟨v, e1, h v H Z (.refl _) R e2⟩
  · rename_i ds e
    obtain ⟨a, vs, e1, e2⟩ := R.ow i ds e
    exact ⟨_, e1, h _ H Z (.refl _) R ⟨e1, by rw [e]; exact fun z => by cases z⟩⟩
  · exact h.elim
omit G in
theorem s_const {e : Expr} {c : Ex} {v : V} {d : D} (he : PE X e (tC v)) (hr : ∀ Z, Rep X.K J Z v d) (hw : ∀ r k Y, exW C c r k Y → k (.val d) r) : PE X e (lE X.K J XR C W c) :=
  he.imp fun pins s σ H Q I ⟨F, Z, r, Y, R, hx, h⟩ => hw _ _ _ h v H Z (.refl _) R (hr Z)
theorem s_g {x y : Str} {n : Int} {pos : Pos} (e : x = y) (h1 : glB S x = true) (h2 : okName x = true) (h3 : (cf.consts.any fun p => decide (p.1 = x) && decide (p.2 = n)) = true) : PE X (.Name y pos) (lE X.K J XR C W (.g x n)) := by
  subst e
  obtain ⟨p, hp, e⟩ := List.any_eq_true.mp h3
  rw [Bool.and_eq_true, decide_eq_true_eq, decide_eq_true_eq] at e
  obtain ⟨t, m⟩ := G.facts.consts p hp
  rw [e.1, e.2] at m
  exact s_const (pe_glob (v := .int n) (G.gl h1) m ⟨t, rfl⟩ (okName_of G h2).1) (fun _ => .int _) fun _ _ _ h => by unfold exW at h; exact h
include hC
omit G in
theorem s_bin {o : BO} {op : Operator} {a b : Ex} {ea eb : Expr} {pos : Pos} (hm : boMatch o op = true) (ha : PE X ea (lE X.K J XR C W a)) (hb : PE X eb (lE X.K J XR C W b)) : PE X (.BinOp ea op eb pos) (lE X.K J XR C W (.bin o a b)) := by
  refine (pe_op (op_all (J := J) hm) ha hb).imp fun pins s σ H Q I ⟨F, Z, r, Y, R, hx, h⟩ => ?_
  unfold exW at h
  refine use_pin hC R hx h fun x r1 h1 v H1 Z1 s1 R1 p1 => ?_
  refine use_pin hC R1 (hx.mono s1) h1 fun y r2 h2 w H2 Z2 s2 R2 p2 => ?_
  obtain ⟨d, hd, h2⟩ := R2.der (p1.mono s2) h2
  obtain ⟨e, he, h2⟩ := R2.der p2 h2
  refine ⟨Z2, d, e, R2.sub, hd, he, opW_mono (fun z hz v' H' hr => ?_) h2⟩
  obtain ⟨Z3, s3, R3, q3⟩ := R2.res hr
  exact hz v' H' Z3 ((s1.trans s2).trans s3) R3 q3
omit G in
theorem s_neg {a : Ex} {ea : Expr} {pos : Pos} (ha : PE X ea (lE X.K J XR C W a)) : PE X (.UnaryOp .USub ea pos) (lE X.K J XR C W (.neg a)) := by
  refine (pe_un un_neg ha).imp fun pins s σ H Q I ⟨F, Z, r, Y, R, hx, h⟩ => ?_
  unfold exW at h
  refine use_pin hC R hx h fun x r1 h1 v H1 Z1 s1 R1 p1 => ?_
  obtain ⟨d, hd, h2⟩ := R1.der p1 h1
  split at h2
  · cases rep_int hd
    exact ⟨_, rfl, h2 _ H1 Z1 s1 R1 (.int _)⟩
  · exact h2.elim
theorem hu65 : X.A.units + 65 < cLine := by have := G.room.un; omega
theorem hu100 : X.A.units + 100 < cLine := by have := G.room.un; omega
theorem s_cmp {o : CO} {op : CmpOp} {a b : Ex} {ea eb : Expr} {pos : Pos} (hm : coMatch o op = true) (hn : notSet eb = true) (ha : PE X ea (lE X.K J XR C W a)) (hb : PE X eb (lE X.K J XR C W b)) :
    PE X (.Compare ea [op] [eb] pos) (lE X.K J XR C W (.cmp o a b)) := by
  refine (pe_cmpR (cmp_all (J := J) (hu65 G hC) hm) ha hb (marks_of hn)).imp fun pins s σ H Q I ⟨F, Z, r, Y, R, hx, h⟩ => ?_
  unfold exW at h
  refine use_pin hC R hx h fun x r1 h1 v H1 Z1 s1 R1 p1 => ?_
  refine use_pin hC R1 (hx.mono s1) h1 fun y r2 h2 w H2 Z2 s2 R2 p2 => ?_
  obtain ⟨d, hd, h2⟩ := R2.der (p1.mono s2) h2
  obtain ⟨e, he, h2⟩ := R2.der p2 h2
  exact ⟨Z2, d, e, R2.sub, hd, he, cmpW_mono (fun z hz => hz _ H2 Z2 (s1.trans s2) R2 (.bl _)) h2⟩
theorem t_cmp {o : CO} {op : CmpOp} {a b : Ex} {ea eb : Expr} {pos : Pos} (hm : coMatch o op = true) (hn : notSet eb = true) (ha : PE X ea (lE X.K J XR C W a)) (hb : PE X eb (lE X.K J XR C W b)) :
    PT X (.Compare ea [op] [eb] pos) (lT X.K J XR C W (.e (.cmp o a b))) := by
  refine (pt_cmpR (cmp_all (J := J) (hu65 G hC) hm) ha hb (marks_of hn)).imp fun pins s σ H Q I ⟨F, Z, r, Y, R, hx, h⟩ => ?_
  unfold tsW exW at h
  refine use_pin hC R hx h fun x r1 h1 v H1 Z1 s1 R1 p1 => ?_
  refine use_pin hC R1 (hx.mono s1) h1 fun y r2 h2 w H2 Z2 s2 R2 p2 => ?_
  obtain ⟨d, hd, h2⟩ := R2.der (p1.mono s2) h2
  obtain ⟨e, he, h2⟩ := R2.der p2 h2
  exact ⟨Z2, d, e, R2.sub, hd, he, cmpW_mono (fun z hz => ⟨z, rfl, hz H2 Z2 (s1.trans s2) R2⟩) h2⟩
theorem s_chain {o p : CO} {op op' : CmpOp} {a b c : Ex} {ea eb ec : Expr} {pos : Pos} (hm : coMatch o op = true) (hm' : coMatch p op' = true) (hn : notSet ec = true) (ha : PE X ea (lE X.K J XR C W a)) (hb : PE X eb (lE X.K J XR C W b)) (hc : PE X ec (lE X.K J XR C W c)) :
    PE X (.Compare ea [op, op'] [eb, ec] pos) (lE X.K J XR C W (.chain o p a b c)) := by
  refine (pe_chain (cmp_all (J := J) (hu65 G hC) hm) (cmp_all (J := J) (hu65 G hC) hm') ha hb hc (marks_of2 hn)).imp fun pins s σ H Q I ⟨F, Z, r, Y, R, hx, h⟩ => ?_
  unfold exW at h
  refine use_pin hC R hx h fun x r1 h1 v H1 Z1 s1 R1 p1 => ?_
  refine use_pin hC R1 (hx.mono s1) h1 fun y r2 h2 w H2 Z2 s2 R2 p2 => ?_
  obtain ⟨d, hd, h2⟩ := R2.der (p1.mono s2) h2
  obtain ⟨e, he, h2⟩ := R2.der p2 h2
  refine ⟨Z2, d, e, R2.sub, hd, he, cmpW_mono (fun z hz => ⟨z, rfl, ?_⟩) h2⟩
  split
  · rename_i hz'
    rw [if_pos hz'] at hz
    refine use_pin hC R2 (hx.mono (s1.trans s2)) hz fun y3 r3 h3 v3 H3 Z3 s3 R3 p3 => ?_
    obtain ⟨e', he', h3⟩ := R3.der (p2.mono s3) h3
    obtain ⟨f, hf, h3⟩ := R3.der p3 h3
    exact ⟨Z3, e', f, R3.sub, he', hf, cmpW_mono (fun z' hz'' => hz'' _ H3 Z3 ((s1.trans s2).trans s3) R3 (.bl _)) h3⟩
  · rename_i hz'
    rw [if_neg hz'] at hz
    exact hz _ H2 Z2 (s1.trans s2) R2 (.bl _)
theorem t_chain {o p : CO} {op op' : CmpOp} {a b c : Ex} {ea eb ec : Expr} {pos : Pos} (hm : coMatch o op = true) (hm' : coMatch p op' = true) (hn : notSet ec = true) (ha : PE X ea (lE X.K J XR C W a)) (hb : PE X eb (lE X.K J XR C W b)) (hc : PE X ec (lE X.K J XR C W c)) :
    PT X (.Compare ea [op, op'] [eb, ec] pos) (lT X.K J XR C W (.e (.chain o p a b c))) := by
  refine (pt_chain (cmp_all (J := J) (hu65 G hC) hm) (cmp_all (J := J) (hu65 G hC) hm') ha hb hc (marks_of2 hn)).imp fun pins s σ H Q I ⟨F, Z, r, Y, R, hx, h⟩ => ?_
  unfold tsW exW at h
  refine use_pin hC R hx h fun x r1 h1 v H1 Z1 s1 R1 p1 => ?_
  refine use_pin hC R1 (hx.mono s1) h1 fun y r2 h2 w H2 Z2 s2 R2 p2 => ?_
  obtain ⟨d, hd, h2⟩ := R2.der (p1.mono s2) h2
  obtain ⟨e, he, h2⟩ := R2.der p2 h2
  refine ⟨Z2, d, e, R2.sub, hd, he, cmpW_mono (fun z hz => ⟨z, rfl, ?_⟩) h2⟩
  split
  · rename_i hz'
    rw [if_pos hz'] at hz
    refine use_pin hC R2 (hx.mono (s1.trans s2)) hz fun y3 r3 h3 v3 H3 Z3 s3 R3 p3 => ?_
    obtain ⟨e', he', h3⟩ := R3.der (p2.mono s3) h3
    obtain ⟨f, hf, h3⟩ := R3.der p3 h3
    exact ⟨Z3, e', f, R3.sub, he', hf, cmpW_mono (fun z' hz'' => ⟨z', rfl, hz'' H3 Z3 ((s1.trans s2).trans s3) R3⟩) h3⟩
  · rename_i hz'
    rw [if_neg hz'] at hz
    exact ⟨false, rfl, hz H2 Z2 (s1.trans s2) R2⟩
omit G in
theorem isN_rep {K : PySem.W.Frag} {H Z : Hp} {v : V} {d : D} (h : RepS K J H Z v d) : decide (v = .non) = isNon d := by
  cases d with
  | none => cases rep_none h; rfl
  | bool b => cases rep_bool h; rfl
  | int b => cases rep_int h; rfl
  | str b => cases rep_str h; rfl
  | list ds => obtain ⟨a, vs, rfl, _⟩ := h; rfl
  | tuple ds => obtain ⟨a, vs, rfl, _⟩ := rep_tup h; rfl
  | dict kvs =>
    have h' : Rep K J Z v (.dict kvs) := h
    cases h' <;> rfl
omit G in
theorem s_isN {a : Ex} {ea : Expr} {k : Nat} {p pos : Pos} (ha : PE X ea (lE X.K J XR C W a)) : PE X (.Compare ea [.Is] [.Constant .none k p] pos) (lE X.K J XR C W (.isN a)) := by
  refine (pe_cmp (pc_isN ha) rfl).imp fun pins s σ H Q I ⟨F, Z, r, Y, R, hx, h⟩ => ?_
  unfold exW at h
  refine use_pin hC R hx h fun x r1 h1 v H1 Z1 s1 R1 p1 => ?_
  obtain ⟨d, hd, h2⟩ := R1.der p1 h1
  rw [isN_rep hC hd]
  exact h2 _ H1 Z1 s1 R1 (.bl _)
omit G in
theorem t_isN {a : Ex} {ea : Expr} {k : Nat} {p pos : Pos} (ha : PE X ea (lE X.K J XR C W a)) : PT X (.Compare ea [.Is] [.Constant .none k p] pos) (lT X.K J XR C W (.e (.isN a))) := by
  refine (pt_cmp (pc_isN ha) rfl).imp fun pins s σ H Q I ⟨F, Z, r, Y, R, hx, h⟩ => ?_
  unfold tsW exW at h
  refine use_pin hC R hx h fun x r1 h1 v H1 Z1 s1 R1 p1 => ?_
  obtain ⟨d, hd, h2⟩ := R1.der p1 h1
  refine ⟨_, rfl, ?_⟩
  rw [isN_rep hC hd]
  exact h2 H1 Z1 s1 R1
omit G in
theorem notN_rep {K : PySem.W.Frag} {H Z : Hp} {v : V} {d : D} (h : RepS K J H Z v d) : (!decide (v = .non)) = !isNon d := by
  rw [isN_rep hC h]
omit G in
theorem s_notN {a : Ex} {ea : Expr} {k : Nat} {p pos : Pos} (ha : PE X ea (lE X.K J XR C W a)) : PE X (.Compare ea [.IsNot] [.Constant .none k p] pos) (lE X.K J XR C W (.notN a)) := by
  refine (pe_cmp (pc_notN ha) rfl).imp fun pins s σ H Q I ⟨F, Z, r, Y, R, hx, h⟩ => ?_
  unfold exW at h
  refine use_pin hC R hx h fun x r1 h1 v H1 Z1 s1 R1 p1 => ?_
  obtain ⟨d, hd, h2⟩ := R1.der p1 h1
  rw [notN_rep hC hd]
  exact h2 _ H1 Z1 s1 R1 (.bl _)
omit G in
theorem t_notN {a : Ex} {ea : Expr} {k : Nat} {p pos : Pos} (ha : PE X ea (lE X.K J XR C W a)) : PT X (.Compare ea [.IsNot] [.Constant .none k p] pos) (lT X.K J XR C W (.e (.notN a))) := by
  refine (pt_cmp (pc_notN ha) rfl).imp fun pins s σ H Q I ⟨F, Z, r, Y, R, hx, h⟩ => ?_
  unfold tsW exW at h
  refine use_pin hC R hx h fun x r1 h1 v H1 Z1 s1 R1 p1 => ?_
  obtain ⟨d, hd, h2⟩ := R1.der p1 h1
  refine ⟨_, rfl, ?_⟩
  rw [notN_rep hC hd]
  exact h2 H1 Z1 s1 R1
end
end
end G

set_option linter.all false
set_option maxRecDepth 100000
set_option Elab.async false
/-! Sf: further expressions. -/
namespace G
open PySem PySem.Spec PyProof.Rows L2

theorem star_of {X : Cx} {e : Expr} {es : List Expr} (h : notStar e = true) : starEach (e :: es) X.env = (false, eval e X.env) :: starEach es X.env := by cases e <;> first | rfl | cases h
theorem star_any {X : Cx} : ∀ {es : List Expr}, es.all notStar = true → (starEach es X.env).any (·.1) = false
  | [], _ => rfl
  | e :: es, h => by
    rw [List.all_cons, Bool.and_eq_true] at h
    rw [star_of h.1, List.any_cons, star_any h.2]
    rfl
theorem back_any {pos : Pos} {l : List (Bool × Sem Value)} (h : l.any (·.1) = false) : (backTo pos l).any (·.1) = false := by
  unfold backTo
  rw [List.any_map]
  exact h
theorem and2 {a b : Bool} (h : (a && b) = true) : a = true ∧ b = true := by simpa using h

section
variable {K : PySem.W.Frag} {J : Jar} {F : Fm} {σ : L2.St} {H Z : Hp} {r : En}
/-- a slot is stored -/
theorem Rel.set (R : Rel K J F σ H Z r) {i : Nat} {v : V} {d : D} (hv : Rep K J Z v d) : Rel K J F (σ.set i (some v)) H Z (r.set i (.fz d)) := by
  refine ⟨R.sub, R.frame, R.jar, R.jz, by rw [List.length_set, En.length_set]; exact R.len, fun j e h => ?_, fun j es h => ?_, fun j k es fs b hj hk ej ek => ?_, R.zs, R.zo, R.ng, R.gf, R.alV fun k z => by cases z⟩
  · by_cases ij : i = j
    · subst ij
      have il : i < r.length := by have := rd_lt (r := r.set i (.fz d)) (i := i) (by rw [h]; exact fun z => by cases z); rwa [En.length_set] at this
      rw [rd_same il] at h
      cases h
      exact ⟨v, by rw [List.getElem?_set_self (by rw [R.len]; exact il)], hv⟩
    · rw [rd_ne ij] at h
      rw [List.getElem?_set_ne ij]
      exact R.fz j e h
  · by_cases ij : i = j
    · subst ij
      have il : i < r.length := by have := rd_lt (r := r.set i (.fz d)) (i := i) (by rw [h]; exact fun z => by cases z); rwa [En.length_set] at this
      rw [rd_same il] at h
      cases h
    · rw [rd_ne ij] at h
      rw [List.getElem?_set_ne ij]
      exact R.ow j es h
  · have nj : i ≠ j := by
      rintro rfl
      have il : i < r.length := by have := rd_lt (r := r.set i (.fz d)) (i := i) (by rw [hj]; exact fun z => by cases z); rwa [En.length_set] at this
      rw [rd_same il] at hj
      cases hj
    have nk : i ≠ k := by
      rintro rfl
      have il : i < r.length := by have := rd_lt (r := r.set i (.fz d)) (i := i) (by rw [hk]; exact fun z => by cases z); rwa [En.length_set] at this
      rw [rd_same il] at hk
      cases hk
    rw [rd_ne nj] at hj
    rw [rd_ne nk] at hk
    rw [List.getElem?_set_ne nj] at ej
    rw [List.getElem?_set_ne nk] at ek
    exact R.sep j k es fs b hj hk ej ek
/-- a slot is stored with a list that nobody holds -/
theorem Rel.setOw (R : Rel K J F σ H Z r) {i : Nat} {v : V} {ds : List D} (hv : RepR K J F σ H Z r (.new ds) v) : Rel K J F (σ.set i (some v)) H Z (r.set i (.ow ds)) := by
  obtain ⟨a, vs, rfl, e1, e2, e3, e4, e5, e6, e7⟩ := hv
  refine ⟨R.sub, R.frame, R.jar, R.jz, by rw [List.length_set, En.length_set]; exact R.len, fun j e h => ?_, fun j es h => ?_, fun j k es fs b hj hk ej ek => ?_, R.zs, R.zo, R.ng, R.gf, R.alV fun k z => by cases z⟩
  · by_cases ij : i = j
    · subst ij
      have il : i < r.length := by have := rd_lt (r := r.set i (.ow ds)) (i := i) (by rw [h]; exact fun z => by cases z); rwa [En.length_set] at this
      rw [rd_same il] at h
      cases h
    · rw [rd_ne ij] at h
      rw [List.getElem?_set_ne ij]
      exact R.fz j e h
  · by_cases ij : i = j
    · subst ij
      have il : i < r.length := by have := rd_lt (r := r.set i (.ow ds)) (i := i) (by rw [h]; exact fun z => by cases z); rwa [En.length_set] at this
      rw [rd_same il] at h
      cases h
      exact ⟨a, vs, by rw [List.getElem?_set_self (by rw [R.len]; exact il)], e1, e2, e3, e4, e5, e6⟩
    · rw [rd_ne ij] at h
      rw [List.getElem?_set_ne ij]
      exact R.ow j es h
  · by_cases nj : i = j
    · subst nj
      by_cases nk : i = k
      · exact nk
      · have il : i < σ.length := by
          have := rd_lt (r := r.set i (.ow ds)) (i := i) (by rw [hj]; exact fun z => by cases z)
          rw [En.length_set] at this
          rw [R.len]
          exact this
        rw [rd_ne nk] at hk
        rw [List.getElem?_set_self il] at ej
        rw [List.getElem?_set_ne nk] at ek
        cases ej
        exact absurd ek (e7 k fs hk)
    · by_cases nk : i = k
      · subst nk
        have il : i < σ.length := by
          have := rd_lt (r := r.set i (.ow ds)) (i := i) (by rw [hk]; exact fun z => by cases z)
          rw [En.length_set] at this
          rw [R.len]
          exact this
        rw [rd_ne nj] at hj
        rw [List.getElem?_set_self il] at ek
        rw [List.getElem?_set_ne nj] at ej
        cases ek
        exact absurd ej (e7 j es hj)
      · rw [rd_ne nj] at hj
        rw [rd_ne nk] at hk
        rw [List.getElem?_set_ne nj] at ej
        rw [List.getElem?_set_ne nk] at ek
        exact R.sep j k es fs b hj hk ej ek
/-- an owned list is changed -/
theorem Rel.mut (R : Rel K J F σ H Z r) {i : Nat} {ds es : List D} {a : Addr} {ws : List V} (hi : rd r i = .ow ds) (ha : σ[i]? = some (some (.ref a))) (hl : ws.length ≤ sizeLine) (hw : RepL K J Z ws es) :
    Rel K J F σ (upd H a (.lst ws)) Z (r.set i (.ow es)) := by
  obtain ⟨a', vs, h1, h2, h3, h4, h5, h6, h7⟩ := R.ow i ds hi
  rw [ha] at h1
  cases h1
  have il : i < r.length := rd_lt (by rw [hi]; exact fun z => by cases z)
  refine ⟨fun b o e => ?_, fun b o e n => ?_, J.stable _ H _ R.jar fun b hb => ?_, R.jz, by rw [En.length_set]; exact R.len, fun j d h => ?_, fun j fs h => ?_, fun j k fs gs b hj hk ej ek => ?_, R.zs, R.zo, R.ng, R.gf, fun j k h => (R.alS (fun k z => by cases z) j k h).2⟩
  · rw [upd_ne (by rintro rfl; rw [h5] at e; cases e)]; exact R.sub b o e
  · rw [upd_ne (by rintro rfl; rw [h6] at e; cases e)]; exact R.frame b o e n
  · rw [upd_ne (by rintro rfl; exact h7 hb)]
  · by_cases ij : i = j
    · subst ij; rw [rd_same il] at h; cases h
    · rw [rd_ne ij] at h; exact R.fz j d h
  · by_cases ij : i = j
    · subst ij; rw [rd_same il] at h; cases h
      exact ⟨a, ws, ha, upd_same, hl, hw, h5, h6, h7⟩
    · rw [rd_ne ij] at h
      obtain ⟨b, us, g1, g2, g3⟩ := R.ow j fs h
      refine ⟨b, us, g1, ?_, g3⟩
      rw [upd_ne]
      · exact g2
      · rintro rfl
        exact ij (R.sep i j ds fs b hi h ha g1)
  · have tr : ∀ m hs, rd (r.set i (.ow es)) m = .ow hs → ∃ hs', rd r m = .ow hs' := fun m hs h => by
      by_cases im : i = m
      · subst im; exact ⟨ds, hi⟩
      · rw [rd_ne im] at h; exact ⟨hs, h⟩
    obtain ⟨fs', hj'⟩ := tr j fs hj
    obtain ⟨gs', hk'⟩ := tr k gs hk
    exact R.sep j k fs' gs' b hj' hk' ej ek
/-- behind a call -/
theorem Rel.out {g : Gh} {H' Z' : Hp} (R : Rel K J F σ H Z r) (o : Out J H Z g H' Z') : Rel K J F σ H' Z' (r.at g) := by
  refine ⟨o.inn.sub, fun b x e n => o.frame b x (R.frame b x e n) n, o.inn.jar, o.inn.jz, R.len, fun i d e => ?_, fun i ds e => ?_, R.sep, o.inn.zs, o.inn.zo, fun b hb => ?_, R.gf, R.al⟩
  · obtain ⟨v, e1, e2⟩ := R.fz i d e
    exact ⟨v, e1, e2.mono o.same⟩
  · obtain ⟨a, vs, e1, e2, e3, e4, e5, e6, e7⟩ := R.ow i ds e
    exact ⟨a, vs, e1, o.frame _ _ e2 e7, e3, e4.mono o.same, o.ng a (by rw [e2]; exact fun z => by cases z) e5, e6, e7⟩
  · by_cases jb : J.A b
    · exact o.inn.jz b jb
    · cases q : F.o b with
      | none => exact absurd q (R.gf b hb)
      | some x => exact o.ng b (by rw [R.frame b x q jb]; exact fun z => by cases z) (R.ng b hb)
theorem Rel.inn (R : Rel K J F σ H Z r) : Inn J r.g H Z := ⟨R.sub, R.jar, R.jz, R.zs, R.zo⟩
/-- an object is guarded -/
def Fm.add (F : Fm) (a : Addr) (o : HO) : Fm := ⟨upd F.o a o, fun b => F.g b ∨ b = a⟩
theorem Rel.guard (R : Rel K J F σ H Z r) {a : Addr} {o : HO} (h : H a = some o) (hz : Z a = none) (hs : ∀ i es, rd r i = .ow es → σ[i]? ≠ some (some (.ref a))) : Rel K J (F.add a o) σ H Z r := by
  refine ⟨R.sub, fun b x e n => ?_, R.jar, R.jz, R.len, R.fz, fun i ds e => ?_, R.sep, R.zs, R.zo, fun b hb => ?_, fun b hb => ?_, R.al⟩
  · by_cases q : b = a
    · subst q
      have e' : upd F.o b o b = some x := e
      rw [upd_same] at e'
      cases e'
      exact h
    · have e' : upd F.o a o b = some x := e
      rw [upd_ne q] at e'
      exact R.frame b x e' n
  · obtain ⟨b, vs, e1, e2, e3, e4, e5, e6, e7⟩ := R.ow i ds e
    refine ⟨b, vs, e1, e2, e3, e4, e5, ?_, e7⟩
    show upd F.o a o b = none
    rw [upd_ne]
    · exact e6
    · rintro rfl; exact hs i ds e e1
  · rcases hb with hb | rfl
    · exact R.ng b hb
    · exact hz
  · show upd F.o a o b ≠ none
    by_cases q : b = a
    · subst q; rw [upd_same]; exact fun z => by cases z
    · rw [upd_ne q]
      rcases hb with hb | hb
      · exact R.gf b hb
      · exact absurd hb q
theorem Rel.unguard {a : Addr} {o : HO} (R : Rel K J (F.add a o) σ H Z r) (hf : F.o a = none) (nj : ¬ J.A a) (hg : ∀ b, F.g b → F.o b ≠ none) : Rel K J F σ H Z r ∧ H a = some o ∧ Z a = none ∧ ∀ i es, rd r i = .ow es → σ[i]? ≠ some (some (.ref a)) := by
  have ha : H a = some o := R.frame a o (show upd F.o a o a = some o from upd_same) nj
  have hz : Z a = none := R.ng a (.inr rfl)
  have hs : ∀ i es, rd r i = .ow es → σ[i]? ≠ some (some (.ref a)) := fun i es e q => by
    obtain ⟨b, vs, e1, e2, e3, e4, e5, e6, e7⟩ := R.ow i es e
    rw [q] at e1
    cases e1
    have e6' : upd F.o a o a = none := e6
    rw [upd_same] at e6'
    cases e6'
  refine ⟨⟨R.sub, fun b x e n => R.frame b x ?_ n, R.jar, R.jz, R.len, R.fz, fun i ds e => ?_, R.sep, R.zs, R.zo, fun b hb => R.ng b (.inl hb), hg, R.al⟩, ha, hz, hs⟩
  · show upd F.o a o b = some x
    rw [upd_ne (by rintro rfl; rw [hf] at e; cases e)]
    exact e
  · obtain ⟨b, vs, e1, e2, e3, e4, e5, e6, e7⟩ := R.ow i ds e
    refine ⟨b, vs, e1, e2, e3, e4, e5, ?_, e7⟩
    have e6' : upd F.o a o b = none := e6
    by_cases q : b = a
    · subst q; exact hf
    · rwa [upd_ne q] at e6'
/-- a guarded object is changed -/
theorem Rel.put (R : Rel K J F σ H Z r) {a : Addr} {o : HO} (hf : F.o a = none) (nj : ¬ J.A a) (hz : Z a = none) (hs : ∀ i es, rd r i = .ow es → σ[i]? ≠ some (some (.ref a))) : Rel K J F σ (upd H a o) Z r := by
  refine ⟨fun b x e => ?_, fun b x e n => ?_, J.stable _ H _ R.jar fun b hb => ?_, R.jz, R.len, R.fz, fun i ds e => ?_, R.sep, R.zs, R.zo, R.ng, R.gf, R.al⟩
  · rw [upd_ne (by rintro rfl; rw [hz] at e; cases e)]; exact R.sub b x e
  · rw [upd_ne (by rintro rfl; rw [hf] at e; cases e)]; exact R.frame b x e n
  · rw [upd_ne (by rintro rfl; exact nj hb)]
  · obtain ⟨b, vs, e1, e2, e3⟩ := R.ow i ds e
    refine ⟨b, vs, e1, ?_, e3⟩
    rw [upd_ne]
    · exact e2
    · rintro rfl; exact hs i ds e e1
theorem Rel.nog (R : Rel K J F σ H Z r) : ∀ b, F.g b → F.o b ≠ none := R.gf

/-! ### targets -/
mutual
def tgHas : Tg → Nat → Bool
  | .v i, j => i == j
  | .t ts, j => tgsHas ts j
def tgsHas : Tgs → Nat → Bool
  | .nil, _ => false
  | .cons t ts, j => tgHas t j || tgsHas ts j
end
/-- nothing but some slots has changed -/
def Agr (p : Nat → Bool) (σ σ' : L2.St) : Prop := σ'.length = σ.length ∧ ∀ j, p j = false → σ'[j]? = σ[j]?
def lG (K : PySem.W.Frag) (J : Jar) (t : Tg) : TG := fun v σ H Q => ∃ F Z r d, Rel K J F σ H Z r ∧ Rep K J Z v d ∧ tgW t d r fun r' => ∀ σ', Rel K J F σ' H Z r' → Agr (tgHas t) σ σ' → Q σ' H
def lGs (K : PySem.W.Frag) (J : Jar) (t : Tgs) : TGs := fun vs σ H Q => ∃ F Z r ds, Rel K J F σ H Z r ∧ RepL K J Z vs ds ∧ tgsW t ds r fun r' => ∀ σ', Rel K J F σ' H Z r' → Agr (tgsHas t) σ σ' → Q σ' H
end
section
variable {cf : Cfg} {J : Jar} {XR : XRT} {C : Calls} {lv : Nat} {X : Cx} {S : Sc}
theorem _root_.L2.PG.imp {e : Expr} {t t' : TG} (h : PG X e t) (hi : ∀ pins s v σ H Q, Inv X pins σ H s → t' v σ H Q → t v σ H Q) : PG X e t' := ⟨fun pins s σ H v u Q I r q => h.run pins s σ H v u Q I r (hi pins s v σ H Q I q)⟩
theorem _root_.L2.PGs.imp {e : List Expr} {t t' : TGs} (h : PGs X e t) (hi : ∀ pins s v σ H Q, Inv X pins σ H s → t' v σ H Q → t v σ H Q) : PGs X e t' := ⟨fun pins s σ H v u Q I r q => h.run pins s σ H v u Q I r (hi pins s v σ H Q I q)⟩
theorem asgEach_of {e : Expr} {es : List Expr} (h : notStar e = true) : assignEach (e :: es) X.env = (false, assign e X.env) :: assignEach es X.env := by cases e <;> first | rfl | cases h
def tgsLen : Tgs → Nat | .nil => 0 | .cons _ ts => tgsLen ts + 1
theorem chkTgs_len {N : List Str} : ∀ {ts : Tgs} {es : List Expr}, chkTgs N S ts es = true → (assignEach es X.env).length = tgsLen ts ∧ (assignEach es X.env).findIdx? (·.1) = none
  | .nil, [], _ => ⟨rfl, rfl⟩
  | .cons t ts, e :: es, h => by
    unfold chkTgs at h
    obtain ⟨h1, h⟩ := and2 h
    obtain ⟨h2, h⟩ := and2 h
    obtain ⟨h3, h4⟩ := chkTgs_len h
    rw [asgEach_of h1]
    refine ⟨by rw [List.length_cons, h3]; rfl, ?_⟩
    rw [List.findIdx?_cons, h4]
    rfl
  | .nil, _ :: _, h => by unfold chkTgs at h; cases h
  | .cons _ _, [], h => by unfold chkTgs at h; cases h
mutual
theorem tgW_ex : ∀ {t : Tg} {d : D} {r : En} {k : En → Prop}, tgW t d r k → ∃ r', k r'
  | .v i, d, r, k, h => by unfold tgW at h; exact ⟨_, h⟩
  | .t ts, d, r, k, h => by
    unfold tgW at h
    split at h
    · exact (tgsW_ex h).2
    · exact (tgsW_ex h).2
    · exact h.elim
theorem tgsW_ex : ∀ {t : Tgs} {d : List D} {r : En} {k : En → Prop}, tgsW t d r k → d.length = tgsLen t ∧ ∃ r', k r'
  | .nil, d, r, k, h => by unfold tgsW at h; obtain ⟨rfl, h⟩ := h; exact ⟨rfl, _, h⟩
  | .cons t ts, d, r, k, h => by
    unfold tgsW at h
    split at h
    · exact h.elim
    · obtain ⟨r1, h1⟩ := tgW_ex h
      obtain ⟨h2, h3⟩ := tgsW_ex h1
      exact ⟨by rw [List.length_cons, h2]; rfl, h3⟩
end
/-- a tuple or a list of that length, unpacked -/
theorem pg_seq {es : List Expr} {k : Nat} {pos : Pos} {t : TGs} {n : Nat} (hc : X.calm = true) (h : PGs X es t) (hn : (assignEach es X.env).length = n) (hst : (assignEach es X.env).findIdx? (·.1) = none) :
    PG X (.Tuple es k pos) (fun v σ H Q => gTup X.K n t v σ H Q ∨ gLst X.K n t v σ H Q) := by
  refine ⟨fun pins s σ H v u Q I r hw => ?_⟩
  rcases hw with hw | hw
  · exact (pg_tup hc h hn hst).run pins s σ H v u Q I r hw
  · exact (pg_lst hc h hn hst).run pins s σ H v u Q I r hw
mutual
theorem s_tg (G : Good cf J XR C lv X S) : ∀ {t : Tg} {e : Expr}, chkTg X.N S t e = true → PG X e (lG X.K J t)
  | .v i, .Name x p, h => by
    unfold chkTg at h
    obtain ⟨h1, h2⟩ := and2 h
    obtain ⟨h3, h4⟩ := G.st x h2
    refine (pg_name G.nd (of_decide_eq_true h1) h3 h4).imp fun pins s v σ H Q I ⟨F, Z, r, d, R, hv, q⟩ => ?_
    unfold tgW at q
    exact q _ (R.set hv) ⟨List.length_set, fun j hj => List.getElem?_set_ne (by unfold tgHas at hj; exact beq_eq_false_iff_ne.mp hj)⟩
  | .t ts, .Tuple es k p, h => by
    unfold chkTg at h
    obtain ⟨hn, hst⟩ := chkTgs_len (X := X) h
    refine (pg_seq G.calm (s_tgs G h) hn hst).imp fun pins s v σ H Q I ⟨F, Z, r, d, R, hv, q⟩ => ?_
    unfold tgW at q
    split at q
    · obtain ⟨a, vs, rfl, e1, e2, l⟩ := R.repS hv
      exact .inr ⟨a, vs, rfl, .of e1, by rw [l.length, (tgsW_ex q).1], F, Z, r, _, R, l, tgsW_mono ts (fun r1 q1 σ1 R1 a1 => q1 σ1 R1 (by unfold Agr tgHas; exact a1)) q⟩
    · obtain ⟨a, vs, rfl, e1, l⟩ := rep_tup hv
      exact .inl ⟨a, vs, rfl, sqT_mono R.sub e1, by rw [l.length, (tgsW_ex q).1], F, Z, r, _, R, l, tgsW_mono ts (fun r1 q1 σ1 R1 a1 => q1 σ1 R1 (by unfold Agr tgHas; exact a1)) q⟩
    · exact q.elim
  | .v _, .BoolOp .., h | .v _, .NamedExpr .., h | .v _, .BinOp .., h | .v _, .UnaryOp .., h | .v _, .Lambda .., h | .v _, .IfExp .., h | .v _, .Dict .., h | .v _, .Set .., h | .v _, .ListComp .., h | .v _, .SetComp .., h
  | .v _, .DictComp .., h | .v _, .GeneratorExp .., h | .v _, .Await .., h | .v _, .Yield .., h | .v _, .YieldFrom .., h | .v _, .Compare .., h | .v _, .Call .., h | .v _, .FormattedValue .., h | .v _, .JoinedStr .., h
  | .v _, .Constant .., h | .v _, .Attribute .., h | .v _, .Subscript .., h | .v _, .Starred .., h | .v _, .List .., h | .v _, .Tuple .., h | .v _, .Slice .., h => by unfold chkTg at h; cases h
  | .t _, .BoolOp .., h | .t _, .NamedExpr .., h | .t _, .BinOp .., h | .t _, .UnaryOp .., h | .t _, .Lambda .., h | .t _, .IfExp .., h | .t _, .Dict .., h | .t _, .Set .., h | .t _, .ListComp .., h | .t _, .SetComp .., h
  | .t _, .DictComp .., h | .t _, .GeneratorExp .., h | .t _, .Await .., h | .t _, .Yield .., h | .t _, .YieldFrom .., h | .t _, .Compare .., h | .t _, .Call .., h | .t _, .FormattedValue .., h | .t _, .JoinedStr .., h
  | .t _, .Constant .., h | .t _, .Attribute .., h | .t _, .Subscript .., h | .t _, .Starred .., h | .t _, .List .., h | .t _, .Name .., h | .t _, .Slice .., h => by unfold chkTg at h; cases h
theorem s_tgs (G : Good cf J XR C lv X S) : ∀ {t : Tgs} {e : List Expr}, chkTgs X.N S t e = true → PGs X e (lGs X.K J t)
  | .nil, [], h => by
    refine pgs_nil.imp fun pins s v σ H Q I ⟨F, Z, r, d, R, hv, q⟩ => ?_
    unfold tgsW at q
    obtain ⟨rfl, q⟩ := q
    cases hv
    exact ⟨rfl, q _ R ⟨rfl, fun _ _ => rfl⟩⟩
  | .cons t ts, e :: es, h => by
    unfold chkTgs at h
    obtain ⟨h1, h⟩ := and2 h
    obtain ⟨h2, h⟩ := and2 h
    refine (pgs_cons (s_tg G h2) (s_tgs G h) (by rw [asgEach_of h1]; rfl)).imp fun pins s v σ H Q I ⟨F, Z, r, d, R, hv, q⟩ => ?_
    unfold tgsW at q
    split at q
    · exact q.elim
    · cases hv with
      | cons hv hr =>
        refine ⟨_, _, rfl, F, Z, r, _, R, hv, tgW_mono t (fun r1 q1 σ1 R1 a1 => ?_) q⟩
        refine ⟨F, Z, r1, _, R1, hr, tgsW_mono ts (fun r2 q2 σ2 R2 a2 => q2 σ2 R2 ⟨a2.1.trans a1.1, fun j hj => ?_⟩) q1⟩
        unfold tgsHas at hj
        rw [Bool.or_eq_false_iff] at hj
        rw [a2.2 j hj.2, a1.2 j hj.1]
  | .nil, _ :: _, h => by unfold chkTgs at h; cases h
  | .cons _ _, [], h => by unfold chkTgs at h; cases h
end
end
end G

set_option linter.all false
set_option maxRecDepth 100000
set_option Elab.async false
/-! Rt: t[::-1] of a tuple. -/
namespace G
open PySem PySem.Spec PyProof.Rows L2 HT
section
variable {prog : Program} {w : World} {A : Around} {E : Value → Shared → Prop} {s : Shared}
theorem adjust_rev (n : Nat) : Builtin.Slice.sliceAdjust none none (-1) (n : Int) = ((n : Int) - 1, -1) := by
  unfold Builtin.Slice.sliceAdjust
  simp
theorem places_rev (n : Nat) : Builtin.Slice.slicePlaces ((n : Int) - 1) (-1) (-1) = n := by
  unfold Builtin.Slice.slicePlaces
  simp
  try omega
theorem sliceApplied_rev {sl : Addr} {vl vu vs : Value} {n : Nat} {Q : Int × Int × Nat → Shared → Prop} (hs : s.heap.IsSliceOf sl vl vu vs) (pl : IsPart vl none) (pu : IsPart vu none) (ps : IsPart vs (some (-1)))
    (h : Q ((n : Int) - 1, -1, n) s) : wpAny (model prog w) A (Builtin.Slice.sliceApplied (.ref sl) (pure (n : Int))) Q E s := by
  obtain ⟨o1, ho1, hc1, hd1⟩ := id hs
  unfold Builtin.Slice.sliceApplied Builtin.Slice.sliceFields
  refine wpAny_bind (wpAny_bind (wpAny_field ho1 hd1 (x := vl) rfl (wpAny_bind (wpAny_field ho1 hd1 (x := vu) rfl (wpAny_bind (wpAny_field ho1 hd1 (x := vs) rfl (wpAny_pure ?_)))))))
  refine wpAny_bind (slicePart_ ps ?_)
  show wpAny _ _ (if ((-1 : Int) == 0) = true then _ else _) _ _ s
  rw [if_neg (by decide)]
  refine wpAny_bind (slicePart_ pl (wpAny_bind (slicePart_ pu (wpAny_bind (wpAny_pure ?_)))))
  show wpAny _ _ (match Builtin.Slice.sliceAdjust none none (-1) (n : Int) with | (l0, h0) => pure (l0, (-1 : Int), Builtin.Slice.slicePlaces l0 h0 (-1))) _ _ s
  rw [adjust_rev]
  show wpAny _ _ (pure ((n : Int) - 1, (-1 : Int), Builtin.Slice.slicePlaces ((n : Int) - 1) (-1) (-1))) _ _ s
  rw [places_rev]
  exact wpAny_pure h
theorem pick_rev (xs : Array Value) : ((List.range xs.size).filterMap fun (m : Nat) => xs[((xs.size : Int) - 1 + (m : Int) * (-1)).toNat]?).toArray = xs.toList.reverse.toArray := by
  congr 1
  have e : ((List.range xs.size).filterMap fun (m : Nat) => xs[((xs.size : Int) - 1 + (m : Int) * (-1)).toNat]?) = ((List.range xs.size).map fun k => xs.size - 1 - k).filterMap (xs[·]?) := by
    rw [List.filterMap_map]
    congr 1
    funext m
    show _ = xs[xs.size - 1 - m]?
    congr 1
    omega
  rw [e, PySem.W.krv_range, List.filterMap_reverse, PySem.W.krv_all]
theorem getItem_tuple_rev {t sl : Addr} {items : Array Value} {vl vu vs : Value} {Q : Value → Shared → Prop} (ht : IsTup s.heap t items) (hs : s.heap.IsSliceOf sl vl vu vs) (pl : IsPart vl none) (pu : IsPart vu none) (ps : IsPart vs (some (-1)))
    (h : Q (.ref s.heap.objs.size) { s with heap := s.heap.push { cls := .type "tuple", data := .seq items.toList.reverse.toArray } })
    (hsz : items.size ≤ sizeLine) : wpAny (model prog w) A (getItem (.ref t) (.ref sl)) Q E s := by
  have htake : sizeOk (.seq items.toList.reverse.toArray) := by
    show items.toList.reverse.toArray.size ≤ sizeLine
    simpa using hsz
  obtain ⟨o1, ho1, hc1, hd1⟩ := id hs
  have hT1 : s.TypeIs (.ref sl) "slice" := ⟨o1, ho1, hc1⟩
  unfold getItem
  try with_reducible refine wpAny_holding ?_
  first | refine wpAny_bind (wpAny_pure ?_) | skip
  refine wpAny_bind (wpAny_sequenceKey ht.typeIs (by decide) ?_)
  refine wpAny_bind (wpAny_callSpecial?_slot (name := Str.ofString "__getitem__") ht.typeIs PyProof.Rows.slot_tuple_getitem (wpAny_call_entry PyProof.Rows.slot_tuple_getitem ht.typeIs entry_tuple_getitem ?_ (args_tuple_getitem _ _)))
  show wpAny _ _ (Builtin.Tuple.tupleItemsOf (.ref t) >>= _) _ _ s
  refine wpAny_bind (tupleItemsOf_ ht ?_)
  refine wpAny_bind (wpAny_typeOf hT1 ?_)
  rw [if_pos (by decide)]
  refine wpAny_bind (sliceApplied_rev hs pl pu ps ?_)
  have hno : ¬ ((((items.size : Int) - 1) == 0 && (-1 : Int) == 1 && items.size == items.size) = true) := by
    intro q
    rw [Bool.and_eq_true, Bool.and_eq_true] at q
    exact absurd q.1.2 (by decide)
  show wpAny _ _ (if (((items.size : Int) - 1) == 0 && (-1 : Int) == 1 && items.size == items.size) = true then _ else _) _ _ s
  rw [if_neg hno, pick_rev]
  exact wpAny_bind (m := Builtin.Tuple.tupleExact _) (wpAny_newObj_type (wpAny_pure ⟨_, rfl, wpAny_pure h⟩) htake)
end
/-- t[::-1] or xs[::-1] -/
def tRevA (K : PySem.W.Frag) (te : TE) : TE := fun σ H Q => te σ H fun x H1 => ∃ a xs, x = .ref a ∧ ((SqL K H1 a xs ∧ ∀ p, H1 p = none → Q (.ref p) (upd H1 p (.lst xs.reverse))) ∨ (SqT K H1 a xs ∧ (xs.length ≤ sizeLine → ∀ p, H1 p = none → Q (.ref p) (upd H1 p (.tup xs.reverse)))))
theorem pe_revA {X : Cx} {e : Expr} {te : TE} {k : Nat} {p1 p2 p3 pos : Pos} (he : PE X e te) : PE X (.Subscript e (.Slice none none (some (.UnaryOp .USub (.Constant (.int 1) k p1) p2)) p3) pos) (tRevA X.K te) := by
  refine ⟨fun ps0 s0 σ0 H0 Q0 I0 h0 => ?_⟩
  refine Subscript_ (thn (he.run ps0 s0 σ0 H0 _ I0 h0) fun v s1 ⟨x, H1, I1, r1, q1⟩ => ?_)
  obtain ⟨a, xs, ex, q⟩ := q1
  subst ex
  cases r1
  have hst : PO X (some (.UnaryOp .USub (.Constant (.int 1) k p1) p2)) (tPart (tUn (rU fun i => .int (-i)) (tC (.int 1)))) := po_some (pe_un un_neg pe_int)
  refine wpAny_Slice (thn (po_none.run ps0 s1 σ0 H1 (fun o H2 => o = none ∧ H2 = H1) I1 ⟨rfl, rfl⟩) fun vl s2 ⟨l, H2, I2, pl, el, e2⟩ => ?_)
  subst el e2
  refine thn (po_none.run ps0 s2 σ0 H2 (fun o H3 => o = none ∧ H3 = H2) I2 ⟨rfl, rfl⟩) fun vu s3 ⟨u, H3, I3, pu, eu, e3⟩ => ?_
  subst eu e3
  refine thn (hst.run ps0 s3 σ0 H3 (fun o H4 => o = some (-1) ∧ H4 = H3) I3 ⟨1, rfl, -1, rfl, rfl, rfl⟩) fun vs s4 ⟨o, H4, I4, ps, eo, e4⟩ => ?_
  subst eo e4
  have I5 : Inv X ps0 σ0 H4 { s4 with heap := s4.heap.push { cls := .type "slice", data := .fields #[vl, vu, vs] } } := I4.kept (t' := s4.toks) fun b ob q => Heap.get?_push_of_some _ q
  show wpAny (model X.prog X.w) X.A (subscriptTail e (.Slice none none (some (.UnaryOp .USub (.Constant (.int 1) k p1) p2)) p3) (.ref a) (.ref s4.heap.objs.size)) (EP X ps0 σ0 Q0) X.xe { s4 with heap := s4.heap.push { cls := .type "slice", data := .fields #[vl, vu, vs] } }
  rcases q with ⟨hx, q⟩ | ⟨hx, q⟩
  · obtain ⟨its, r, ht, hz⟩ := I5.list hx
    have hlen := r.length
    refine tail_any (ops := [.ref a, .ref s4.heap.objs.size]) ht.isList.typeIs (PySem.slot_list_getitem.lookup) ?_ (by with_unfolding_all rfl)
    refine wpAny_getItem_list_slice ht.isList (Heap.IsSliceOf.new _ vl vu vs) pl pu ps (by decide) ?_ (by rw [List.size_toArray]; omega)
    rw [PySem.W.krv_pick]
    exact ⟨.ref _, _, I5.laid (t' := s4.toks) (o := .lst xs.reverse) (fun b ob q => Heap.get?_push_of_some _ q) (Nat.le_refl _) ⟨by rw [List.length_reverse]; exact hz, _, 0, r.reverse, Heap.get?_push_size _ rfl⟩, rfl, q _ (I5.hok.fresh (Nat.le_refl _))⟩
  · obtain ⟨its, r, ht, hz⟩ := I5.tuple hx
    have hlen := r.length
    refine tail_any (ops := [.ref a, .ref s4.heap.objs.size]) ht.typeIs PyProof.Rows.slot_tuple_getitem.lookup ?_ (by with_unfolding_all rfl)
    refine getItem_tuple_rev ht (Heap.IsSliceOf.new _ vl vu vs) pl pu ps ?_ (by rw [List.size_toArray]; omega)
    exact ⟨.ref _, _, I5.laid (t' := s4.toks) (o := .tup xs.reverse) (fun b ob q => Heap.get?_push_of_some _ q) (Nat.le_refl _) ⟨by rw [List.length_reverse]; exact hz, _, r.reverse, IsTup.new _ _⟩, rfl, q hz _ (I5.hok.fresh (Nat.le_refl _))⟩
/-- xs[lo::k] -/
def tStp (K : PySem.W.Frag) (te : TE) (lo k : Nat) : TE := fun σ H Q => te σ H fun x H1 => ∃ a xs, x = .ref a ∧ SqL K H1 a xs ∧ (stpL xs lo k).length ≤ sizeLine ∧ ∀ p, H1 p = none → Q (.ref p) (upd H1 p (.lst (stpL xs lo k)))
theorem vals_pick {xs : List V} {us : List Value} (r : Vals xs us) (ix : List Nat) : Vals (ix.filterMap (xs[·]?)) (ix.filterMap (us[·]?)) := by
  have at_ : ∀ (xs : List V) (us : List Value), Vals xs us → ∀ i : Nat, (xs[i]? = none ∧ us[i]? = none) ∨ ∃ x u, xs[i]? = some x ∧ us[i]? = some u ∧ RelV x u := by
    intro xs us r
    induction r with
    | nil => intro i; exact .inl ⟨rfl, rfl⟩
    | cons h _ ih =>
      intro i
      cases i with
      | zero => exact .inr ⟨_, _, rfl, rfl, h⟩
      | succ i => simpa using ih i
  induction ix with
  | nil => exact .nil
  | cons i ix ih =>
    rcases at_ xs us r i with ⟨e1, e2⟩ | ⟨x, u, e1, e2, h⟩
    · rw [List.filterMap_cons_none e1, List.filterMap_cons_none e2]; exact ih
    · rw [List.filterMap_cons_some e1, List.filterMap_cons_some e2]; exact .cons h ih
theorem pe_stp {X : Cx} {e : Expr} {te : TE} {lo k : Nat} {j1 j2 : Nat} {p1 p2 p3 pos : Pos} (hk : 0 < k) (he : PE X e te) : PE X (.Subscript e (.Slice (some (.Constant (.int (lo : Int)) j1 p1)) none (some (.Constant (.int (k : Int)) j2 p2)) p3) pos) (tStp X.K te lo k) := by
  refine ⟨fun ps0 s0 σ0 H0 Q0 I0 h0 => ?_⟩
  refine Subscript_ (thn (he.run ps0 s0 σ0 H0 _ I0 h0) fun v s1 ⟨x, H1, I1, r1, q1⟩ => ?_)
  obtain ⟨a, xs, ex, hx, hz0, q⟩ := q1
  subst ex
  cases r1
  have hlo : PO X (some (.Constant (.int (lo : Int)) j1 p1)) (tPart (tC (.int (lo : Int)))) := po_some pe_int
  have hst : PO X (some (.Constant (.int (k : Int)) j2 p2)) (tPart (tC (.int (k : Int)))) := po_some pe_int
  refine wpAny_Slice (thn (hlo.run ps0 s1 σ0 H1 (fun o H2 => o = some (lo : Int) ∧ H2 = H1) I1 ⟨(lo : Int), rfl, rfl, rfl⟩) fun vl s2 ⟨l, H2, I2, pl, el, e2⟩ => ?_)
  subst el e2
  refine thn (po_none.run ps0 s2 σ0 H2 (fun o H3 => o = none ∧ H3 = H2) I2 ⟨rfl, rfl⟩) fun vu s3 ⟨u, H3, I3, pu, eu, e3⟩ => ?_
  subst eu e3
  refine thn (hst.run ps0 s3 σ0 H3 (fun o H4 => o = some (k : Int) ∧ H4 = H3) I3 ⟨(k : Int), rfl, rfl, rfl⟩) fun vs s4 ⟨o, H4, I4, ps, eo, e4⟩ => ?_
  subst eo e4
  have I5 : Inv X ps0 σ0 H4 { s4 with heap := s4.heap.push { cls := .type "slice", data := .fields #[vl, vu, vs] } } := I4.kept (t' := s4.toks) fun b ob q => Heap.get?_push_of_some _ q
  obtain ⟨its, r, ht, hz⟩ := I5.list hx
  have hlen := r.length
  refine tail_any (ops := [.ref a, .ref s4.heap.objs.size]) ht.isList.typeIs (PySem.slot_list_getitem.lookup) ?_ (by with_unfolding_all rfl)
  refine wpAny_getItem_list_slice ht.isList (Heap.IsSliceOf.new _ vl vu vs) pl pu ps (by intro z; have z2 := Option.some.inj z; omega) ?_ (by rw [List.size_toArray]; omega)
  have e5 : slicePick its.toArray (some (lo : Int)) none (some (k : Int)) = (stpL its lo k).toArray := by
    unfold slicePick stpL
    rw [List.size_toArray]
    congr 1
    congr 1
    funext i
    simp
  rw [e5]
  have r5 : Vals (stpL xs lo k) (stpL its lo k) := by
    unfold stpL
    rw [hlen]
    exact vals_pick r _
  exact ⟨.ref _, _, I5.laid (t' := s4.toks) (o := .lst (stpL xs lo k)) (fun b ob q => Heap.get?_push_of_some _ q) (Nat.le_refl _) ⟨hz0, _, 0, r5, Heap.get?_push_size _ rfl⟩, rfl, q _ (I5.hok.fresh (Nat.le_refl _))⟩
theorem repL_pick {K : PySem.W.Frag} {J : Jar} {Z : Hp} {vs : List V} {ds : List D} (r : RepL K J Z vs ds) (ix : List Nat) : RepL K J Z (ix.filterMap (vs[·]?)) (ix.filterMap (ds[·]?)) := by
  have at_ : ∀ (vs : List V) (ds : List D), RepL K J Z vs ds → ∀ i : Nat, (vs[i]? = none ∧ ds[i]? = none) ∨ ∃ x u, vs[i]? = some x ∧ ds[i]? = some u ∧ Rep K J Z x u := by
    intro vs
    induction vs with
    | nil => intro ds r i; cases r; exact .inl ⟨rfl, rfl⟩
    | cons v vs ih =>
      intro ds r i
      cases r with
      | cons h r =>
        cases i with
        | zero => exact .inr ⟨_, _, rfl, rfl, h⟩
        | succ i => simpa using ih _ r i
  induction ix with
  | nil => exact .nil
  | cons i ix ih =>
    rcases at_ vs ds r i with ⟨e1, e2⟩ | ⟨x, u, e1, e2, h⟩
    · rw [List.filterMap_cons_none e1, List.filterMap_cons_none e2]; exact ih
    · rw [List.filterMap_cons_some e1, List.filterMap_cons_some e2]; exact .cons h ih
end G

set_option linter.all false
set_option maxRecDepth 100000
set_option Elab.async false
/-! Sg: tests, displays, subscripts, calls. -/
namespace G
open PySem PySem.Spec PyProof.Rows L2
section
variable {cf : Cfg} {J : Jar} {XR : XRT} {C : Calls} {lv : Nat} {X : Cx} {S : Sc} {W : WX} (G : Good cf J XR C lv X S) (hC : CMono C)
include hC
theorem s_nt {a : Ex} {ea : Expr} {pos : Pos} (ha : PE X ea (lE X.K J XR C W a)) : PE X (.UnaryOp .Not ea pos) (lE X.K J XR C W (.nt a)) := by
  refine ⟨fun pins s σ H Q I ⟨F, Z, r, Y, R, hx, h⟩ => ?_⟩
  unfold exW at h
  have l : lE X.K J XR C W a σ H fun x H1 => ∃ Z d, Same Z H1 ∧ RepS X.K J H1 Z x d ∧ truW d fun b => Q (.bl (!b)) H1 := by
    refine use_pin hC R hx h fun x r1 h1 v H1 Z1 s1 R1 p1 => ?_
    obtain ⟨d, hd, h2⟩ := R1.der p1 h1
    exact ⟨Z1, d, R1.sub, hd, truW_mono (fun b hb => hb _ H1 Z1 s1 R1 (.bl _)) h2⟩
  refine UnaryOp_ (thn (ha.run pins s σ H _ I l) fun v s1 ⟨x, H1, I1, r1, q1⟩ => ?_)
  refine not_of (thn (tru_sound pins s1 σ H1 x v (fun b H2 => Q (.bl (!b)) H2) I1 r1 q1) fun b s2 ⟨H2, I2, q2⟩ => ?_)
  exact ⟨.bl (!b), H2, I2, rfl, q2⟩
theorem t_nt {a : Ts} {ea : Expr} {pos : Pos} (ha : PT X ea (lT X.K J XR C W a)) : PT X (.UnaryOp .Not ea pos) (lT X.K J XR C W (.nt a)) := by
  refine (pt_not ha).imp fun pins s σ H Q I ⟨F, Z, r, Y, R, hx, h⟩ => ?_
  unfold tsW at h
  exact use_T hC R hx h fun b r1 h1 H1 Z1 s1 R1 => h1 H1 Z1 s1 R1
theorem s_and {a b : Ex} {ea eb : Expr} {rest : List Expr} {pos : Pos} (ha : PE X ea (lE X.K J XR C W a)) (hb : PE X (.BoolOp .And (eb :: rest) pos) (lE X.K J XR C W b)) : PE X (.BoolOp .And (ea :: eb :: rest) pos) (lE X.K J XR C W (.and a b)) := by
  refine (pe_and ha hb).imp fun pins s σ H Q I ⟨F, Z, r, Y, R, hx, h⟩ => ?_
  unfold exW at h
  refine use_pin hC R hx h fun x r1 h1 v H1 Z1 s1 R1 p1 => ?_
  obtain ⟨d, hd, h2⟩ := R1.der p1 h1
  split at h2
  · cases rep_bool hd
    refine ⟨_, rfl, ?_⟩
    split at h2
    · rename_i e
      rw [if_pos e]
      exact use_E hC R1 (hx.mono s1) h2 fun y r2 h3 w H2 Z2 s2 R2 p2 => h3 w H2 Z2 (s1.trans s2) R2 p2
    · rename_i e
      rw [if_neg e]
      exact h2 _ H1 Z1 s1 R1 (.bl _)
  · exact h2.elim
theorem s_or {a b : Ex} {ea eb : Expr} {rest : List Expr} {pos : Pos} (ha : PE X ea (lE X.K J XR C W a)) (hb : PE X (.BoolOp .Or (eb :: rest) pos) (lE X.K J XR C W b)) : PE X (.BoolOp .Or (ea :: eb :: rest) pos) (lE X.K J XR C W (.or a b)) := by
  refine (pe_or ha hb).imp fun pins s σ H Q I ⟨F, Z, r, Y, R, hx, h⟩ => ?_
  unfold exW at h
  refine use_pin hC R hx h fun x r1 h1 v H1 Z1 s1 R1 p1 => ?_
  obtain ⟨d, hd, h2⟩ := R1.der p1 h1
  split at h2
  · cases rep_bool hd
    refine ⟨_, rfl, ?_⟩
    split at h2
    · rename_i e
      rw [if_pos e]
      exact h2 _ H1 Z1 s1 R1 (.bl _)
    · rename_i e
      rw [if_neg e]
      exact use_E hC R1 (hx.mono s1) h2 fun y r2 h3 w H2 Z2 s2 R2 p2 => h3 w H2 Z2 (s1.trans s2) R2 p2
  · exact h2.elim
theorem t_and {a b : Ts} {ea eb : Expr} {rest : List Expr} {pos : Pos} (ha : PT X ea (lT X.K J XR C W a)) (hb : PW X (.BoolOp .And (eb :: rest) pos) (lT X.K J XR C W b)) : PW X (.BoolOp .And (ea :: eb :: rest) pos) (lT X.K J XR C W (.and a b)) := by
  refine (pw_and ha hb).imp fun pins s σ H Q I ⟨F, Z, r, Y, R, hx, h⟩ => ?_
  unfold tsW at h
  refine use_T hC R hx h fun c r1 h1 H1 Z1 s1 R1 => ?_
  split at h1
  · rename_i e
    rw [if_pos e]
    exact use_T hC R1 (hx.mono s1) h1 fun y r2 h3 H2 Z2 s2 R2 => h3 H2 Z2 (s1.trans s2) R2
  · rename_i e
    rw [if_neg e]
    exact h1 H1 Z1 s1 R1
theorem t_or {a b : Ts} {ea eb : Expr} {rest : List Expr} {pos : Pos} (ha : PT X ea (lT X.K J XR C W a)) (hb : PW X (.BoolOp .Or (eb :: rest) pos) (lT X.K J XR C W b)) : PW X (.BoolOp .Or (ea :: eb :: rest) pos) (lT X.K J XR C W (.or a b)) := by
  refine (pw_or ha hb).imp fun pins s σ H Q I ⟨F, Z, r, Y, R, hx, h⟩ => ?_
  unfold tsW at h
  refine use_T hC R hx h fun c r1 h1 H1 Z1 s1 R1 => ?_
  split at h1
  · rename_i e
    rw [if_pos e]
    exact h1 H1 Z1 s1 R1
  · rename_i e
    rw [if_neg e]
    exact use_T hC R1 (hx.mono s1) h1 fun y r2 h3 H2 Z2 s2 R2 => h3 H2 Z2 (s1.trans s2) R2
theorem t_e {a : Ex} {ea : Expr} (hp : plainT ea = true) (ha : PE X ea (lE X.K J XR C W a)) : PT X ea (lT X.K J XR C W (.e a)) := by
  refine ⟨fun pins s σ H Q I ⟨F, Z, r, Y, R, hx, h⟩ => ?_⟩
  unfold tsW at h
  have l : lE X.K J XR C W a σ H fun x H1 => ∃ Z d, Same Z H1 ∧ RepS X.K J H1 Z x d ∧ truW d fun b => Q b H1 := by
    refine use_pin hC R hx h fun x r1 h1 v H1 Z1 s1 R1 p1 => ?_
    obtain ⟨d, hd, h2⟩ := R1.der p1 h1
    exact ⟨Z1, d, R1.sub, hd, truW_mono (fun b hb => hb H1 Z1 s1 R1) h2⟩
  refine isTrue_plain (thn (ha.run pins s σ H _ I l) fun v s1 ⟨x, H1, I1, r1, q1⟩ => tru_sound pins s1 σ H1 x v Q I1 r1 q1) ?_
  cases ea <;> first | rfl | cases hp
theorem s_ite {t : Ts} {a b : Ex} {et ea eb : Expr} {pos : Pos} (ht : PT X et (lT X.K J XR C W t)) (ha : PE X ea (lE X.K J XR C W a)) (hb : PE X eb (lE X.K J XR C W b)) : PE X (.IfExp et ea eb pos) (lE X.K J XR C W (.ite t a b)) := by
  refine (pe_ifExp ht ha hb).imp fun pins s σ H Q I ⟨F, Z, r, Y, R, hx, h⟩ => ?_
  unfold exW at h
  refine use_T hC R hx h fun c r1 h1 H1 Z1 s1 R1 => ?_
  split at h1
  · rename_i e
    rw [if_pos e]
    exact use_E hC R1 (hx.mono s1) h1 fun y r2 h3 w H2 Z2 s2 R2 p2 => h3 w H2 Z2 (s1.trans s2) R2 p2
  · rename_i e
    rw [if_neg e]
    exact use_E hC R1 (hx.mono s1) h1 fun y r2 h3 w H2 Z2 s2 R2 p2 => h3 w H2 Z2 (s1.trans s2) R2 p2
omit hC in
theorem a_nil : PA X [] (lEs X.K J XR C W .nil) := by
  refine pa_nil.imp fun pins s σ H Q I ⟨F, Z, r, Y, R, hx, h⟩ => ?_
  unfold exsW at h
  exact h [] H Z (.refl _) R .nil
theorem a_cons {a : Ex} {as : Exs} {e : Expr} {es : List Expr} (hn : notStar e = true) (ha : PE X e (lE X.K J XR C W a)) (hr : PA X es (lEs X.K J XR C W as)) : PA X (e :: es) (lEs X.K J XR C W (.cons a as)) := by
  refine (pa_cons ha hr (star_of hn)).imp fun pins s σ H Q I ⟨F, Z, r, Y, R, hx, h⟩ => ?_
  unfold exsW at h
  refine use_E hC R hx h fun x r1 h1 v H1 Z1 s1 R1 p1 => ?_
  obtain ⟨d, r2, Z2, s2, R2, hd, h2⟩ := R1.frz p1 h1
  exact use_Es hC R2 (hx.mono (s1.trans s2)) h2 fun ds r3 h3 vs H3 Z3 s3 R3 hds => h3 (v :: vs) H3 Z3 ((s1.trans s2).trans s3) R3 (.cons (hd.mono s3) hds)
omit hC in
theorem b_nil : PA X [] (lAs X.K J XR C W .nil) := by
  refine pa_nil.imp fun pins s σ H Q I ⟨F, Z, r, Y, R, hx, h⟩ => ?_
  unfold argsW at h
  exact h [] H Z (.refl _) R .nil
theorem b_cons {a : Ex} {as : Exs} {e : Expr} {es : List Expr} (hn : notStar e = true) (ha : PE X e (lE X.K J XR C W a)) (hr : PA X es (lAs X.K J XR C W as)) : PA X (e :: es) (lAs X.K J XR C W (.cons a as)) := by
  refine (pa_cons ha hr (star_of hn)).imp fun pins s σ H Q I ⟨F, Z, r, Y, R, hx, h⟩ => ?_
  unfold argsW at h
  refine use_pin hC R hx h fun x r1 h1 v H1 Z1 s1 R1 p1 => ?_
  refine use_As hC R1 (hx.mono s1) h1 fun ds r3 h3 vs H3 Z3 s3 R3 hds => ?_
  obtain ⟨d, hd, h4⟩ := R3.der (p1.mono s3) h3
  exact h4 (v :: vs) H3 Z3 (s1.trans s3) R3 (.cons hd hds)
theorem exsW_len : ∀ {as : Exs} {r : En} {k : List D → En → Prop} {Y : XW}, exsW C as r k Y → exsW C as r (fun ds r' => ds.length = exsLen as ∧ k ds r') Y
  | .nil, r, k, Y, h => by unfold exsW at h ⊢; exact ⟨rfl, h⟩
  | .cons a as, r, k, Y, h => by
    unfold exsW at h ⊢
    exact exW_mono hC a (fun x r1 => frz_mono fun d r2 q => exsW_mono hC as (fun ds r3 z => ⟨by rw [List.length_cons, z.1]; rfl, z.2⟩) (fun _ _ z => z) (exsW_len q)) (fun _ _ z => z) h
theorem s_tup {as : Exs} {es : List Expr} {k : Nat} {pos : Pos} (hl : exsLen as ≤ 1000) (h : PA X es (lEs X.K J XR C W as)) : PE X (.Tuple es k pos) (lE X.K J XR C W (.tup as)) := by
  refine (pe_tup h).imp fun pins s σ H Q I ⟨F, Z, r, Y, R, hx, h⟩ => ?_
  unfold exW at h
  refine use_Es hC R hx (exsW_len hC h) fun ds r3 h3 vs H3 Z3 s3 R3 hds => ?_
  obtain ⟨h4, h3⟩ := h3
  have hz : vs.length ≤ sizeLine := by rw [hds.length, h4, szl]; omega
  refine ⟨hz, fun p hp => ?_⟩
  obtain ⟨Z4, s4, R4, q4⟩ := R3.res (z := .val (.tuple ds)) (.inr ⟨p, vs, ds, hp, rfl, rfl, rfl, hds, hz⟩)
  exact h3 _ _ Z4 (s3.trans s4) R4 q4
theorem s_lst {as : Exs} {es : List Expr} {pos : Pos} (hl : exsLen as ≤ 1000) (h : PA X es (lEs X.K J XR C W as)) : PE X (.List es pos) (lE X.K J XR C W (.lst as)) := by
  refine (pe_lst h).imp fun pins s σ H Q I ⟨F, Z, r, Y, R, hx, h⟩ => ?_
  unfold exW at h
  refine use_Es hC R hx (exsW_len hC h) fun ds r3 h3 vs H3 Z3 s3 R3 hds => ?_
  obtain ⟨h4, h3⟩ := h3
  have hz : vs.length ≤ sizeLine := by rw [hds.length, h4, szl]; omega
  refine ⟨hz, fun p hp => ?_⟩
  obtain ⟨Z4, s4, R4, q4⟩ := R3.res (z := .new ds) ⟨p, vs, hp, rfl, rfl, hds, hz⟩
  exact h3 _ _ Z4 (s3.trans s4) R4 q4
theorem s_ix {a i : Ex} {ea ei : Expr} {pos : Pos} (hs : isSlice ei = false) (ha : PE X ea (lE X.K J XR C W a)) (hi : PE X ei (lE X.K J XR C W i)) : PE X (.Subscript ea ei pos) (lE X.K J XR C W (.ix a i)) := by
  refine (pe_ix (ix_sound (J := J)) ha hi (by cases ei <;> first | (exact fun _ _ => rfl) | cases hs)).imp fun pins s σ H Q I ⟨F, Z, r, Y, R, hx, h⟩ => ?_
  unfold exW at h
  refine use_pin hC R hx h fun x r1 h1 v H1 Z1 s1 R1 p1 => ?_
  refine use_pin hC R1 (hx.mono s1) h1 fun y r2 h2 w H2 Z2 s2 R2 p2 => ?_
  obtain ⟨d, hd, h2⟩ := R2.der (p1.mono s2) h2
  obtain ⟨e, he, h2⟩ := R2.der p2 h2
  exact ⟨Z2, d, e, R2.sub, hd, he, ixW_mono (fun z hz v' hr => hz v' H2 Z2 (s1.trans s2) R2 hr) h2⟩
omit hC in
theorem o_no : PO X none (lO X.K J XR C W .no) := by
  refine ⟨fun pins s σ H Q I ⟨F, Z, r, Y, R, hx, h⟩ => ?_⟩
  unfold opwW at h
  exact po_none.run pins s σ H Q I (h H Z (.refl _) R)
theorem o_so {a : Ex} {e : Expr} (ha : PE X e (lE X.K J XR C W a)) : PO X (some e) (lO X.K J XR C W (.so a)) := by
  refine ⟨fun pins s σ H Q I ⟨F, Z, r, Y, R, hx, h⟩ => ?_⟩
  unfold opwW at h
  refine (po_some ha).run pins s σ H Q I (use_pin hC R hx h fun x r1 h1 v H1 Z1 s1 R1 p1 => ?_)
  obtain ⟨d, hd, h2⟩ := R1.der p1 h1
  split at h2
  · cases rep_int hd
    exact ⟨_, rfl, h2 H1 Z1 s1 R1⟩
  · exact h2.elim
theorem s_cut {a : Ex} {lo hi : Op} {ea : Expr} {l u : Option Expr} {p pos : Pos} (ha : PE X ea (lE X.K J XR C W a)) (hl : PO X l (lO X.K J XR C W lo)) (hu : PO X u (lO X.K J XR C W hi)) :
    PE X (.Subscript ea (.Slice l u none p) pos) (lE X.K J XR C W (.cut a lo hi)) := by
  refine (pe_slice (cut_sound (J := J)) ha hl hu).imp fun pins s σ H Q I ⟨F, Z, r, Y, R, hx, h⟩ => ?_
  unfold exW at h
  refine use_pin hC R hx h fun x r1 h1 v H1 Z1 s1 R1 p1 => ?_
  refine use_O hC R1 (hx.mono s1) h1 fun y r2 h2 H2 Z2 s2 R2 => ?_
  refine use_O hC R2 (hx.mono (s1.trans s2)) h2 fun y r3 h3 H3 Z3 s3 R3 => ?_
  obtain ⟨d, hd, h4⟩ := R3.der (p1.mono (s2.trans s3)) h3
  refine ⟨Z3, d, R3.sub, R3.zs, hd, ?_⟩
  split at h4
  · intro v' H' hr
    obtain ⟨Z4, s4, R4, q4⟩ := R3.res hr
    exact h4 _ _ Z4 (((s1.trans s2).trans s3).trans s4) R4 q4
  · intro v' H' hr
    obtain ⟨Z4, s4, R4, q4⟩ := R3.res hr
    exact h4 _ _ Z4 (((s1.trans s2).trans s3).trans s4) R4 q4
  · exact h4.elim
theorem s_rev {a : Ex} {ea ei : Expr} {pos : Pos} (hr : isRev ei = true) (ha : PE X ea (lE X.K J XR C W a)) : PE X (.Subscript ea ei pos) (lE X.K J XR C W (.rev a)) := by
  unfold isRev at hr
  split at hr
  · refine (pe_revA ha).imp fun pins s σ H Q I ⟨F, Z, r, Y, R, hx, h⟩ => ?_
    unfold exW at h
    refine use_pin hC R hx h fun x r1 h1 v H1 Z1 s1 R1 p1 => ?_
    obtain ⟨d, hd, h2⟩ := R1.der p1 h1
    split at h2
    · obtain ⟨a, vs, rfl, e1, e2, l⟩ := hd
      refine ⟨a, vs, rfl, .inl ⟨.of e1, fun p hp => ?_⟩⟩
      obtain ⟨Z4, s4, R4, q4⟩ := R1.res (z := .new _) ⟨p, _, hp, rfl, rfl, l.reverse, by rw [List.length_reverse]; exact e2⟩
      exact h2 _ _ Z4 (s1.trans s4) R4 q4
    · obtain ⟨a, vs, rfl, e1, l⟩ := rep_tup hd
      refine ⟨a, vs, rfl, .inr ⟨sqT_mono R1.sub e1, fun e2 p hp => ?_⟩⟩
      obtain ⟨Z4, s4, R4, q4⟩ := R1.res (z := .val _) (.inr ⟨p, _, _, hp, rfl, rfl, rfl, l.reverse, by rw [List.length_reverse]; exact e2⟩)
      exact h2 _ _ Z4 (s1.trans s4) R4 q4
    · exact h2.elim
  · cases hr
theorem s_stp {a : Ex} {lo k : Nat} {ea : Expr} {j1 j2 : Nat} {p1 p2 p3 pos : Pos} (hk : 0 < k) (ha : PE X ea (lE X.K J XR C W a)) : PE X (.Subscript ea (.Slice (some (.Constant (.int (lo : Int)) j1 p1)) none (some (.Constant (.int (k : Int)) j2 p2)) p3) pos) (lE X.K J XR C W (.stp a lo k)) := by
  refine (pe_stp hk ha).imp fun pins s σ H Q I ⟨F, Z, r, Y, R, hx, h⟩ => ?_
  unfold exW at h
  refine use_pin hC R hx h fun x r1 h1 v H1 Z1 s1 R1 p1 => ?_
  obtain ⟨d, hd, h2⟩ := R1.der p1 h1
  split at h2
  · rename_i ds
    obtain ⟨a, vs, rfl, e1, e2, l⟩ := hd
    have ln := l.length
    have el : (stpL vs lo k).length = (stpL ds lo k).length := by
      have l2 : RepL X.K J Z1 (stpL vs lo k) (stpL ds lo k) := by unfold stpL; rw [ln]; exact repL_pick l _
      exact l2.length
    refine ⟨a, vs, rfl, .of e1, by rw [szl, el]; exact h2.1, fun p hp => ?_⟩
    have l2 : RepL X.K J Z1 (stpL vs lo k) (stpL ds lo k) := by unfold stpL; rw [ln]; exact repL_pick l _
    obtain ⟨Z4, s4, R4, q4⟩ := R1.res (z := .new _) ⟨p, _, hp, rfl, rfl, l2, by rw [szl, el]; exact h2.1⟩
    exact h2.2 _ _ Z4 (s1.trans s4) R4 q4
  · exact h2.elim
include G
/-- a builtin's call -/
theorem s_bi {k : BI} {as : Exs} {x : Str} {e : Expr} {es : List Expr} {p pos : Pos} (nk : isIsi k = false) (hx : x = biName k) (hf : (if x = ("gcd" : Str) then cf.gcd else cf.free.contains x) = true) (hg : glB S x = true) (hs : notStar e = true) (hss : es.all notStar = true)
    (ha : PA X (e :: es) (lAs X.K J XR C W as)) : PE X (.Call (.Name x p) (e :: es) [] pos) (lE X.K J XR C W (.bi k as)) := by
  have fin : ∀ {t : TE}, t = tCB (rBi X.K J k) (lAs X.K J XR C W as) → PE X (.Call (.Name x p) (e :: es) [] pos) t → PE X (.Call (.Name x p) (e :: es) [] pos) (lE X.K J XR C W (.bi k as)) := fun et hp => by
    subst et
    refine hp.imp fun pins s σ H Q I ⟨F, Z, r, Y, R, hx, h⟩ => ?_
    unfold exW at h
    refine use_As hC R hx h fun ds r3 h3 vs H3 Z3 s3 R3 hds => ⟨Z3, ds, R3.sub, hds, biW_mono (fun z hz v' H' hr => ?_) h3⟩
    obtain ⟨Z4, s4, R4, q4⟩ := R3.res hr
    exact hz _ _ Z4 (s3.trans s4) R4 q4
  have hb := bi_sound (X := X) (J := J) G.calm G.gd (hu100 G hC) nk
  have h1 := star_of (X := X) (es := es) hs
  have h2 : (backTo pos (starEach es X.env)).any (·.1) = false := back_any (star_any hss)
  have hdb : (x == ("__debug__" : Str)) = false := by subst hx; cases k <;> decide +kernel
  have hn : x ≠ "__name__" := by subst hx; cases k <;> decide +kernel
  by_cases gc : k = .gcd
  · subst gc
    subst hx
    rw [if_pos (show biName .gcd = ("gcd" : Str) from rfl)] at hf
    exact fin rfl (pe_callBfun hb (G.gl hg) (G.facts.gcd hf) ha hdb h1 h2)
  · have gx : x ≠ ("gcd" : Str) := by subst hx; cases k <;> first | exact absurd rfl gc | decide +kernel
    rw [if_neg gx] at hf
    have mg := G.facts.free x hf
    have gl := G.gl hg
    subst hx
    cases k <;> first
      | exact absurd rfl gc
      | exact fin rfl (pe_callB hb gl mg (by decide +kernel) ha hn hdb h1 h2)
      | exact fin rfl (pe_callTy hb gl mg (by decide +kernel) ha hn hdb h1 h2)
      | exact absurd (show true = false from nk) (by decide)
end
end G

set_option linter.all false
set_option maxRecDepth 100000
set_option Elab.async false
/-! Sh: calls, pop, isinstance, comprehensions. -/
namespace G
open PySem PySem.Spec PyProof.Rows L2
section
variable {cf : Cfg} {J : Jar} {XR : XRT} {C : Calls} {lv : Nat} {X : Cx} {S : Sc} {W : WX} (G : Good cf J XR C lv X S) (hC : CMono C)

/-- the callee runs, guards known -/
theorem run_G {pins : List (Addr × Obj)} {σ : L2.St} {H : Hp} {s : Shared} {Q : VK} {us : List Value} {vs : List V} {f : Nat} {a : Addr} {fd : FuncData} {ps : List Str}
    (F : FnG X.prog X.w X.K X.mg X.base J XR C lv f a fd ps) (hr : Room lv X.A) (gd : X.A.guards = some []) (hb : Binds X.K fd ps []) (tk : Takes X W) (I : Inv X pins σ H s) (r : Vals vs us) (hl : vs.length = ps.length)
    (h : spOf X.K J XR C f vs H Q (WE W σ)) : wpAny (model X.prog X.w) X.A (call (.ref a) us) (EP X pins σ Q) X.xe s := by
  have hu : (us ++ []).length = ps.length := by rw [List.append_nil, ← r.length, hl]
  have bt := hb s us I.kIn hu
  rw [List.append_nil] at bt
  refine wpAny_call (codeAny_mono (F.run X.A X.stack s H ⟨us, []⟩ us vs Q (WE W σ) hr gd I.env0 bt r hl h) fun z s' hq => ?_)
  cases z with
  | error e => exact passAt tk σ pins H s e s' I hq
  | ok fl =>
    cases fl with
    | ret u => exact I.after hq
    | next => exact hq.elim
    | brk => exact hq.elim
    | cont => exact hq.elim
/-- the callee runs, the defaults fill up -/
theorem run_GD {pins : List (Addr × Obj)} {σ : L2.St} {H : Hp} {s : Shared} {Q : VK} {us es : List Value} {vs ws : List V} {f : Nat} {a : Addr} {fd : FuncData} {ps : List Str}
    (F : FnG X.prog X.w X.K X.mg X.base J XR C lv f a fd ps) (hr : Room lv X.A) (gd : X.A.guards = some []) (hb : Binds X.K fd ps es) (tk : Takes X W) (I : Inv X pins σ H s) (r : Vals vs us) (rw_ : Vals ws es) (hl : (vs ++ ws).length = ps.length)
    (h : spOf X.K J XR C f (vs ++ ws) H Q (WE W σ)) : wpAny (model X.prog X.w) X.A (call (.ref a) us) (EP X pins σ Q) X.xe s := by
  have hu : (us ++ es).length = ps.length := by rw [← (r.append rw_).length, hl]
  refine wpAny_call (codeAny_mono (F.run X.A X.stack s H ⟨us, []⟩ (us ++ es) (vs ++ ws) Q (WE W σ) hr gd I.env0 (hb s us I.kIn hu) (r.append rw_) hl h) fun z s' hq => ?_)
  cases z with
  | error e => exact passAt tk σ pins H s e s' I hq
  | ok fl =>
    cases fl with
    | ret u => exact I.after hq
    | next => exact hq.elim
    | brk => exact hq.elim
    | cont => exact hq.elim
theorem rep_ints {K : PySem.W.Frag} {Z : Hp} : ∀ ns : List Int, RepL K J Z (ns.map V.int) (ns.map .int)
  | [] => .nil
  | n :: ns => .cons (.int n) (rep_ints ns)
include G hC
theorem s_calld {f : Nat} {as : Exs} {ns : List Int} {x : Str} {e : Expr} {es : List Expr} {p pos : Pos} {fp : Str × List Str} (tk : Takes X W) (hf : cf.fns[f]? = some fp) (hx : fp.1 = x) (hd : ns = cf.dfl.getD f []) (h0 : ns ≠ []) (hn : fp.2.length = exsLen as + ns.length) (hg : glB S x = true) (ok : okName x = true)
    (hs : notStar e = true) (hss : es.all notStar = true) (ha : PA X (e :: es) (lEs X.K J XR C W as)) : PE X (.Call (.Name x p) (e :: es) [] pos) (lE X.K J XR C W (.calld f as ns)) := by
  obtain ⟨a, fd, mg, kp, _, F, _, hb⟩ := (G.fns f fp hf).ex
  subst hx hd
  obtain ⟨us0, r0, hb⟩ := hb h0
  refine ⟨fun pins s σ H Q I ⟨F0, Z, r, Y, R, hx, h⟩ => ?_⟩
  unfold exW at h
  have l : lEs X.K J XR C W as σ H fun vs H1 => vs.length = exsLen as ∧ spOf X.K J XR C f (vs ++ (cf.dfl.getD f []).map V.int) H1 Q (WE W σ) := by
    refine use_Es hC R hx (exsW_len hC h) fun ds r3 h3 vs H3 Z3 s3 R3 hds => ?_
    obtain ⟨h4, h3⟩ := h3
    refine ⟨by rw [hds.length, h4], Z3, _, r3.g, R3.inn, hds.append (rep_ints _), hC f _ _ _ _ _ _ (fun d g' hd v H' Z' o rv => ?_) (fun e g' he cls dd H' Z' o xr => ?_) h3⟩
    · exact hd v H' Z' (s3.trans o.same) (R3.out o) rv
    · exact hx e (r3.at g') he H' Z' cls dd (s3.trans o.same) (R3.out o) xr
  refine wpAny_Call_Name_kw (ld_glob I (G.gl hg) mg ?_ (okName_of G ok).1)
  refine PySem.W.callWith_K (h₀ := X.base) I.ok.mod.kin kp (thn (ha.run pos pins s σ H _ I l) fun us s1 hh => ?_) (star_of hs) (back_any (star_any hss))
  obtain ⟨vs, H1, I1, rv, hl, q⟩ := hh
  exact ⟨I1.kIn, run_GD F G.room G.gd hb tk I1 rv r0 (by rw [List.length_append, List.length_map, hl, hn]) q⟩
theorem s_call {f : Nat} {as : Exs} {x : Str} {e : Expr} {es : List Expr} {p pos : Pos} {fp : Str × List Str} (tk : Takes X W) (hf : cf.fns[f]? = some fp) (hx : fp.1 = x) (hn : fp.2.length = exsLen as) (hg : glB S x = true) (ok : okName x = true)
    (hs : notStar e = true) (hss : es.all notStar = true) (ha : PA X (e :: es) (lEs X.K J XR C W as)) : PE X (.Call (.Name x p) (e :: es) [] pos) (lE X.K J XR C W (.call f as)) := by
  obtain ⟨a, fd, mg, kp, hb, F, _⟩ := (G.fns f fp hf).ex
  subst hx
  refine ⟨fun pins s σ H Q I ⟨F0, Z, r, Y, R, hx, h⟩ => ?_⟩
  unfold exW at h
  have l : lEs X.K J XR C W as σ H fun vs H1 => vs.length = fp.2.length ∧ spOf X.K J XR C f vs H1 Q (WE W σ) := by
    refine use_Es hC R hx (exsW_len hC h) fun ds r3 h3 vs H3 Z3 s3 R3 hds => ?_
    obtain ⟨h4, h3⟩ := h3
    refine ⟨by rw [hds.length, h4, hn], Z3, ds, r3.g, R3.inn, hds, hC f ds _ _ _ _ _ (fun d g' hd v H' Z' o rv => ?_) (fun e g' he cls dd H' Z' o xr => ?_) h3⟩
    · exact hd v H' Z' (s3.trans o.same) (R3.out o) rv
    · exact hx e (r3.at g') he H' Z' cls dd (s3.trans o.same) (R3.out o) xr
  refine wpAny_Call_Name_kw (ld_glob I (G.gl hg) mg ?_ (okName_of G ok).1)
  refine PySem.W.callWith_K (h₀ := X.base) I.ok.mod.kin kp (thn (ha.run pos pins s σ H _ I l) fun us s1 hh => ?_) (star_of hs) (back_any (star_any hss))
  obtain ⟨vs, H1, I1, rv, hl, q⟩ := hh
  exact ⟨I1.kIn, run_G F G.room G.gd hb tk I1 rv hl q⟩
omit hC in
theorem isi_ok : X.A.units + 100 < cLine := by have := G.room.un; omega
omit G hC in
def tyN : D → String
  | .none => "NoneType" | .bool _ => "bool" | .int _ => "int" | .str _ => "str" | .list _ => "list" | .tuple _ => "tuple" | .dict _ => "dict"
def isiT : BI → String
  | .isTuple => "tuple" | .isInt => "int" | .isBool => "bool" | .isStr => "str" | _ => "list"
def isT (k : BI) (t : String) : Bool := (t == isiT k) || (t == "bool" && isiT k == "int")
omit G hC in
theorem kit_all : ∀ k ∈ [BI.isTuple, .isInt, .isBool, .isStr, .isList], ∀ t ∈ ["NoneType", "bool", "int", "str", "list", "tuple", "dict"], kitB t (isiT k) = some (isT k t) := by
  intro k hk t ht
  simp only [List.mem_cons, List.not_mem_nil, or_false] at hk ht
  rcases hk with rfl | rfl | rfl | rfl | rfl <;> rcases ht with rfl | rfl | rfl | rfl | rfl | rfl | rfl <;> decide +kernel
omit G hC in
theorem isT_D {k : BI} (hk : k ∈ [BI.isTuple, .isInt, .isBool, .isStr, .isList]) : ∀ d : D, isT k (tyN d) = isD k d := by
  intro d
  simp only [List.mem_cons, List.not_mem_nil, or_false] at hk
  rcases hk with rfl | rfl | rfl | rfl | rfl <;> cases d <;> (unfold isT tyN isiT isD; rfl)
omit G hC in
theorem rep_ty {K : PySem.W.Frag} {H Z : Hp} {v : V} {d : D} (sz : Same Z H) (h : RepS K J H Z v d) (n : ND d) : TyX K H v (.type (tyN d)) ∧ tyN d ∈ ["NoneType", "bool", "int", "str", "list", "tuple", "dict"] := by
  cases d with
  | none => cases rep_none h; exact ⟨.base .non, by simp [tyN]⟩
  | bool b => cases rep_bool h; exact ⟨.base (.bl b), by simp [tyN]⟩
  | int b => cases rep_int h; exact ⟨.base (.int b), by simp [tyN]⟩
  | str b => cases rep_str h; exact ⟨.base (.str b), by simp [tyN]⟩
  | list ds =>
    obtain ⟨a, vs, rfl, e, _⟩ := h
    exact ⟨.base (.lst e), by simp [tyN]⟩
  | tuple ds =>
    obtain ⟨a, vs, rfl, e, _⟩ := rep_tup h
    refine ⟨?_, by simp [tyN]⟩
    rcases sqT_mono sz e with (e | ⟨o, e⟩) | ⟨o, its, n, ek, ec, _⟩
    · exact .base (.tup e)
    · exact .fTuple e
    · exact .kTuple ek ec
  | dict kvs =>
    rcases n with n | n
    · simp [PyData.hasDict] at n
    · cases n
      cases (show Rep K J Z v (.dict []) from h) with
      | dct h2 => exact ⟨.base (.dK (sz _ _ h2)), by simp [tyN]⟩
omit G hC in
theorem isi_mem {k : BI} (h : isIsi k = true) : k ∈ [BI.isTuple, .isInt, .isBool, .isStr, .isList] := by
  cases k <;> first | (exact absurd (show false = true from h) Bool.false_ne_true) | simp
theorem s_isi {k : BI} {a : Ex} {x t : Str} {e : Expr} {p p2 pos : Pos} (nk : isIsi k = true) (hx : x = ("isinstance" : Str)) (ht : t = isiName k) (hf : cf.free.contains x = true) (hg : glB S x = true) (hb : bltB cf S t t = true) (hs : notStar e = true)
    (ha : PE X e (lE X.K J XR C W a)) : PE X (.Call (.Name x p) [e, .Name t p2] [] pos) (lE X.K J XR C W (.bi k (.cons a .nil))) := by
  unfold bltB at hb
  obtain ⟨_, hb⟩ := and2 hb
  obtain ⟨h1, h2⟩ := and2 hb
  have hm := isi_mem nk
  have pt : PE X (.Name t p2) (tC (.ty (isiT k))) := by
    have mg := G.facts.free t h1
    have gl := G.gl h2
    subst ht
    simp only [List.mem_cons, List.not_mem_nil, or_false] at hm
    rcases hm with rfl | rfl | rfl | rfl | rfl <;> exact pe_bltn gl mg (by decide +kernel) rfl (by decide +kernel) (by decide +kernel)
  have pa : PA X [e, .Name t p2] (tCons (lE X.K J XR C W a) (tCons (tC (.ty (isiT k))) tNil)) := pa_cons ha (pa_cons pt pa_nil) (star_of hs)
  have mg := G.facts.free x hf
  have gl := G.gl hg
  subst hx
  refine (pe_callB call_isi gl mg (by decide +kernel) pa (by decide +kernel) (by decide +kernel) (star_of hs) rfl).imp fun pins s σ H Q I ⟨F, Z, r, Y, R, hx, h⟩ => ?_
  unfold exW argsW at h
  refine use_pin hC R hx h fun x r1 h1 v H1 Z1 s1 R1 p1 => ?_
  unfold argsW at h1
  obtain ⟨d, hd, h4⟩ := R1.der p1 h1
  have h5 : ND d ∧ (fun z => ∀ v H' Z', Same Z Z' → Rel X.K J F σ H' Z' r1 → RepR X.K J F σ H' Z' r1 z v → Q v H') (.val (.bool (isD k d))) := by
    simp only [List.mem_cons, List.not_mem_nil, or_false] at hm
    unfold biW at h4
    rcases hm with rfl | rfl | rfl | rfl | rfl <;> exact h4
  obtain ⟨h6, h7⟩ := h5
  obtain ⟨ty, tm⟩ := rep_ty R1.sub hd h6
  refine ⟨v, .ty (isiT k), _, _, isD k d, rfl, .ty _, ty, ?_, h7 _ H1 Z1 s1 R1 (.bl _)⟩
  rw [← isT_D hm d]
  exact kit_ty (kit_all k hm _ tm)
/-- a method of a list that a slot owns -/
theorem pop_tree {i : Nat} {x : Str} {ap pos p : Pos} (h1 : X.N[i]? = some x) (h2 : visB S x = true) (h3 : okName x = true) (hl : (ap.endLine == pos.line) = true) : PE X (.Call (.Attribute (.Name x p) "pop" ap) [] [] pos) (lE X.K J XR C W (.pop i)) := by
  obtain ⟨d1, d2⟩ := okName_of G h3
  refine (pe_bm0 PySem.F.plainAttrs_list PySem.F.slot_list_pop PySem.F.type_list_pop mt_pop (pe_var h1 (G.vis h2) d1 d2) rfl hl).imp fun pins s σ H Q I ⟨F, Z, r, Y, R, hx, h⟩ => ?_
  unfold exW at h
  split at h
  · rename_i ds e
    split at h
    · rename_i d e2
      obtain ⟨a, vs, e1, e3, e4, e5, e6⟩ := R.ow i ds e
      have e7 : ds[ds.length - 1]? = some d := by rw [← List.getLast?_eq_getElem?]; exact e2
      obtain ⟨y, e8, e9⟩ := e5.get e7
      refine ⟨_, e1, .inl ⟨rfl, _, .of e3⟩, a, vs, y, rfl, rfl, e3, by rw [e5.length]; exact e8, ?_⟩
      refine h y _ Z (.refl _) (R.mut e e1 (by rw [List.length_dropLast]; omega) ?_) e9
      rw [List.dropLast_eq_take, List.dropLast_eq_take, e5.length]
      exact e5.take _
    · exact h.elim
  · exact h.elim
theorem popA_tree {i : Nat} {n : Int} {x : Str} {ap pos p pk : Pos} {kk : Nat} (h1 : X.N[i]? = some x) (h2 : visB S x = true) (h3 : okName x = true) (hl : (ap.endLine == pos.line) = true) : PE X (.Call (.Attribute (.Name x p) "pop" ap) [.Constant (.int n) kk pk] [] pos) (lE X.K J XR C W (.popA i n)) := by
  obtain ⟨d1, d2⟩ := okName_of G h3
  refine (pe_bm PySem.F.plainAttrs_list PySem.F.slot_list_pop PySem.F.type_list_pop mt_popAt (pe_var h1 (G.vis h2) d1 d2) (pa_cons pe_int pa_nil) rfl rfl hl).imp fun pins s σ H Q I ⟨F, Z, r, Y, R, hx, h⟩ => ?_
  unfold exW at h
  split at h
  · rename_i ds e
    split at h
    · rename_i j e2
      obtain ⟨a, vs, e1, e3, e4, e5, e6⟩ := R.ow i ds e
      obtain ⟨g1, g2, g3, g4⟩ := ixN_seq e2
      have e7 : ds[j]? = some (ds.getD j .none) := by rw [List.getD_eq_getElem?_getD, List.getElem?_eq_getElem g2]; rfl
      obtain ⟨y, e8, e9⟩ := e5.get e7
      refine ⟨_, e1, .inl ⟨rfl, _, .of e3⟩, a, vs, n, j, y, rfl, rfl, e3, h.1.1, h.1.2, by rw [e5.length]; exact g1, e8, ?_⟩
      exact h.2 y _ Z (.refl _) (R.mut e e1 (Nat.le_trans (len_erase _ _) e4) (e5.eraseIdx j)) e9
    · exact h.elim
  · exact h.elim
end
end G

set_option linter.all false
set_option maxRecDepth 100000
set_option Elab.async false
/-! Si: comprehensions. -/
namespace G
open PySem PySem.Spec PyProof.Rows L2

theorem wipe_at : ∀ (vs : List Nat) (σ : L2.St) (j : Nat), (L2.wipe σ vs)[j]? = if j ∈ vs ∧ j < σ.length then some none else σ[j]?
  | [], σ, j => by rw [if_neg (fun h => nomatch h.1)]; rfl
  | v :: vs, σ, j => by
    show ((L2.wipe σ vs).set v none)[j]? = _
    rw [List.getElem?_set, L2.wipe_length, wipe_at vs σ j]
    by_cases hv : v = j
    · subst hv
      by_cases hl : v < σ.length
      · rw [if_pos rfl, if_pos hl, if_pos ⟨List.mem_cons_self, hl⟩]
      · rw [if_pos rfl, if_neg hl, if_neg (fun h => hl h.2), List.getElem?_eq_none (Nat.le_of_not_lt hl)]
    · rw [if_neg hv]
      by_cases hj : j ∈ vs ∧ j < σ.length
      · rw [if_pos hj, if_pos ⟨List.mem_cons_of_mem _ hj.1, hj.2⟩]
      · rw [if_neg hj, if_neg]
        rintro ⟨h1, h2⟩
        rcases List.mem_cons.mp h1 with e | e
        · exact hv e.symm
        · exact hj ⟨e, h2⟩
theorem wipe_agr {vs : List Nat} {p : Nat → Bool} {σ σ2 : L2.St} (hp : ∀ j, p j = true → j ∈ vs) (a : Agr p (L2.wipe σ vs) σ2) : L2.wipe σ2 vs = L2.wipe σ vs := by
  have hl : σ2.length = σ.length := by rw [a.1, L2.wipe_length]
  apply List.ext_getElem?
  intro j
  rw [wipe_at, wipe_at, hl]
  by_cases hj : j ∈ vs ∧ j < σ.length
  · rw [if_pos hj, if_pos hj]
  · rw [if_neg hj, if_neg hj]
    by_cases h1 : j < σ.length
    · have h2 : p j = false := by
        cases q : p j with
        | false => rfl
        | true => exact absurd ⟨hp j q, h1⟩ hj
      rw [a.2 j h2, wipe_at, if_neg hj]
    · rw [List.getElem?_eq_none (by omega), List.getElem?_eq_none (by omega)]
theorem wipeE_len : ∀ (own : List (Str × Nat)) (r : En), (wipe own r).length = r.length
  | [], r => rfl
  | (_, i) :: o, r => by unfold wipe; rw [En.length_set, wipeE_len o r]
theorem rd_wipe : ∀ (own : List (Str × Nat)) (r : En) (j : Nat), rd (wipe own r) j = if j ∈ own.map (·.2) then (if j < r.length then .un else rd r j) else rd r j
  | [], r, j => by rw [if_neg (by simp)]; rfl
  | (x, i) :: o, r, j => by
    unfold wipe
    rw [rd_set, wipeE_len, rd_wipe o r j, List.map_cons]
    by_cases h : i = j
    · subst h
      by_cases hl : i < r.length
      · rw [if_pos ⟨rfl, hl⟩, if_pos List.mem_cons_self, if_pos hl]
      · rw [if_neg (fun q => hl q.2), if_pos List.mem_cons_self, if_neg hl]
        split <;> rfl
    · rw [if_neg (fun q => h q.1)]
      by_cases hm : j ∈ o.map (·.2)
      · rw [if_pos hm, if_pos (List.mem_cons_of_mem _ hm)]
      · rw [if_neg hm, if_neg]
        intro q
        rcases List.mem_cons.mp q with e | e
        · exact h e.symm
        · exact hm e
theorem rd_un {r : En} {j : Nat} (h : ¬ j < r.length) : rd r j = .un := by
  unfold En.length at h
  unfold rd
  rw [List.getD_eq_getElem?_getD, List.getElem?_eq_none (by omega)]
  rfl
theorem wipe_g : ∀ (own : List (Str × Nat)) (r : En), (wipe own r).g = r.g
  | [], r => rfl
  | (_, i) :: o, r => wipe_g o r
theorem unwipe_g : ∀ (own : List (Str × Nat)) (r0 r : En), (unwipe own r0 r).g = r.g
  | [], _, r => rfl
  | (_, i) :: o, r0, r => unwipe_g o r0 r
theorem rd_wipe' (own : List (Str × Nat)) (r : En) (j : Nat) : rd (wipe own r) j = if j ∈ own.map (·.2) then .un else rd r j := by
  rw [rd_wipe]
  by_cases h : j ∈ own.map (·.2)
  · rw [if_pos h, if_pos h]
    by_cases hl : j < r.length
    · rw [if_pos hl]
    · rw [if_neg hl, rd_un hl]
  · rw [if_neg h, if_neg h]
theorem unwipe_len : ∀ (own : List (Str × Nat)) (r0 r : En), (unwipe own r0 r).length = r.length
  | [], _, r => rfl
  | (_, i) :: o, r0, r => by unfold unwipe; rw [En.length_set, unwipe_len o r0 r]
theorem rd_unwipe : ∀ (own : List (Str × Nat)) (r0 r : En) (j : Nat), r0.length = r.length → rd (unwipe own r0 r) j = if j ∈ own.map (·.2) then rd r0 j else rd r j
  | [], r0, r, j, _ => by rw [if_neg (by simp)]; rfl
  | (x, i) :: o, r0, r, j, hl => by
    unfold unwipe
    rw [rd_set, unwipe_len, rd_unwipe o r0 r j hl, List.map_cons]
    by_cases h : i = j
    · subst h
      rw [if_pos (show i ∈ i :: o.map (·.2) from List.mem_cons_self)]
      by_cases hl' : i < r.length
      · rw [if_pos ⟨rfl, hl'⟩]
      · rw [if_neg (fun q => hl' q.2), rd_un (r := r) hl', rd_un (r := r0) (by omega)]
        split <;> rfl
    · rw [if_neg (fun q => h q.1)]
      by_cases hm : j ∈ o.map (·.2)
      · rw [if_pos hm, if_pos (List.mem_cons_of_mem _ hm)]
      · rw [if_neg hm, if_neg]
        intro q
        rcases List.mem_cons.mp q with e | e
        · exact h e.symm
        · exact hm e
theorem noOw_both : ∀ {own : List (Str × Nat)} {r : En}, noOw own r = true → ∀ j ∈ own.map (·.2), (∀ ds, rd r j ≠ .ow ds) ∧ ∀ k, rd r j ≠ .al k
  | [], _, _, j, hj => by simp at hj
  | (x, i) :: o, r, h, j, hj => by
    unfold noOw at h
    obtain ⟨h1, h2⟩ := and2 h
    rcases List.mem_cons.mp hj with e | e
    · have e' : j = i := e
      subst e'
      exact ⟨fun ds q => (by rw [q] at h1; cases h1), fun ds q => (by rw [q] at h1; cases h1)⟩
    · exact noOw_both h2 j e
theorem noOw_at {own : List (Str × Nat)} {r : En} (h : noOw own r = true) (j : Nat) (hj : j ∈ own.map (·.2)) (ds : List D) : rd r j ≠ .ow ds := (noOw_both h j hj).1 ds
theorem noAl_at {own : List (Str × Nat)} {r : En} (h : noOw own r = true) (j : Nat) (hj : j ∈ own.map (·.2)) (k : Sum Int Str) : rd r j ≠ .al k := (noOw_both h j hj).2 k
mutual
theorem inOwn_has {own : List (Str × Nat)} : ∀ {t : Tg}, inOwn own t = true → ∀ j, tgHas t j = true → j ∈ own.map (·.2)
  | .v i, h, j, hj => by
    unfold inOwn at h
    unfold tgHas at hj
    obtain ⟨p, hp, e⟩ := List.any_eq_true.mp h
    have e1 := beq_iff_eq.mp e
    have e2 := beq_iff_eq.mp hj
    exact List.mem_map.mpr ⟨p, hp, e1.trans e2⟩
  | .t ts, h, j, hj => by
    unfold inOwn at h
    unfold tgHas at hj
    exact insOwn_has h j hj
theorem insOwn_has {own : List (Str × Nat)} : ∀ {t : Tgs}, insOwn own t = true → ∀ j, tgsHas t j = true → j ∈ own.map (·.2)
  | .nil, h, j, hj => by unfold tgsHas at hj; cases hj
  | .cons t ts, h, j, hj => by
    unfold insOwn at h
    unfold tgsHas at hj
    obtain ⟨h1, h2⟩ := and2 h
    rcases Bool.or_eq_true_iff.mp hj with q | q
    · exact inOwn_has h1 j q
    · exact insOwn_has h2 j q
end
section
variable {K : PySem.W.Frag} {J : Jar} {F : Fm} {σ : L2.St} {H Z : Hp} {r : En} {own : List (Str × Nat)}
theorem Rel.wipe (R : Rel K J F σ H Z r) : Rel K J F (L2.wipe σ (own.map (·.2))) H Z (wipe own r) := by
  have out : ∀ {j : Nat} {s : Slot}, rd (G.wipe own r) j = s → s ≠ .un → j ∉ own.map (·.2) ∧ rd r j = s := fun {j s} e n => by
    rw [rd_wipe'] at e
    by_cases h : j ∈ own.map (·.2)
    · rw [if_pos h] at e; exact absurd e.symm n
    · rw [if_neg h] at e; exact ⟨h, e⟩
  have at_ : ∀ {j : Nat}, j ∉ own.map (·.2) → (L2.wipe σ (own.map (·.2)))[j]? = σ[j]? := fun {j} h => by rw [wipe_at, if_neg fun q => h q.1]
  refine ⟨R.sub, R.frame, by rw [wipe_g]; exact R.jar, R.jz, by rw [L2.wipe_length, wipeE_len]; exact R.len, fun i d e => ?_, fun i ds e => ?_, fun i j ds es a e e2 h1 h2 => ?_, R.zs, R.zo, R.ng, R.gf, fun i k e => ?_⟩
  · obtain ⟨h, e⟩ := out e (fun z => by cases z)
    rw [at_ h]
    exact R.fz i d e
  · obtain ⟨h, e⟩ := out e (fun z => by cases z)
    rw [at_ h]
    exact R.ow i ds e
  · obtain ⟨h, e⟩ := out e (fun z => by cases z)
    obtain ⟨h', e2⟩ := out e2 (fun z => by cases z)
    rw [at_ h] at h1
    rw [at_ h'] at h2
    exact R.sep i j ds es a e e2 h1 h2
  · obtain ⟨h, e⟩ := out e (fun z => by cases z)
    rw [at_ h]
    exact R.al i k e
theorem not_wiped (hs : ∀ i es, rd r i = .ow es → σ[i]? ≠ some (some (.ref a))) : ∀ i es, rd (wipe own r) i = .ow es → (L2.wipe σ (own.map (·.2)))[i]? ≠ some (some (.ref a)) := fun i es e => by
  rw [rd_wipe'] at e
  by_cases h : i ∈ own.map (·.2)
  · rw [if_pos h] at e; cases e
  · rw [if_neg h] at e
    rw [wipe_at, if_neg fun q => h q.1]
    exact hs i es e
theorem Rel.unwipe {r1 : En} {H1 Z1 : Hp} (R1 : Rel K J F σ H1 Z1 r1) (n : noOw own r1 = true) (s : Same Z1 Z) (R : Rel K J F (L2.wipe σ (own.map (·.2))) H Z r) : Rel K J F σ H Z (unwipe own r1 r) := by
  have hl : r1.length = r.length := by rw [← R1.len, ← R.len, L2.wipe_length]
  have at_ : ∀ {j : Nat}, j ∉ own.map (·.2) → (L2.wipe σ (own.map (·.2)))[j]? = σ[j]? := fun {j} h => by rw [wipe_at, if_neg fun q => h q.1]
  have ow_ : ∀ {j : Nat} {ds : List D}, rd (G.unwipe own r1 r) j = .ow ds → j ∉ own.map (·.2) ∧ rd r j = .ow ds := fun {j ds} e => by
    rw [rd_unwipe own r1 r j hl] at e
    by_cases h : j ∈ own.map (·.2)
    · rw [if_pos h] at e; exact absurd e (noOw_at n j h ds)
    · rw [if_neg h] at e; exact ⟨h, e⟩
  refine ⟨R.sub, R.frame, by rw [unwipe_g]; exact R.jar, R.jz, by rw [unwipe_len, ← hl]; exact R1.len, fun i d e => ?_, fun i ds e => ?_, fun i j ds es a e e2 h1 h2 => ?_, R.zs, R.zo, R.ng, R.gf, fun i k e => ?_⟩
  · rw [rd_unwipe own r1 r i hl] at e
    by_cases h : i ∈ own.map (·.2)
    · rw [if_pos h] at e
      obtain ⟨v, e1, e2⟩ := R1.fz i d e
      exact ⟨v, e1, e2.mono s⟩
    · rw [if_neg h] at e
      rw [← at_ h]
      exact R.fz i d e
  · obtain ⟨h, e⟩ := ow_ e
    rw [← at_ h]
    exact R.ow i ds e
  · obtain ⟨h, e⟩ := ow_ e
    obtain ⟨h', e2⟩ := ow_ e2
    rw [← at_ h] at h1
    rw [← at_ h'] at h2
    exact R.sep i j ds es a e e2 h1 h2
  · rw [rd_unwipe own r1 r i hl] at e
    by_cases h : i ∈ own.map (·.2)
    · rw [if_pos h] at e
      exact absurd e (noAl_at n i h k)
    · rw [if_neg h] at e
      rw [← at_ h]
      exact R.al i k e
end
def noW : WX := fun _ _ _ _ => False
section
variable {cf : Cfg} {J : Jar} {XR : XRT} {C : Calls} {lv : Nat} {X : Cx} {S : Sc} {W : WX} (G : Good cf J XR C lv X S) (hC : CMono C)
include hC
theorem use_W {K : PySem.W.Frag} {F : Fm} {σ : L2.St} {H Z : Hp} {r : En} {Y : XW} {c : It} {Q : L2.It → Hp → Prop} {k : List D → En → Prop} (R : Rel K J F σ H Z r) (hx : XC K J XR F σ Z W Y) (h : itW C c r k Y)
    (hk : ∀ ds r1, k ds r1 → ∀ Jt H1 Z1, Same Z Z1 → Rel K J F σ H1 Z1 r1 → Wk K J Z1 ds Jt → ds.length ≤ sizeLine → Q Jt H1) : lW K J XR C W c σ H Q :=
  ⟨F, Z, r, Y, R, hx, itW_mono hC c hk (fun _ _ q => q) h⟩
include G
theorem s_comp {e : Ex} {t : Tg} {w : It} {c : Ts} {own : List (Str × Nat)} {elt tg iter : Expr} {ifs : List Expr} {scope : Scope} {pos : Pos} (ok : BlkOk X.N X.env.scope scope own) (ho : inOwn own t = true) (ns : notSet iter = true)
    (hi : PI X tg iter (lW X.K J XR C W w))
    (hg : ∀ (s : Shared) (H : Hp) (D : Addr) (cl : List (Str × Addr)) (fp : List Addr), PG (X.blk s H scope (compEnvC scope cl D X.env) fp) tg (lG X.K J t))
    (ht : ∀ (s : Shared) (H : Hp) (D : Addr) (cl : List (Str × Addr)) (fp : List Addr), PTs (X.blk s H scope (compEnvC scope cl D X.env) fp) ifs (lT X.K J XR C noW c))
    (he : ∀ (s : Shared) (H : Hp) (D : Addr) (cl : List (Str × Addr)) (fp : List Addr), PE (X.blk s H scope (compEnvC scope cl D X.env) fp) elt (lE X.K J XR C noW e)) :
    (∀ pins s σ H Q, Inv X pins σ H s → lE X.K J XR C W (.comp e t w c own) σ H Q → tLc (lW X.K J XR C W w) (lG X.K J t) (lT X.K J XR C noW c) (lE X.K J XR C noW e) (own.map (·.2)) σ H Q) ∧
    PE X (.ListComp elt [⟨tg, iter, ifs, 0⟩] scope pos) (lE X.K J XR C W (.comp e t w c own)) := by
  have key : ∀ pins s σ H Q, Inv X pins σ H s → lE X.K J XR C W (.comp e t w c own) σ H Q → tLc (lW X.K J XR C W w) (lG X.K J t) (lT X.K J XR C noW c) (lE X.K J XR C noW e) (own.map (·.2)) σ H Q := by
    intro pins s σ H Q I ⟨F, Z, r, Y, R, hx, h⟩
    unfold exW at h
    refine use_W hC R hx h fun ds r1 h1 Jt H1 Z1 s1 R1 wk hl => ?_
    obtain ⟨no, h1⟩ := h1
    intro L hL
    obtain ⟨lz, lf, lj, lo⟩ := R1.fresh hL
    refine ⟨fun i m H' => ∃ Z' r' acc av, Same Z1 Z' ∧ Rel X.K J (F.add L (.lst av)) (L2.wipe σ (own.map (·.2))) H' Z' r' ∧ i + m = ds.length ∧ RepL X.K J Z' av acc ∧ acc.length ≤ i ∧
      turns (fun d r2 k => tgW t d r2 fun r3 => tsW C c r3 (fun b r4 => if b = true then exW C e r4 (fun x r5 => frz r5 x fun y r6 => k (some y) (wipe own r6)) noX else k none (wipe own r4)) noX) (ds.drop i) acc r'
        (fun ys r7 => ∀ v H' Z', Same Z Z' → Rel X.K J F σ H' Z' (unwipe own r1 r7) → RepR X.K J F σ H' Z' (unwipe own r1 r7) (.new ys) v → Q v H'), ⟨ds.length, ?_⟩, fun i m H' w' => ?_⟩
    · refine ⟨Z1, wipe own r1, [], [], .refl _, ?_, by omega, .nil, Nat.le_refl _, h1⟩
      exact (R1.grow hL).wipe.guard upd_same lz (not_wiped lo)
    · obtain ⟨Z', r', acc, av, sz, RR, em, ra, la, tu⟩ := w'
      by_cases hi : i < ds.length
      · have e1 : ds[i]? = some ds[i] := List.getElem?_eq_getElem hi
        have e2 : ds.drop i = ds[i] :: ds.drop (i + 1) := List.drop_eq_getElem_cons hi
        rw [e2] at tu
        unfold turns at tu
        obtain ⟨go, yl⟩ := (wk i H' (sz.trans RR.sub)).1 _ e1
        refine .inr ⟨go, fun H2 => ∃ Z' r' acc av, Same Z1 Z' ∧ Rel X.K J (F.add L (.lst av)) (L2.wipe σ (own.map (·.2))) H2 Z' r' ∧ RepL X.K J Z' av acc ∧ acc.length ≤ i + 1 ∧
          turns (fun d r2 k => tgW t d r2 fun r3 => tsW C c r3 (fun b r4 => if b = true then exW C e r4 (fun x r5 => frz r5 x fun y r6 => k (some y) (wipe own r6)) noX else k none (wipe own r4)) noX) (ds.drop (i + 1)) acc r'
            (fun ys r7 => ∀ v H' Z', Same Z Z' → Rel X.K J F σ H' Z' (unwipe own r1 r7) → RepR X.K J F σ H' Z' (unwipe own r1 r7) (.new ys) v → Q v H'),
          fun H2 ⟨Z2, r2, ac2, av2, q1, q2, q3, q4, q5⟩ => ⟨m - 1, by omega, Z2, r2, ac2, av2, q1, q2, by omega, q3, q4, q5⟩, fun x H2 y => ?_⟩
        have res := yl x H2 y
        have res' : Res X.K J H' Z' (.val ds[i]) x H2 := by
          rcases res with ⟨p1, p2⟩ | ⟨p, vs, es, p1, p2, p3, p4, p5, p6⟩
          · exact .inl ⟨p1, p2.mono sz⟩
          · exact .inr ⟨p, vs, es, p1, p2, p3, p4, p5.mono sz, p6⟩
        obtain ⟨Z2, s2, R2, hd⟩ := RR.res res'
        refine ⟨F.add L (.lst av), Z2, r', ds[i], R2, hd, tgW_mono t (fun r3 q3 σ2 R3 ag => ?_) tu⟩
        have we : L2.wipe σ2 (own.map (·.2)) = L2.wipe σ (own.map (·.2)) := wipe_agr (inOwn_has ho) ag
        refine ⟨we, use_T hC R3 XC.no q3 fun b r4 q4 H4 Z4 s4 R4 => ?_⟩
        by_cases hb : b = true
        · rw [if_pos hb] at q4 ⊢
          refine use_E hC R4 XC.no q4 fun xx r5 q5 v H5 Z5 s5 R5 p5 => ?_
          obtain ⟨d6, r6, Z6, s6, R6, hd6, q6⟩ := R5.frz p5 q5
          obtain ⟨R7, hD7, hz7, hs7⟩ := R6.unguard lf lj R.nog
          have sA : Same Z' Z6 := ((s2.trans s4).trans s5).trans s6
          have hav : av.length < sizeLine := by rw [ra.length]; omega
          refine ⟨av, hD7, hav, Z6, wipe own r6, acc ++ [d6], av ++ [v], sz.trans sA, ?_, (ra.mono sA).append (.cons hd6 .nil), by rw [List.length_append]; simp; omega, q6⟩
          have R8 := (R7.put (o := .lst (av ++ [v])) lf lj hz7 hs7).wipe (own := own)
          rw [we] at R8
          refine R8.guard upd_same hz7 ?_
          rw [← we]
          exact not_wiped hs7
        · rw [if_neg hb] at q4 ⊢
          obtain ⟨R7, hD7, hz7, hs7⟩ := R4.unguard lf lj R.nog
          have sA : Same Z' Z4 := s2.trans s4
          refine ⟨Z4, wipe own r4, acc, av, sz.trans sA, ?_, ra.mono sA, by omega, q4⟩
          have R8 := R7.wipe (own := own)
          rw [we] at R8
          refine R8.guard hD7 hz7 ?_
          rw [← we]
          exact not_wiped hs7
      · refine .inl ⟨(wk i H' (sz.trans RR.sub)).2 (by omega), ?_⟩
        rw [List.drop_eq_nil_of_le (by omega)] at tu
        unfold turns at tu
        obtain ⟨R7, hD7, hz7, hs7⟩ := RR.unguard lf lj R.nog
        refine tu _ H' Z' (s1.trans sz) (R1.unwipe no sz R7) ⟨L, av, rfl, hD7, by rw [ra.length]; omega, ra, hz7, lf, lj, fun j es ej => ?_⟩
        rw [rd_unwipe own r1 r' j (by rw [← R1.len, ← R7.len, L2.wipe_length])] at ej
        by_cases hm : j ∈ own.map (·.2)
        · rw [if_pos hm] at ej; exact absurd ej (noOw_at no j hm es)
        · rw [if_neg hm] at ej
          have := hs7 j es ej
          rwa [wipe_at, if_neg fun q => hm q.1] at this
  exact ⟨key, (pe_lc G.calm G.nd hi ok hg ht he (by intro x; cases iter <;> first | rfl | cases ns)).imp key⟩
end
end G

set_option linter.all false
set_option maxRecDepth 100000
set_option Elab.async false
/-! Sj: what loops and comprehensions walk. -/
namespace G
open PySem PySem.Spec PyProof.Rows L2

theorem _root_.L2.PI.imp {X : Cx} {tg e : Expr} {t t' : TI} (h : PI X tg e t) (hi : ∀ pins s σ H Q, Inv X pins σ H s → t' σ H Q → t σ H Q) : PI X tg e t' := ⟨fun pins s σ H Q I q => h.run pins s σ H Q I (hi pins s σ H Q I q)⟩
/-- a list or a tuple, walked -/
def iSeq (K : PySem.W.Frag) (tl : TE) : TI := fun σ H R => tl σ H fun x H1 => ∃ a, x = .ref a ∧ ((∃ xs, SqL K H1 a xs ∧ R (Itl K a) H1) ∨ ∃ xs, SqT K H1 a xs ∧ (xs.length ≤ sizeLine → R (Itt K a) H1))
theorem pi_seq {X : Cx} {tg el : Expr} {tl : TE} (hl : PE X el tl) : PI X tg el (iSeq X.K tl) := by
  constructor
  intro ps s0 σ0 H0 R0 J0 hw
  refine thn (hl.run ps s0 σ0 H0 _ J0 hw) fun v0 s2 ⟨x0, H2, J2, rel, qq⟩ => ?_
  obtain ⟨a, rfl, hq | hq⟩ := qq
  · obtain ⟨xs, hq, q⟩ := hq
    cases rel
    obtain ⟨its, rv, pp, hz⟩ := J2.list hq
    exact wpAny_pyIter_list pp.isList (pi_one J2 _ (turn_list a _) ⟨_, Heap.get?_push_size _ rfl, rfl, rfl⟩ q)
  · obtain ⟨xs, hq, q⟩ := hq
    cases rel
    obtain ⟨its, rv, pp, hz⟩ := J2.tuple hq
    exact wpAny_pyIter_tuple (show s2.heap.IsTuple a its.toArray from pp) (pi_one J2 _ (turn_tuple a _) ⟨_, Heap.get?_push_size _ rfl, rfl, rfl⟩ (q hz))

section
variable {K : PySem.W.Frag} {J : Jar} {Z : Hp} {ds : List D}
theorem wk_list {a : Addr} {xs : List V} (h : Z a = some (.lst xs)) (l : RepL K J Z xs ds) : Wk K J Z ds (Itl K a) := fun i H s => by
  have e : SqL K H a xs := .of (s _ _ h)
  refine ⟨fun d hd => ?_, fun hi => ⟨xs, e, by rw [l.length]; exact hi⟩⟩
  obtain ⟨y, hy, hr⟩ := l.get hd
  refine ⟨⟨xs, y, e, hy⟩, fun x H' ⟨h1, h2⟩ => ?_⟩
  have := h2 xs e
  rw [hy] at this
  cases this
  exact .inl ⟨h1, hr⟩
theorem wk_tup {a : Addr} {xs : List V} (h : SqT K Z a xs) (l : RepL K J Z xs ds) : Wk K J Z ds (Itt K a) := fun i H s => by
  have e : SqT K H a xs := sqT_mono s h
  refine ⟨fun d hd => ?_, fun hi => ⟨xs, e, by rw [l.length]; exact hi⟩⟩
  obtain ⟨y, hy, hr⟩ := l.get hd
  refine ⟨⟨xs, y, e, hy⟩, fun x H' ⟨h1, h2⟩ => ?_⟩
  have := h2 xs e
  rw [hy] at this
  cases this
  exact .inl ⟨h1, hr⟩
theorem wk_range (lo : Int) (n : Nat) : Wk K J Z (rangeD lo n) (Itr lo n) := fun i H s => by
  have hl : (rangeD lo n).length = n := by unfold rangeD; simp
  refine ⟨fun d hd => ?_, fun hi => by rw [hl] at hi; exact hi⟩
  have hi : i < n := by
    have := (List.getElem?_eq_some_iff.mp hd).1
    rwa [hl] at this
  refine ⟨hi, fun x H' ⟨h1, h2⟩ => ?_⟩
  unfold rangeD at hd
  rw [List.getElem?_map, List.getElem?_range hi] at hd
  cases hd
  exact .inl ⟨h1, by rw [h2]; exact .int _⟩
end
theorem range_len {lo : Int} {n : Nat} : (rangeD lo n).length = n := by unfold rangeD; simp
/-! ### enumerate -/
/-- the tuple at a, each item in a new pair -/
def IteT (K : PySem.W.Frag) (a : Addr) : L2.It :=
  ⟨fun i H => ∃ (xs : List V) (x : V), SqT K H a xs ∧ xs[i]? = some x, fun i H v H' => ∃ T x, v = .ref T ∧ H T = none ∧ H' = upd H T (.tup [.int (i : Nat), x]) ∧ ∀ xs, SqT K H a xs → xs[i]? = some x, fun i H => ∃ xs : List V, SqT K H a xs ∧ xs.length ≤ i⟩
theorem new_enumT (l : Addr) (its : Array Value) :
    Meets (Builtin.«enumerate.__new__» ⟨[.type "enumerate", .ref l], []⟩) (fun _ R s => s.heap.IsTuple l its ∧
      R (.ok (.ret (.ref (s.heap.push { cls := .type "tuple_iterator", data := .fields #[.ref l, .int 0 0] }).objs.size)))
        { s with heap := (s.heap.push { cls := .type "tuple_iterator", data := .fields #[.ref l, .int 0 0] }).push { cls := .type "enumerate", data := .fields #[.none, .bool false, .ref s.heap.objs.size, rawInt 0, .none, .none] } }) :=
  .of_wp fun prg w0 A0 R0 s0 hh => by
    obtain ⟨hp, g, d, tk, os⟩ := s0
    obtain ⟨hT, hh⟩ := hh
    have hsub := sub_enumerate
    have hT2 : Heap.IsTuple (Shared.heap ⟨hp, g, d, tk, os⟩) l its := hT
    wp_walk
    refine wpAny_stack_any fun st0 => wpAny_pure ?_
    split
    · rename_i c0 _ _ _ _ _
      cases (c0 == Value.type "enumerate")
      · wp_walk using wpAny_pyIter_tuple hT2
        exact ⟨_, rfl, hh⟩
      · wp_walk using wpAny_pyIter_tuple hT2
        exact ⟨_, rfl, hh⟩
    · wp_walk using wpAny_pyIter_tuple hT2
      exact ⟨_, rfl, hh⟩
theorem call_enumT {prg : Program} {w0 : World} {A0 : Around} {E0 : Value → Shared → Prop} {s0 : Shared} {l : Addr} {its : Array Value} {Q0 : Value → Shared → Prop} (hT : s0.heap.IsTuple l its)
    (hh : ∀ h', IsEnum h' (s0.heap.objs.size + 1) s0.heap.objs.size 0 .none → h'.IsTupleIter s0.heap.objs.size l 0 → h'.objs.size = s0.heap.objs.size + 2 →
      (∀ b o, s0.heap.get? b = some o → h'.get? b = some o) → Q0 (.ref (s0.heap.objs.size + 1)) { s0 with heap := h' }) :
    wpAny (model prg w0) A0 (call (.type "enumerate") [.ref l]) Q0 E0 s0 := by
  refine callType_new F.called_enumerate (by decide) (F.typeCall_enumerate_1 _) (F.newCall_enumerate_1 _) (fun ob => F.args_object_init_2 ob _) F.entry_enumerate_new (new_enumT l its) ⟨hT, ?_⟩
  have hz : (s0.heap.push { cls := .type "tuple_iterator", data := .fields #[.ref l, .int 0 0] }).objs.size = s0.heap.objs.size + 1 := Heap.size_push ..
  show _ ∧ _
  rw [hz]
  have he := Heap.get?_push_size (s0.heap.push { cls := .type "tuple_iterator", data := .fields #[.ref l, .int 0 0] }) (o := { cls := .type "enumerate", data := .fields #[.none, .bool false, .ref s0.heap.objs.size, rawInt 0, .none, .none] }) rfl
  rw [hz] at he
  exact ⟨⟨_, he, rfl⟩, hh _ he ⟨_, Heap.get?_push_of_some _ (Heap.get?_push_size _ rfl), rfl, rfl⟩ (by rw [Heap.size_push, hz]) fun b o x => Heap.get?_push_of_some _ (Heap.get?_push_of_some _ x)⟩
theorem turn_enumT {P : Program} {w : World} {K : PySem.W.Frag} {elts : List Expr} {kk : Nat} {tpos : Pos} (a e it : Addr) :
    Turn P w K (.Tuple elts kk tpos) (IteT K a) [e, it] e (fun i h => (∃ old, IsEnum h e it ((i : Nat) : Int) old) ∧ h.IsTupleIter it a i ∧ e ≠ it) where
  mem := by simp
  obj := fun i h st b hb => by
    obtain ⟨⟨old, he⟩, ⟨o, ho, hc, hd⟩, _⟩ := st
    rcases (show b = e ∨ b = it by simpa using hb) with z | z
    · rw [z]
      exact ⟨_, he, fun v q => nomatch q⟩
    · rw [z]
      exact ⟨o, ho, fun v q => by rw [hd] at q; cases q⟩
  keep := fun i h h' st k => let ⟨⟨old, he⟩, hi, hne⟩ := st; ⟨⟨old, k e (by simp) _ he⟩, hi.at fun o q => k it (by simp) o q, hne⟩
  item := by
    intro X hP hw hK hc i pins s σ H E I hf st hg
    subst hP hw hK
    obtain ⟨⟨old, he⟩, hit, hne⟩ := st
    obtain ⟨xs, x, hq, hx⟩ := hg
    obtain ⟨its, rv, pt, hz⟩ := I.tuple hq
    have pt2 : s.heap.IsTuple a its.toArray := pt
    obtain ⟨u, hu, ru⟩ := rv.get hx
    have hel : e < s.heap.objs.size := Heap.lt_size he
    have hil : it < s.heap.objs.size := by obtain ⟨_, q, _⟩ := hit; exact Heap.lt_size q
    have ai : ∀ b ∈ [e, it], b ≠ a := fun b hb z => by
      obtain ⟨g1, g2⟩ := hf b hb
      subst z
      have hcls : ∃ o, s.heap.get? b = some o ∧ o.cls = .type "tuple" := by
        obtain ⟨o, ho, hcl, _⟩ := id pt2
        exact ⟨o, ho, hcl⟩
      obtain ⟨o, ho, hcl⟩ := hcls
      rcases (show b = e ∨ b = it by simpa using hb) with z | z
      · subst z
        rw [he] at ho
        cases ho
        exact absurd (show Value.type "enumerate" = Value.type "tuple" from hcl) (by decide)
      · subst z
        obtain ⟨o2, ho2, hc2, _⟩ := hit
        rw [ho2] at ho
        cases ho
        rw [hc2] at hcl
        exact absurd hcl (by decide)
    have D := PySem.Draws.tuple (prog := X.prog) (w := X.w) (A := X.A.in1) (show X.A.in1.handled = none from I.ok.hd hc) it a (Ne.symm (ai it (by simp))) its.toArray
    refine wpAny_pyNext_enum_itemD (i := i) D he ⟨hit, pt2⟩ (by have := List.getElem?_eq_some_iff.mp hu; simpa using this.1) hne (by simp; exact ⟨hne, ai e (by simp)⟩) fun x2 h' tk hP ho hst hT hsz hk => ?_
    have hx2 : x2 = u := by
      have : its.toArray[i]? = some x2 := hP
      rw [List.getElem?_toArray, hu] at this
      cases this
      rfl
    subst hx2
    refine ⟨_, rfl, wpAny_letOwnedTupleGo_enum (s := { s with heap := h', toks := tk + 1 }) ho fun h'' he' sb => ?_⟩
    have hT2 : h''.get? s.heap.objs.size = some { cls := .type "tuple", data := .seq #[.int i tk, x2] } := (sb.2 _ (Nat.ne_of_gt hel)).trans hT
    have new : ObjOk X.prog X.w (upd H s.heap.objs.size (.tup [.int (i : Nat), x])) h'' s.heap.objs.size (.tup [.int (i : Nat), x]) :=
      ⟨by show 2 ≤ sizeLine; decide, [.int i tk, x2], .cons ⟨_, rfl⟩ (.cons ru .nil), ⟨_, hT2, rfl, _, rfl⟩⟩
    have I1 : Inv X pins σ (upd H s.heap.objs.size (.tup [.int (i : Nat), x])) { s with heap := h'', toks := tk + 1 } :=
      I.turnedNew (ch := [e, it]) (fun b ob hb q => (sb.2 b (fun z => hb (by simp [z]))).trans (hk b ob (fun z => hb (by simp [z])) (fun z => hb (by simp [z])) q)) hf (Nat.le_refl _) new
    refine ⟨.ref s.heap.objs.size, _, I1, rfl, ⟨_, x, rfl, I.hok.fresh (Nat.le_refl _), rfl, fun ys hy => by rw [I.tuple_inj hy hq]; exact hx⟩, ⟨⟨x2, ?_⟩, hst.1.at fun o q => (sb.2 it (Ne.symm hne)).trans q, hne⟩, fun b hb => ?_⟩
    · rw [show ((i + 1 : Nat) : Int) = (i : Int) + 1 by omega]
      exact he'
    · have hb' : b < s.heap.objs.size := by
        rcases (show b = e ∨ b = it by simpa using hb) with z | z
        · rw [z]; exact hel
        · rw [z]; exact hil
      rw [upd_ne (Nat.ne_of_lt hb')]
      exact (hf b hb).1
  done := by
    intro X hP hw hK hc i pins s σ H E I hf st hg
    subst hP hw hK
    obtain ⟨⟨old, he⟩, hit, hne⟩ := st
    obtain ⟨xs, hq, hx⟩ := hg
    obtain ⟨its, rv, pt, hz⟩ := I.tuple hq
    have pt2 : s.heap.IsTuple a its.toArray := pt
    obtain ⟨f0, f1, f2, f3, f4, f5⟩ := hf it (by simp)
    have hl := rv.length
    have hT : s.TypeIs (.ref e) "enumerate" := ⟨_, he, rfl⟩
    unfold pyNext
    refine wpAny_bind (wpAny_attempt (wpAny_callSpecial?_slot (name := Str.ofString "__next__") hT F.slot_enumerate_next (wpAny_call_entry F.slot_enumerate_next hT F.entry_enumerate_next ?_ (F.args_enumerate_next_1 _))))
    show wpAny _ _ (field (.ref e) 2 >>= _) _ _ _
    refine wpAny_bind (wpAny_field he rfl (x := .ref it) rfl ?_)
    refine wpAny_bind (wpAny_nextOf_tuple_end (show X.A.in1.in1.handled = none from I.ok.hd hc) hit pt2 (by simp; omega) fun h' x he' hx' => ?_)
    obtain ⟨o, ho, hcl⟩ := hx'
    refine wpAny_bind (wpAny_isInstance (T := "StopIteration") (b := true) ⟨o, ho, hcl⟩ isSubtype_stop ?_)
    exact wpAny_pure ⟨rfl, I.turned (t' := s.toks) (fun b o hb q => he' b o hb q) f0 f1 f3 f4 f5⟩
  self := fun A i s Q E st h => let ⟨⟨_, he⟩, _⟩ := st; wpAny_pyIter_enum he h
def iEnumA (K : PySem.W.Frag) (ta : TA) : TI := fun σ H R => ta σ H fun vs H1 => ∃ a xs, vs = [.ref a] ∧ ((SqL K H1 a xs ∧ R (Ite K a) H1) ∨ (SqT K H1 a xs ∧ (xs.length ≤ sizeLine → R (IteT K a) H1)))
theorem pi_enumA {X : Cx} {e : Expr} {ta : TA} {p pos tpos : Pos} {elts : List Expr} {kk : Nat} (hg : Gl X "enumerate") (hm : X.mg "enumerate" = none) (ha : PA X [e] ta) (hs : starEach [e] X.env = [(false, eval e X.env)]) :
    PI X (.Tuple elts kk tpos) (.Call (.Name "enumerate" p) [e] [] pos) (iEnumA X.K ta) := by
  constructor
  intro ps s σ H R I h
  refine Call_ (ld_blt I hg hm boot_enumerate (PyProof.Rows.callWith_type1 (thn (ha.run pos ps s σ H _ I h) fun us s1 ⟨vs, H1, I1, r1, q1⟩ => ?_) hs rfl))
  obtain ⟨a, xs, ex, q⟩ := q1
  subst ex
  cases r1 with
  | cons r rr =>
    cases rr
    cases r
    have fr : ∀ b ∈ [s1.heap.objs.size + 1, s1.heap.objs.size], FpOk X ps H1 b := fun b hb => by
      have hle : s1.heap.objs.size ≤ b := by
        rcases (show b = s1.heap.objs.size + 1 ∨ b = s1.heap.objs.size by simpa using hb) with z | z <;> omega
      exact I1.fpOk hle (I1.hok.fresh hle)
    rcases q with ⟨hq, q⟩ | ⟨hq, q⟩
    · obtain ⟨its, rv, pt, hz⟩ := I1.list hq
      refine call_enumerate_list pt.isList fun h' he hit hsz hk => wpAny_pyIter_enum he ?_
      exact ⟨s1.heap.objs.size + 1, [s1.heap.objs.size + 1, s1.heap.objs.size], _, _, H1, rfl, I1.kept (t' := s1.toks) hk, turn_enum a (s1.heap.objs.size + 1) s1.heap.objs.size, ⟨⟨.none, he⟩, hit, Nat.succ_ne_self _⟩, fr, q⟩
    · obtain ⟨its, rv, pt, hz⟩ := I1.tuple hq
      refine call_enumT (show s1.heap.IsTuple a its.toArray from pt) fun h' he hit hsz hk => wpAny_pyIter_enum he ?_
      exact ⟨s1.heap.objs.size + 1, [s1.heap.objs.size + 1, s1.heap.objs.size], _, _, H1, rfl, I1.kept (t' := s1.toks) hk, turn_enumT a (s1.heap.objs.size + 1) s1.heap.objs.size, ⟨⟨.none, he⟩, hit, Nat.succ_ne_self _⟩, fr, q hz⟩
section
variable {K : PySem.W.Frag} {J : Jar} {Z : Hp} {ds es : List D}
theorem enumD_len : (enumD ds).length = ds.length := by unfold enumD; simp
theorem enumD_at {i : Nat} {d : D} (h : (enumD ds)[i]? = some d) : ∃ x, ds[i]? = some x ∧ d = .tuple [.int (i : Int), x] := by
  unfold enumD at h
  rw [List.getElem?_mapIdx] at h
  cases q : ds[i]? with
  | none => rw [q] at h; cases h
  | some x => rw [q] at h; cases h; exact ⟨x, rfl, rfl⟩
theorem zipD_at {i : Nat} {d : D} (h : (zipD ds es)[i]? = some d) : ∃ x y, ds[i]? = some x ∧ es[i]? = some y ∧ d = .tuple [x, y] := by
  unfold zipD at h
  rw [List.getElem?_zipWith] at h
  cases q : ds[i]? with
  | none => rw [q] at h; cases h
  | some x =>
    cases q2 : es[i]? with
    | none => rw [q, q2] at h; cases h
    | some y => rw [q, q2] at h; cases h; exact ⟨x, y, rfl, rfl, rfl⟩
theorem zipD_len : (zipD ds es).length = min ds.length es.length := by unfold zipD; simp
theorem wk_enumL {a : Addr} {xs : List V} (h : Z a = some (.lst xs)) (l : RepL K J Z xs ds) : Wk K J Z (enumD ds) (Ite K a) := fun i H s => by
  have e : SqL K H a xs := .of (s _ _ h)
  refine ⟨fun d hd => ?_, fun hi => ⟨xs, e, by rw [l.length]; rwa [enumD_len] at hi⟩⟩
  obtain ⟨x, hx, rfl⟩ := enumD_at hd
  obtain ⟨y, hy, hr⟩ := l.get hx
  refine ⟨⟨xs, y, e, hy⟩, fun v H' ⟨T, y2, h1, h2, h3, h4⟩ => ?_⟩
  have := h4 xs e
  rw [hy] at this
  cases this
  exact .inr ⟨T, _, _, h2, h3, h1, rfl, .cons (.int _) (.cons hr .nil), by show 2 ≤ sizeLine; decide⟩
theorem wk_enumT {a : Addr} {xs : List V} (h : SqT K Z a xs) (l : RepL K J Z xs ds) : Wk K J Z (enumD ds) (IteT K a) := fun i H s => by
  have e : SqT K H a xs := sqT_mono s h
  refine ⟨fun d hd => ?_, fun hi => ⟨xs, e, by rw [l.length]; rwa [enumD_len] at hi⟩⟩
  obtain ⟨x, hx, rfl⟩ := enumD_at hd
  obtain ⟨y, hy, hr⟩ := l.get hx
  refine ⟨⟨xs, y, e, hy⟩, fun v H' ⟨T, y2, h1, h2, h3, h4⟩ => ?_⟩
  have := h4 xs e
  rw [hy] at this
  cases this
  exact .inr ⟨T, _, _, h2, h3, h1, rfl, .cons (.int _) (.cons hr .nil), by show 2 ≤ sizeLine; decide⟩
theorem wk_zipL {a b : Addr} {xs ys : List V} (h : Z a = some (.lst xs)) (l : RepL K J Z xs ds) (g : Z b = some (.lst ys)) (m : RepL K J Z ys es) : Wk K J Z (zipD ds es) (Itz K a b) := fun i H s => by
  have e : SqL K H a xs := .of (s _ _ h)
  have f : SqL K H b ys := .of (s _ _ g)
  refine ⟨fun d hd => ?_, fun hi => ⟨xs, ys, e, f, by rw [l.length, m.length]; rw [zipD_len] at hi; omega⟩⟩
  obtain ⟨x, y, hx, hy, rfl⟩ := zipD_at hd
  obtain ⟨u, hu, ru⟩ := l.get hx
  obtain ⟨u', hu', ru'⟩ := m.get hy
  refine ⟨⟨xs, ys, u, u', e, f, hu, hu'⟩, fun v H' ⟨T, y1, y2, h1, h2, h3, h4, h5⟩ => ?_⟩
  have q1 := h4 xs e
  have q2 := h5 ys f
  rw [hu] at q1
  rw [hu'] at q2
  cases q1
  cases q2
  exact .inr ⟨T, _, _, h2, h3, h1, rfl, .cons ru (.cons ru' .nil), by show 2 ≤ sizeLine; decide⟩
theorem wk_zipT {a b : Addr} {xs ys : List V} (h : SqT K Z a xs) (l : RepL K J Z xs ds) (g : SqT K Z b ys) (m : RepL K J Z ys es) : Wk K J Z (zipD ds es) (RZ.ItzT K a b) := fun i H s => by
  have e : SqT K H a xs := sqT_mono s h
  have f : SqT K H b ys := sqT_mono s g
  refine ⟨fun d hd => ?_, fun hi => ⟨xs, ys, e, f, by rw [l.length, m.length]; rw [zipD_len] at hi; omega⟩⟩
  obtain ⟨x, y, hx, hy, rfl⟩ := zipD_at hd
  obtain ⟨u, hu, ru⟩ := l.get hx
  obtain ⟨u', hu', ru'⟩ := m.get hy
  refine ⟨⟨xs, ys, u, u', e, f, hu, hu'⟩, fun v H' ⟨T, y1, y2, h1, h2, h3, h4, h5⟩ => ?_⟩
  have q1 := h4 xs e
  have q2 := h5 ys f
  rw [hu] at q1
  rw [hu'] at q2
  cases q1
  cases q2
  exact .inr ⟨T, _, _, h2, h3, h1, rfl, .cons ru (.cons ru' .nil), by show 2 ≤ sizeLine; decide⟩
end
section
variable {cf : Cfg} {J : Jar} {XR : XRT} {C : Calls} {lv : Nat} {X : Cx} {S : Sc} {W : WX} (G : Good cf J XR C lv X S) (hC : CMono C)
include hC
theorem star1 {a : Expr} (n : notStar a = true) : starEach [a] X.env = [(false, eval a X.env)] := by rw [star_of n]; rfl
theorem star2 {a b : Expr} (n : notStar a = true) (m : notStar b = true) : starEach [a, b] X.env = [(false, eval a X.env), (false, eval b X.env)] := by rw [star_of n, star_of m]; rfl
theorem repr_tupD {K : PySem.W.Frag} {F : Fm} {σ : L2.St} {H Z : Hp} {r : En} (R : Rel K J F σ H Z r) {v : V} {ds : List D} (h : Rep K J Z v (.tuple ds)) : ∃ a xs, v = .ref a ∧ SqT K H a xs ∧ SqT K Z a xs ∧ RepL K J Z xs ds := by
  obtain ⟨a, xs, rfl, h1, h2⟩ := rep_tup h
  exact ⟨a, xs, rfl, sqT_mono R.sub h1, h1, h2⟩
theorem rep_lstD {K : PySem.W.Frag} {F : Fm} {σ : L2.St} {H Z : Hp} {r : En} (R : Rel K J F σ H Z r) {v : V} {ds : List D} (h : Rep K J Z v (.list ds)) : ∃ a xs, v = .ref a ∧ SqL K H a xs ∧ Z a = some (.lst xs) ∧ RepL K J Z xs ds ∧ xs.length ≤ sizeLine := by
  cases h with
  | lst h1 h2 => exact ⟨_, _, rfl, .of (R.sub _ _ h1), h1, h2, R.zs _ _ (.inl h1)⟩
theorem tupLen {pins : List (Addr × Obj)} {s : Shared} {F : Fm} {σ σ2 : L2.St} {H H2 Z : Hp} {r : En} (I : Inv X pins σ H s) (R : Rel X.K J F σ2 H2 Z r) {a : Addr} {xs : List V} (h : SqT X.K Z a xs) : xs.length ≤ sizeLine := by
  rcases h with (h | ⟨o, h⟩) | h
  · exact R.zs _ _ (.inr h)
  · rcases R.zo _ _ h with ⟨q, e⟩ | ⟨q, e⟩ | e <;> cases e
  · obtain ⟨its, _, _, hz⟩ := I.tuple (a := a) (.inr h)
    exact hz
theorem i_e {a : Ex} {ea tg : Expr} (ha : PE X ea (lE X.K J XR C W a)) : PI X tg ea (lW X.K J XR C W (.e a)) := by
  refine (pi_seq ha).imp fun pins s σ H Q I ⟨F, Z, r, Y, R, hx, h⟩ => ?_
  unfold itW at h
  refine use_E hC R hx h fun x r1 h1 v H1 Z1 s1 R1 p1 => ?_
  obtain ⟨d, r2, Z2, s2, R2, hd, h2⟩ := R1.frz p1 h1
  split at h2
  · obtain ⟨a, xs, rfl, e1, e2, l, e3⟩ := rep_lstD hC R2 hd
    exact ⟨a, rfl, .inl ⟨xs, e1, h2 _ H1 Z2 (s1.trans s2) R2 (wk_list e2 l) (by rw [← l.length]; exact e3)⟩⟩
  · obtain ⟨a, xs, rfl, e1, e2, l⟩ := repr_tupD hC R2 hd
    exact ⟨a, rfl, .inr ⟨xs, e1, fun e3 => h2 _ H1 Z2 (s1.trans s2) R2 (wk_tup e2 l) (by rw [← l.length]; exact e3)⟩⟩
  · exact h2.elim
include G
theorem i_r1 {a : Ex} {ea tg : Expr} {p pos : Pos} (hg : glB S "range" = true) (hf : cf.free.contains "range" = true) (ns : notStar ea = true) (ha : PE X ea (lE X.K J XR C W a)) : PI X tg (.Call (.Name "range" p) [ea] [] pos) (lW X.K J XR C W (.r1 a)) := by
  refine (pi_range1 (G.gl hg) (G.facts.free _ hf) (pa_cons ha pa_nil (star_of ns)) (star1 hC ns)).imp fun pins s σ H Q I ⟨F, Z, r, Y, R, hx, h⟩ => ?_
  unfold itW at h
  refine use_pin hC R hx h fun x r1 h1 v H1 Z1 s1 R1 p1 => ?_
  obtain ⟨d, hd, h2⟩ := R1.der p1 h1
  split at h2
  · cases rep_int hd
    have := h2.1
    exact ⟨_, rfl, by omega, by unfold SZ at this; omega, h2.2 _ H1 Z1 s1 R1 (wk_range 0 _) (by rw [range_len, szl]; unfold SZ at this; omega)⟩
  · exact h2.elim
theorem i_r2 {a b : Ex} {ea eb tg : Expr} {p pos : Pos} (hg : glB S "range" = true) (hf : cf.free.contains "range" = true) (ns : notStar ea = true) (ns2 : notStar eb = true) (ha : PE X ea (lE X.K J XR C W a)) (hb : PE X eb (lE X.K J XR C W b)) : PI X tg (.Call (.Name "range" p) [ea, eb] [] pos) (lW X.K J XR C W (.r2 a b)) := by
  refine (pi_range2 (G.gl hg) (G.facts.free _ hf) (pa_cons ha (pa_cons hb pa_nil (star_of ns2)) (star_of ns)) (star2 hC ns ns2) (star1 hC ns2)).imp fun pins s σ H Q I ⟨F, Z, r, Y, R, hx, h⟩ => ?_
  unfold itW at h
  refine use_pin hC R hx h fun x r1 h1 v H1 Z1 s1 R1 p1 => ?_
  refine use_pin hC R1 (hx.mono s1) h1 fun y r2 h2 u H2 Z2 s2 R2 p2 => ?_
  obtain ⟨d, hd, h3⟩ := R2.der (p1.mono s2) h2
  obtain ⟨e, he, h3⟩ := R2.der p2 h3
  split at h3
  · split at h3
    · cases rep_int hd
      cases rep_int he
      have := h3.1
      exact ⟨_, _, rfl, ⟨this.1, this.2.1, this.2.2.1, this.2.2.2.1⟩, h3.2 _ H2 Z2 (s1.trans s2) R2 (wk_range _ _) (by rw [range_len, szl]; have := this.2.2.2.2; unfold SZ at this; omega)⟩
    · exact h3.elim
  · exact h3.elim
theorem i_en {a : Ex} {ea : Expr} {p pos tpos : Pos} {elts : List Expr} {kk : Nat} (hg : glB S "enumerate" = true) (hf : cf.free.contains "enumerate" = true) (ns : notStar ea = true) (ha : PE X ea (lE X.K J XR C W a)) :
    PI X (.Tuple elts kk tpos) (.Call (.Name "enumerate" p) [ea] [] pos) (lW X.K J XR C W (.en a)) := by
  refine (pi_enumA (G.gl hg) (G.facts.free _ hf) (pa_cons ha pa_nil (star_of ns)) (star1 hC ns)).imp fun pins s σ H Q I ⟨F, Z, r, Y, R, hx, h⟩ => ?_
  unfold itW at h
  refine use_E hC R hx h fun x r1 h1 v H1 Z1 s1 R1 p1 => ?_
  obtain ⟨d, r2, Z2, s2, R2, hd, h2⟩ := R1.frz p1 h1
  split at h2
  · obtain ⟨a, xs, rfl, e1, e2, l, e3⟩ := rep_lstD hC R2 hd
    exact ⟨a, xs, rfl, .inl ⟨e1, h2 _ H1 Z2 (s1.trans s2) R2 (wk_enumL e2 l) (by rw [enumD_len, ← l.length]; exact e3)⟩⟩
  · obtain ⟨a, xs, rfl, e1, e2, l⟩ := repr_tupD hC R2 hd
    exact ⟨a, xs, rfl, .inr ⟨e1, fun e3 => h2 _ H1 Z2 (s1.trans s2) R2 (wk_enumT e2 l) (by rw [enumD_len, ← l.length]; exact e3)⟩⟩
  · exact h2.elim
theorem i_zip {a b : Ex} {ea eb : Expr} {p pos tpos : Pos} {elts : List Expr} {kk : Nat} (hg : glB S "zip" = true) (hf : cf.free.contains "zip" = true) (ns : notStar ea = true) (ns2 : notStar eb = true) (ha : PE X ea (lE X.K J XR C W a)) (hb : PE X eb (lE X.K J XR C W b)) :
    PI X (.Tuple elts kk tpos) (.Call (.Name "zip" p) [ea, eb] [] pos) (lW X.K J XR C W (.zip a b)) := by
  refine (RZ.pi_zipA (G.gl hg) (G.facts.free _ hf) (pa_cons ha (pa_cons hb pa_nil (star_of ns2)) (star_of ns)) (by rw [star_of ns]) (back_any (star_any (by simp [ns2])))).imp fun pins s σ H Q I ⟨F, Z, r, Y, R, hx, h⟩ => ?_
  unfold itW at h
  refine use_E hC R hx h fun x r1 h1 v H1 Z1 s1 R1 p1 => ?_
  obtain ⟨d, r2, Z2, s2, R2, hd, h2⟩ := R1.frz p1 h1
  refine use_E hC R2 ((hx.mono s1).mono s2) h2 fun y r3 h3 u H3 Z3 s3 R3 p3 => ?_
  obtain ⟨e, r4, Z4, s4, R4, he, h4⟩ := R3.frz p3 h3
  have hd' := hd.mono (s3.trans s4)
  have sA : Same Z Z4 := ((s1.trans s2).trans s3).trans s4
  split at h4
  · split at h4
    · obtain ⟨a, xs, rfl, e1, e2, l, e3⟩ := rep_lstD hC R4 hd'
      obtain ⟨b, ys, rfl, f1, f2, m, f3⟩ := rep_lstD hC R4 he
      exact ⟨a, b, xs, ys, rfl, .inl ⟨e1, f1, h4 _ H3 Z4 sA R4 (wk_zipL e2 l f2 m) (by rw [zipD_len, ← l.length]; omega)⟩⟩
    · exact h4.elim
  · split at h4
    · obtain ⟨a, xs, rfl, e1, e2, l⟩ := repr_tupD hC R4 hd'
      obtain ⟨b, ys, rfl, f1, f2, m⟩ := repr_tupD hC R4 he
      exact ⟨a, b, xs, ys, rfl, .inr ⟨e1, f1, h4 _ H3 Z4 sA R4 (wk_zipT e2 l f2 m) (by rw [zipD_len, ← l.length]; have := tupLen hC I R4 e2; omega)⟩⟩
    · exact h4.elim
  · exact h4.elim
end
end G

set_option linter.all false
set_option maxRecDepth 100000
set_option Elab.async false
/-! Zm: list(zip(a, b)), list(range(..)) in the core. -/
namespace G
open PySem PySem.Spec PyProof.Rows L2
section
variable {K : PySem.W.Frag} {J : Jar} {F : Fm} {σ : L2.St} {H H' Z : Hp} {r : En}
/-- the pairs' tuples are given up -/
noncomputable def zPrs (H' Z : Hp) (ws : List V) : Hp := fun b => open Classical in if V.ref b ∈ ws then H' b else Z b
theorem Rel.lz (R : Rel K J F σ H Z r) {S : Addr} {xs ys ws : List V} {ds es : List D} (hS : H S = none) (hS' : H' S = some (.lst ws)) (hl : ws.length ≤ sizeLine) (hn : ws.length = min xs.length ys.length) (hp : Prs H H' xs ys ws) (sm : Same H H') (lx : RepL K J Z xs ds) (ly : RepL K J Z ys es) :
    Same Z (zPrs H' Z ws) ∧ Rel K J F σ H' (zPrs H' Z ws) r ∧ RepR K J F σ H' (zPrs H' Z ws) r (.new (zipD ds es)) (.ref S) := by
  obtain ⟨zS, fS, nS, oS⟩ := R.fresh hS
  have tup : ∀ b, V.ref b ∈ ws → H b = none ∧ ∃ x y, H' b = some (.tup [x, y]) := fun b hb => by
    obtain ⟨j, hj⟩ := List.mem_iff_getElem?.mp hb
    obtain ⟨T, x, y, e1, e2, _, _, e5⟩ := hp j _ hj
    cases e1
    exact ⟨e5, x, y, e2⟩
  have nin : ∀ b, H b ≠ none → V.ref b ∉ ws := fun b hb hm => hb (tup b hm).1
  have zin : ∀ b, V.ref b ∈ ws → zPrs H' Z ws b = H' b := fun b hb => by unfold zPrs; rw [if_pos hb]
  have zout : ∀ b, V.ref b ∉ ws → zPrs H' Z ws b = Z b := fun b hb => by unfold zPrs; rw [if_neg hb]
  have sZ : Same Z (zPrs H' Z ws) := fun b o e => by
    have hb := R.sub b o e
    rw [zout b (nin b (by rw [hb]; exact fun z => by cases z))]
    exact e
  have zSn : zPrs H' Z ws S = none := by
    rw [zout S fun hm => ?_]
    · exact zS
    · obtain ⟨_, x, y, e⟩ := tup S hm
      rw [hS'] at e
      cases e
  have R' : Rel K J F σ H' (zPrs H' Z ws) r := by
    refine ⟨fun b o e => ?_, fun b o e n => sm _ _ (R.frame b o e n), J.stable _ H _ R.jar fun b hb => ?_, fun b hb => ?_, R.len, fun i d e => ?_, fun i ds e => ?_, R.sep, fun a xs e => ?_, fun a o e => ?_, fun b hb => ?_, R.gf, R.al⟩
    · by_cases q : V.ref b ∈ ws
      · rw [zin b q] at e; exact e
      · rw [zout b q] at e; exact sm _ _ (R.sub b o e)
    · cases q : H b with
      | none => exact absurd q (J.there _ H b R.jar hb)
      | some o => exact sm _ _ q
    · rw [zout b (nin b (J.there _ H b R.jar hb))]
      exact R.jz b hb
    · obtain ⟨v, e1, e2⟩ := R.fz i d e
      exact ⟨v, e1, e2.mono sZ⟩
    · obtain ⟨a, vs, e1, e2, e3, e4, e5, e6⟩ := R.ow i ds e
      refine ⟨a, vs, e1, sm _ _ e2, e3, e4.mono sZ, ?_, e6⟩
      rw [zout a (nin a (by rw [e2]; exact fun z => by cases z))]
      exact e5
    · by_cases q : V.ref a ∈ ws
      · rw [zin a q] at e
        obtain ⟨_, x, y, e'⟩ := tup a q
        rw [e'] at e
        rcases e with e | e <;> cases e
        show 2 ≤ sizeLine
        decide
      · rw [zout a q] at e; exact R.zs a xs e
    · by_cases q : V.ref a ∈ ws
      · rw [zin a q] at e
        obtain ⟨_, x, y, e'⟩ := tup a q
        rw [e'] at e
        cases e
        exact .inr (.inl ⟨_, rfl⟩)
      · rw [zout a q] at e; exact R.zo a o e
    · by_cases q : V.ref b ∈ ws
      · exfalso
        have hb0 := (tup b q).1
        have nj : ¬ J.A b := fun h => J.there _ H b R.jar h hb0
        cases e : F.o b with
        | none => exact R.gf b hb e
        | some o => rw [R.frame b o e nj] at hb0; cases hb0
      · rw [zout b q]; exact R.ng b hb
  refine ⟨sZ, R', S, ws, rfl, hS', hl, ?_, zSn, fS, nS, oS⟩
  have lz : (zipD ds es).length = ws.length := by
    unfold zipD
    rw [List.length_zipWith, ← lx.length, ← ly.length, hn]
  have at_ : ∀ (j : Nat) (v : V) (d : D), ws[j]? = some v → (zipD ds es)[j]? = some d → Rep K J (zPrs H' Z ws) v d := fun j v d hj hd => by
    obtain ⟨T, x, y, rfl, e2, e3, e4, _⟩ := hp j v hj
    unfold zipD at hd
    rw [List.getElem?_zipWith] at hd
    obtain ⟨dx, q1, q2⟩ := lx.getV e3
    obtain ⟨dy, q3, q4⟩ := ly.getV e4
    rw [q1, q3] at hd
    cases hd
    exact .tup (.inl (.inl (by rw [zin T (List.mem_of_getElem? hj)]; exact e2))) (.cons (q2.mono sZ) (.cons (q4.mono sZ) .nil))
  have build : ∀ (vs : List V) (qs : List D), qs.length = vs.length → (∀ (j : Nat) (v : V) (d : D), vs[j]? = some v → qs[j]? = some d → Rep K J (zPrs H' Z ws) v d) → RepL K J (zPrs H' Z ws) vs qs := by
    intro vs
    induction vs with
    | nil => intro qs e _; cases qs with | nil => exact .nil | cons _ _ => cases e
    | cons v vs ih =>
      intro qs e h
      cases qs with
      | nil => cases e
      | cons d qs => exact .cons (h 0 v d rfl rfl) (ih qs (by simpa using e) fun j v d a b => h (j + 1) v d (by simpa using a) (by simpa using b))
  exact build ws _ lz at_
end
section
variable {cf : Cfg} {J : Jar} {XR : XRT} {C : Calls} {lv : Nat} {X : Cx} {S : Sc} {W : WX} (G : Good cf J XR C lv X S) (hC : CMono C)
include G hC
theorem s_dct0 {pos : Pos} : PE X (.Dict [] [] pos) (lE X.K J XR C W .dct0) := by
  refine pe_dnewK.imp fun pins s σ H Q I ⟨F, Z, r, Y, R, hx, h⟩ => ?_
  unfold exW at h
  intro p hp
  obtain ⟨s1, R1⟩ := R.lay (o := .dK []) hp (fun xs e => by rcases e with e | e <;> cases e) (.inr (.inr rfl))
  exact h _ _ _ s1 R1 (.dct upd_same)
theorem s_lwz {a b : Ex} {ea eb : Expr} {p p2 pos pos2 : Pos} (hl : glB S "list" = true) (hfl : cf.free.contains "list" = true) (hg : glB S "zip" = true) (hf : cf.free.contains "zip" = true) (ns : notStar ea = true) (ns2 : notStar eb = true) (ha : PE X ea (lE X.K J XR C W a)) (hb : PE X eb (lE X.K J XR C W b)) :
    PE X (.Call (.Name "list" p) [.Call (.Name "zip" p2) [ea, eb] [] pos2] [] pos) (lE X.K J XR C W (.lw (.zip a b))) := by
  refine (pe_lz G.calm (G.gl hl) (G.facts.free _ hfl) (G.gl hg) (G.facts.free _ hf) (pa_cons ha (pa_cons hb pa_nil (star_of ns2)) (star_of ns)) (by rw [star_of ns]) (back_any (star_any (by simp [ns2])))).imp fun pins s σ H Q I ⟨F, Z, r, Y, R, hx, h⟩ => ?_
  unfold exW itW at h
  refine use_E hC R hx h fun x r1 h1 v H1 Z1 s1 R1 p1 => ?_
  obtain ⟨d, r2, Z2, s2, R2, hd, h2⟩ := R1.frz p1 h1
  refine use_E hC R2 ((hx.mono s1).mono s2) h2 fun y r3 h3 u H3 Z3 s3 R3 p3 => ?_
  obtain ⟨e, r4, Z4, s4, R4, he, h4⟩ := R3.frz p3 h3
  have hd' := hd.mono (s3.trans s4)
  have sA : Same Z Z4 := ((s1.trans s2).trans s3).trans s4
  split at h4
  · split at h4
    · obtain ⟨a, xs, rfl, e1, e2, l, e3⟩ := rep_lstD hC R4 hd'
      obtain ⟨b, ys, rfl, f1, f2, m, f3⟩ := rep_lstD hC R4 he
      refine ⟨a, b, xs, ys, rfl, .inl ⟨e1, f1⟩, fun S H' ws g1 g2 g3 g4 g5 g6 => ?_⟩
      obtain ⟨q1, q2, q3⟩ := R4.lz g1 g2 g4 g3 g5 g6 l m
      exact h4.2 _ H' _ (sA.trans q1) q2 q3
    · exact h4.elim
  · split at h4
    · obtain ⟨a, xs, rfl, e1, e2, l⟩ := repr_tupD hC R4 hd'
      obtain ⟨b, ys, rfl, f1, f2, m⟩ := repr_tupD hC R4 he
      refine ⟨a, b, xs, ys, rfl, .inr ⟨e1, f1⟩, fun S H' ws g1 g2 g3 g4 g5 g6 => ?_⟩
      obtain ⟨q1, q2, q3⟩ := R4.lz g1 g2 g4 g3 g5 g6 l m
      exact h4.2 _ H' _ (sA.trans q1) q2 q3
    · exact h4.elim
  · exact h4.elim
theorem rg_rep {K : PySem.W.Frag} {Z : Hp} (a b : Int) : RepL K J Z (rgV a b) (rangeD a (b - a).toNat) := by
  have : ∀ l : List Nat, RepL K J Z (l.map fun (i : Nat) => V.int (a + (i : Nat))) (l.map fun (i : Nat) => .int (a + (i : Int))) := fun l => by
    induction l with
    | nil => exact .nil
    | cons x l ih => exact .cons (.int _) ih
  exact this _
theorem s_lwr1 {a : Ex} {ea : Expr} {p p2 pos pos2 : Pos} (hl : glB S "list" = true) (hfl : cf.free.contains "list" = true) (hg : glB S "range" = true) (hf : cf.free.contains "range" = true) (ns : notStar ea = true) (ha : PE X ea (lE X.K J XR C W a)) :
    PE X (.Call (.Name "list" p) [.Call (.Name "range" p2) [ea] [] pos2] [] pos) (lE X.K J XR C W (.lw (.r1 a))) := by
  refine (pe_listRg G.calm (G.gl hl) (G.facts.free _ hfl) (prg_1 (G.gl hg) (G.facts.free _ hf) ha (star1 hC ns)) rfl).imp fun pins s σ H Q I ⟨F, Z, r, Y, R, hx, h⟩ => ?_
  unfold exW itW at h
  refine use_pin hC R hx h fun x r1 h1 v H1 Z1 s1 R1 p1 => ?_
  obtain ⟨d, hd, h2⟩ := R1.der p1 h1
  split at h2
  · rename_i j
    cases rep_int hd
    obtain ⟨b1, _, h2⟩ := h2
    refine ⟨j, rfl, ⟨by omega, by omega, by omega, by have := b1.2; unfold SZ at this; omega, by have := b1.2; unfold SZ at this; omega⟩, fun q hq => ?_⟩
    obtain ⟨zS, fS, nS, oS⟩ := R1.fresh hq
    have R2 := R1.grow (o := .lst (rgV 0 j)) hq
    have e0 : rangeD 0 j.toNat = rangeD 0 (j - 0).toNat := by rw [Int.sub_zero]
    rw [e0] at h2
    exact h2 _ _ Z1 s1 R2 ⟨q, _, rfl, upd_same, by rw [rgV_length, szl]; have := b1.2; unfold SZ at this; omega, rg_rep G hC 0 j, zS, fS, nS, oS⟩
  · exact h2.elim
theorem s_lwr2 {a b : Ex} {ea eb : Expr} {p p2 pos pos2 : Pos} (hl : glB S "list" = true) (hfl : cf.free.contains "list" = true) (hg : glB S "range" = true) (hf : cf.free.contains "range" = true) (ns : notStar ea = true) (ns2 : notStar eb = true) (ha : PE X ea (lE X.K J XR C W a)) (hb : PE X eb (lE X.K J XR C W b)) :
    PE X (.Call (.Name "list" p) [.Call (.Name "range" p2) [ea, eb] [] pos2] [] pos) (lE X.K J XR C W (.lw (.r2 a b))) := by
  refine (pe_listRg G.calm (G.gl hl) (G.facts.free _ hfl) (prg_2 (G.gl hg) (G.facts.free _ hf) ha hb (by rw [star_of ns]) (by rw [star_of ns2]) (back_any (star_any (by simp [ns2])))) rfl).imp fun pins s σ H Q I ⟨F, Z, r, Y, R, hx, h⟩ => ?_
  unfold exW itW at h
  refine use_pin hC R hx h fun x r1 h1 v H1 Z1 s1 R1 p1 => ?_
  refine use_pin hC R1 (hx.mono s1) h1 fun y r2 h2 u H2 Z2 s2 R2 p2 => ?_
  obtain ⟨d, hd, h3⟩ := R2.der (p1.mono s2) h2
  obtain ⟨e, he, h3⟩ := R2.der p2 h3
  split at h3
  · split at h3
    · cases rep_int hd
      cases rep_int he
      obtain ⟨b1, _, h3⟩ := h3
      have b5 := b1.2.2.2.2
      unfold SZ at b5
      refine ⟨_, _, rfl, rfl, ⟨b1.1, b1.2.1, b1.2.2.1, b1.2.2.2.1, by omega⟩, fun q hq => ?_⟩
      obtain ⟨zS, fS, nS, oS⟩ := R2.fresh hq
      exact h3 _ _ Z2 (s1.trans s2) (R2.grow hq) ⟨q, _, rfl, upd_same, by rw [rgV_length, szl]; omega, rg_rep G hC _ _, zS, fS, nS, oS⟩
    · exact h3.elim
  · exact h3.elim
end
end G

set_option linter.all false
set_option maxRecDepth 100000
set_option Elab.async false
/-! Kc: calls with keywords. -/
namespace G
open PySem PySem.Spec PyProof.Rows L2
theorem _root_.L2.PK.imp {X : Cx} {e : List Keyword} {t t' : TA} (h : PK X e t) (hi : ∀ pins s σ H Q, Inv X pins σ H s → t' σ H Q → t σ H Q) : PK X e t' := ⟨fun p pins s σ H Q I q => h.run p pins s σ H Q I (hi pins s σ H Q I q)⟩
theorem kw_all {X : Cx} {pos : Pos} : ∀ {kws : List Keyword}, (kws.filterMap (·.arg)).length = kws.length → (backToKw pos (keywordEach kws X.env)).all (·.1.isSome) = true ∧ (backToKw pos (keywordEach kws X.env)).filterMap (·.1) = kws.filterMap (·.arg) ∧ (backToKw pos (keywordEach kws X.env)).any (·.1.isNone) = false
  | [], _ => ⟨rfl, rfl, rfl⟩
  | ⟨none, v, p⟩ :: r, h => by
    have h' : (r.filterMap (·.arg)).length = r.length + 1 := h
    have := List.length_filterMap_le (·.arg) r
    omega
  | ⟨some x, v, p⟩ :: r, h => by
    obtain ⟨h1, h2, h3⟩ := kw_all (X := X) (pos := pos) (kws := r) (by simpa using h)
    have e : backToKw pos (keywordEach (⟨some x, v, p⟩ :: r) X.env) = (some x, do let u ← eval v X.env; standAt pos; pure u) :: backToKw pos (keywordEach r X.env) := rfl
    rw [e]
    refine ⟨by rw [List.all_cons, h1]; rfl, ?_, by rw [List.any_cons, h3]; rfl⟩
    show x :: List.filterMap (·.1) (backToKw pos (keywordEach r X.env)) = x :: r.filterMap (·.arg)
    rw [h2]
theorem vals_getD : ∀ {vs : List V} {us : List Value} (p : Nat), Vals vs us → RelV (vs.getD p .non) (us.getD p .none)
  | _, _, p, .nil => by simp; exact rfl
  | _, _, 0, .cons h _ => h
  | _, _, p + 1, .cons _ t => by simpa using vals_getD p t
theorem vals_perm {vs : List V} {us : List Value} (h : Vals vs us) : ∀ l : List Nat, Vals (l.map fun p => vs.getD p .non) (l.map fun p => us.getD p .none)
  | [] => .nil
  | p :: l => .cons (vals_getD p h) (vals_perm h l)
theorem rep_getD {K : PySem.W.Frag} {J : Jar} {Z : Hp} : ∀ {vs : List V} {ds : List D} (p : Nat), RepL K J Z vs ds → Rep K J Z (vs.getD p .non) (ds.getD p .none)
  | _, _, p, .nil => by simp; exact .non
  | _, _, 0, .cons h _ => h
  | _, _, p + 1, .cons _ t => by simpa using rep_getD p t
theorem rep_perm {K : PySem.W.Frag} {J : Jar} {Z : Hp} {vs : List V} {ds : List D} (h : RepL K J Z vs ds) : ∀ l : List Nat, RepL K J Z (l.map fun p => vs.getD p .non) (l.map fun p => ds.getD p .none)
  | [] => .nil
  | p :: l => .cons (rep_getD p h) (rep_perm h l)
section
variable {cf : Cfg} {J : Jar} {XR : XRT} {C : Calls} {lv : Nat} {X : Cx} {S : Sc} {W : WX} (G : Good cf J XR C lv X S) (hC : CMono C)
theorem run_GK {pins : List (Addr × Obj)} {σ : L2.St} {H : Hp} {s : Shared} {Q : VK} {us ws : List Value} {vs zs : List V} {f : Nat} {a : Addr} {fd : FuncData} {ps ks : List Str}
    (F : FnG X.prog X.w X.K X.mg X.base J XR C lv f a fd ps) (pl : Plain fd ps) (hr : Room lv X.A) (gd : X.A.guards = some []) (tk : Takes X W) (I : Inv X pins σ H s) (r : Vals vs us) (rz : Vals zs ws) (hk : kOk ps us.length ks = true) (hw : ws.length = ks.length)
    (h : spOf X.K J XR C f ((kperm ps us.length ks).map fun p => (vs ++ zs).getD p .non) H Q (WE W σ)) : wpAny (model X.prog X.w) X.A (call (.ref a) us (ks.zip ws)) (EP X pins σ Q) X.xe s := by
  have kl : (kperm ps us.length ks).length = ps.length := by unfold kperm; simp
  refine wpAny_call (codeAny_mono (F.run X.A X.stack s H ⟨us, ks.zip ws⟩ ((kperm ps us.length ks).map fun p => (us ++ ws).getD p .none) _ Q (WE W σ) hr gd I.env0 (.of_eq (kbind pl hk hw)) (vals_perm (r.append rz) _) (by rw [List.length_map, kl]) h) fun z s' hq => ?_)
  cases z with
  | error e => exact passAt tk σ pins H s e s' I hq
  | ok fl =>
    cases fl with
    | ret u => exact I.after hq
    | next => exact hq.elim
    | brk => exact hq.elim
    | cont => exact hq.elim
include hC
theorem k_nil : PK X [] (lEs X.K J XR C W .nil) := by
  refine pk_nil.imp fun pins s σ H Q I ⟨F, Z, r, Y, R, hx, h⟩ => ?_
  unfold exsW at h
  exact h [] H Z (.refl _) R .nil
theorem k_cons {a : Ex} {as : Exs} {e : Expr} {n : Option Str} {kp : Pos} {es : List Keyword} (ha : PE X e (lE X.K J XR C W a)) (hr : PK X es (lEs X.K J XR C W as)) : PK X (⟨n, e, kp⟩ :: es) (lEs X.K J XR C W (.cons a as)) := by
  refine (pk_cons ha hr).imp fun pins s σ H Q I ⟨F, Z, r, Y, R, hx, h⟩ => ?_
  unfold exsW at h
  refine use_E hC R hx h fun x r1 h1 v H1 Z1 s1 R1 p1 => ?_
  obtain ⟨d, r2, Z2, s2, R2, hd, h2⟩ := R1.frz p1 h1
  refine use_Es hC R2 ((hx.mono s1).mono s2) h2 fun ds r3 h3 vs H3 Z3 s3 R3 hds => ?_
  exact h3 _ H3 Z3 ((s1.trans s2).trans s3) R3 (.cons (hd.mono s3) hds)
include G
theorem s_callk {f : Nat} {as ks : Exs} {qs : List Nat} {x : Str} {es : List Expr} {k : Keyword} {kws : List Keyword} {p pos : Pos} {fp : Str × List Str} (tk : Takes X W) (hf : cf.fns[f]? = some fp) (hx : fp.1 = x) (h0 : cf.dfl.getD f [] = []) (hk : kOk fp.2 (exsLen as) ((k :: kws).filterMap (·.arg)) = true)
    (hq : qs = kperm fp.2 (exsLen as) ((k :: kws).filterMap (·.arg))) (hn : ((k :: kws).filterMap (·.arg)).length = (k :: kws).length) (hkl : exsLen ks = (k :: kws).length) (hg : glB S x = true) (ok : okName x = true)
    (hss : es.all notStar = true) (hel : exsLen as = es.length) (ha : PA X es (lEs X.K J XR C W as)) (hb : PK X (k :: kws) (lEs X.K J XR C W ks)) : PE X (.Call (.Name x p) es (k :: kws) pos) (lE X.K J XR C W (.callk f as ks qs)) := by
  obtain ⟨a, fd, mg, kp, _, F, pl, _⟩ := (G.fns f fp hf).ex
  have pl := pl h0
  subst hx hq
  obtain ⟨w1, w2, w3⟩ := kw_all (X := X) (pos := pos) hn
  refine ⟨fun pins s σ H Q I ⟨F0, Z, r, Y, R, hx, h⟩ => ?_⟩
  unfold exW at h
  have l : lEs X.K J XR C W as σ H fun vs H1 => vs.length = exsLen as ∧ lEs X.K J XR C W ks σ H1 fun zs H2 => zs.length = (k :: kws).length ∧ spOf X.K J XR C f ((kperm fp.2 (exsLen as) ((k :: kws).filterMap (·.arg))).map fun p => (vs ++ zs).getD p .non) H2 Q (WE W σ) := by
    refine use_Es hC R hx (exsW_len hC h) fun ds r3 h3 vs H3 Z3 s3 R3 hds => ?_
    obtain ⟨h4, h3⟩ := h3
    refine ⟨by rw [hds.length, h4], use_Es hC R3 (hx.mono s3) (exsW_len hC h3) fun es r5 h5 zs H5 Z5 s5 R5 hes => ?_⟩
    obtain ⟨h6, h5⟩ := h5
    refine ⟨by rw [hes.length, h6, hkl], Z5, _, r5.g, R5.inn, rep_perm ((hds.mono s5).append hes) _, hC f _ _ _ _ _ _ (fun d g' hd v H' Z' o rv => ?_) (fun e g' he cls dd H' Z' o xr => ?_) h5⟩
    · exact hd v H' Z' ((s3.trans s5).trans o.same) (R5.out o) rv
    · exact hx e (r5.at g') he H' Z' cls dd ((s3.trans s5).trans o.same) (R5.out o) xr
  have fin : ∀ (us : List Value) (s1 : Shared), AP X pins σ (fun vs H1 => vs.length = exsLen as ∧ lEs X.K J XR C W ks σ H1 fun zs H2 => zs.length = (k :: kws).length ∧ spOf X.K J XR C f ((kperm fp.2 (exsLen as) ((k :: kws).filterMap (·.arg))).map fun p => (vs ++ zs).getD p .non) H2 Q (WE W σ)) us s1 →
      wpAny (model X.prog X.w) X.A (evalAll ((backToKw pos (keywordEach (k :: kws) X.env)).map (·.2))) (fun ws s2 => X.K.In s2.heap ∧ wpAny (model X.prog X.w) X.A (call (.ref a) ([] ++ us) (((backToKw pos (keywordEach (k :: kws) X.env)).filterMap (·.1)).zip ws)) (EP X pins σ Q) X.xe s2) X.xe s1 := by
    rintro us s1 ⟨vs, H1, I1, rv, e1, q⟩
    refine thn (hb.run pos pins s1 σ H1 _ I1 q) fun ws s2 ⟨zs, H2, I2, rz, e2, q2⟩ => ⟨I2.kIn, ?_⟩
    rw [w2, List.nil_append]
    have ul : us.length = exsLen as := by rw [← rv.length, e1]
    refine run_GK F pl G.room G.gd tk I2 rv rz (by rw [ul]; exact hk) (by rw [← rz.length, e2, hn]) (by rw [ul]; exact q2)
  refine wpAny_Call_Name_kw (ld_glob I (G.gl hg) mg ?_ (okName_of G ok).1)
  cases es with
  | nil =>
    have l0 := ha.run pos pins s σ H _ I l
    refine PySem.W.callWith_KW0 (h₀ := X.base) I.ok.mod.kin kp w1 ?_ (by rw [w3]; rfl)
    cases as with
    | nil =>
      unfold lEs at l
      obtain ⟨F1, Z1, r1, Y1, R1, hx1, h1⟩ := l
      unfold exsW at h1
      exact fin [] s ⟨[], H, I, .nil, h1 [] H Z1 (.refl _) R1 .nil⟩
    | cons b bs => cases hel
  | cons e es =>
    have hs := hss
    rw [List.all_cons, Bool.and_eq_true] at hs
    refine PySem.W.callWith_KW (h₀ := X.base) I.ok.mod.kin kp w1 (thn (ha.run pos pins s σ H _ I l) fun us s1 hh => fin us s1 hh) ?_ (star_of hs.1)
    rw [w3, Bool.or_false]
    exact back_any (star_any hss)
end
end G

set_option linter.all false
set_option maxRecDepth 100000
set_option Elab.async false
/-! Kj: the law's random state, read and changed. -/
namespace G
open PySem PySem.Spec PyProof.Rows L2
theorem shaped_ints : ∀ ns : List Int, shaped (.list (ns.map .int)) := fun ns => by
  have h1 : PyData.canLayAll0 (ns.map .int) = true := by
    induction ns with
    | nil => rfl
    | cons n ns ih => simp only [List.map_cons, PyData.canLayAll0, ih, PyData.canLay0, Bool.and_self]
  have h2 : PyData.depth (.list (ns.map .int)) ≤ 64 := by
    have : ∀ ns : List Int, PyData.depthAll (ns.map .int) ≤ 1 := fun ns => by
      induction ns with
      | nil => simp [PyData.depthAll]
      | cons n ns ih => simp [PyData.depthAll, PyData.depth] at ih ⊢ <;> omega
    have := this ns
    simp only [PyData.depth]
    omega
  show SeqAt.shaped _ = true
  unfold SeqAt.shaped
  rw [Bool.and_eq_true]
  exact ⟨by simpa [PyData.canLay0] using h1, decide_eq_true h2⟩
theorem jar_rep {K : PySem.W.Frag} {J : Jar} {Z : Hp} {v : V} {d : D} (h : Rep K J Z v d) (hj : isJar (.fz d) = true) : ∃ a, J.at_ = some a ∧ v = .ref a := by
  unfold isJar at hj
  split at hj
  · rename_i e
    cases e
    cases h with
    | jar h => exact ⟨_, h, rfl⟩
  · cases hj
theorem isJar_fz {s : Slot} (h : isJar s = true) : ∃ d, s = .fz d := by cases s <;> first | exact ⟨_, rfl⟩ | cases h
section
variable {K : PySem.W.Frag} {J : Jar} {F : Fm} {σ : L2.St} {H H' Z : Hp} {r : En}
theorem Rel.jarAt (R : Rel K J F σ H Z r) {i : Nat} (h : isJar (rd r i) = true) : ∃ a, J.at_ = some a ∧ σ[i]? = some (some (.ref a)) := by
  obtain ⟨d, e⟩ := isJar_fz h
  obtain ⟨v, h1, h2⟩ := R.fz i d e
  rw [e] at h
  obtain ⟨a, h3, rfl⟩ := jar_rep h2 h
  exact ⟨a, h3, h1⟩
/-- the random state is changed -/
theorem Rel.jput (R : Rel K J F σ H Z r) {g : Gh} (hH : ∀ b, ¬ J.A b → H' b = H b) (hp : J.P g H') : Rel K J F σ H' Z (r.at g) := by
  refine ⟨fun b o e => ?_, fun b o e n => ?_, hp, R.jz, R.len, R.fz, fun i ds e => ?_, R.sep, R.zs, R.zo, R.ng, R.gf, R.al⟩
  · by_cases j : J.A b
    · rw [R.jz b j] at e; cases e
    · rw [hH b j]; exact R.sub b o e
  · rw [hH b n]; exact R.frame b o e n
  · obtain ⟨a, vs, e1, e2, e3, e4, e5, e6, e7⟩ := R.ow i ds e
    exact ⟨a, vs, e1, by rw [hH a e7]; exact e2, e3, e4, e5, e6, e7⟩
theorem rd_at {r : En} {g : Gh} {i : Nat} : rd (r.at g) i = rd r i := rfl
theorem upd_off {A : Addr → Prop} {a : Addr} {o : HO} (h : A a) : ∀ b, ¬ A b → upd H a o b = H b := fun b n => upd_ne (fun e => n (e ▸ h))
end
theorem key_of {k : Sum Int Str} {c : Expr} (h : chkKey k c = true) : (∃ x n p, k = .inr x ∧ c = .Constant (.str x) n p) ∨ ∃ i n p, k = .inl i ∧ c = .Constant (.int i) n p := by
  unfold chkKey at h
  split at h
  · cases of_decide_eq_true h; exact .inl ⟨_, _, _, rfl, rfl⟩
  · cases of_decide_eq_true h; exact .inr ⟨_, _, _, rfl, rfl⟩
  · cases h
section
variable {cf : Cfg} {J : Jar} {XR : XRT} {C : Calls} {lv : Nat} {X : Cx} {S : Sc} {W : WX} (G : Good cf J XR C lv X S) (hC : CMono C)
include G
/-- x[k], what stands there -/
def lFld (K : PySem.W.Frag) (J : Jar) (i : Nat) (k : Sum Int Str) : TE := fun σ H Q => ∃ F Z r d, Rel K J F σ H Z r ∧ isJar (rd r i) = true ∧ gget r.g k = some d ∧
  ∀ v, ((∃ n, d = .int n ∧ v = .int n) ∨ ∃ (ns : List Int) (l : Addr), d = .list (ns.map .int) ∧ v = .ref l ∧ J.L k = some l ∧ J.A l ∧ H l = some (.lst (ns.map V.int)) ∧ ns.length ≤ sizeLine) → Q v H
theorem j_fld {i : Nat} {k : Sum Int Str} {x : Str} {c : Expr} {p pos : Pos} (h1 : X.N[i]? = some x) (h2 : visB S x = true) (h3 : okName x = true) (hk : chkKey k c = true) (hj : cf.jk = some (isStrK k)) : PE X (.Subscript (.Name x p) c pos) (lFld X.K J i k) := by
  obtain ⟨d1, d2⟩ := okName_of G h3
  obtain ⟨a, jf⟩ := G.jf _ hj
  have hu : X.A.units + 1 < cLine := by have := G.room.un; omega
  rcases key_of hk with ⟨y, n, q, rfl, rfl⟩ | ⟨y, n, q, rfl, rfl⟩
  · refine (pe_dget hu (pe_var h1 (G.vis h2) d1 d2) pe_str (by intro _ _; rfl)).imp fun pins s σ H Q I ⟨F, Z, r, d, R, e1, e2, h⟩ => ?_
    obtain ⟨a', g1, g2⟩ := R.jarAt e1
    rw [jf.at_] at g1
    cases g1
    obtain ⟨v, g3, g4⟩ := jf.get _ _ _ _ R.jar e2
    have g3' : ∃ kvs x, (Sum.inr y : Sum Int Str) = .inr x ∧ H a = some (.dK kvs) ∧ valV kvs (.inr y) = some v := g3
    obtain ⟨kvs, _, _, g5, g6⟩ := g3'
    refine ⟨_, g2, a, v, rfl, ?_, h v g4⟩
    rw [← g6]
    exact DGet.k (k := Sum.inr y) g5
  · refine (pe_ix ix_list (pe_var h1 (G.vis h2) d1 d2) pe_int (by intro _ _; rfl)).imp fun pins s σ H Q I ⟨F, Z, r, d, R, e1, e2, h⟩ => ?_
    obtain ⟨a', g1, g2⟩ := R.jarAt e1
    rw [jf.at_] at g1
    cases g1
    obtain ⟨v, g3, g4⟩ := jf.get _ _ _ _ R.jar e2
    have g3' : ∃ vs i, (Sum.inl y : Sum Int Str) = .inl i ∧ H a = some (.lst vs) ∧ atI vs i = some v := g3
    obtain ⟨vs, i, e, g5, g6⟩ := g3'
    cases e
    exact ⟨_, g2, a, vs, y, v, rfl, rfl, .of g5, g6, h v g4⟩
/-- a list of the random state -/
def lSrc (K : PySem.W.Frag) (J : Jar) (s : Src) : TE := fun σ H Q => ∃ F Z r k ds, Rel K J F σ H Z r ∧ srcK r s = some k ∧ gget r.g k = some (.list ds) ∧
  ∀ (ns : List Int) (l : Addr), ds = ns.map .int → J.L k = some l → J.A l → H l = some (.lst (ns.map V.int)) → ns.length ≤ sizeLine → Q (.ref l) H
theorem j_src {s : Src} {e : Expr} (h : chkSrc cf X.N S s e = true) : PE X e (lSrc X.K J s) := by
  unfold chkSrc at h
  split at h
  · obtain ⟨h1, g1⟩ := and2 h
    obtain ⟨h2, g2⟩ := and2 g1
    obtain ⟨h3, g3⟩ := and2 g2
    obtain ⟨h4, h5⟩ := and2 g3
    refine (j_fld (J := J) G (of_decide_eq_true h1) h2 h3 h4 (of_decide_eq_true h5)).imp fun pins s σ H Q I ⟨F, Z, r, k, ds, R, e1, e2, q⟩ => ?_
    unfold srcK at e1
    dsimp only at e1
    split at e1
    · rename_i ej
      cases e1
      refine ⟨F, Z, r, _, R, ej, e2, fun v hv => ?_⟩
      rcases hv with ⟨n, z, _⟩ | ⟨ns, l, z, rfl, f1, f2, f3, f4⟩
      · cases z
      · cases z
        exact q ns l rfl f1 f2 f3 f4
    · cases e1
  · obtain ⟨h1, g1⟩ := and2 h
    obtain ⟨h2, g2⟩ := and2 g1
    obtain ⟨h3, h4⟩ := and2 g2
    obtain ⟨d1, d2⟩ := okName_of G h3
    obtain ⟨dk, hdk⟩ := Option.isSome_iff_exists.mp h4
    obtain ⟨a, jf⟩ := G.jf dk hdk
    refine (pe_var (of_decide_eq_true h1) (G.vis h2) d1 d2).imp fun pins s σ H Q I ⟨F, Z, r, k, ds, R, e1, e2, q⟩ => ?_
    unfold srcK at e1
    dsimp only at e1
    split at e1
    · rename_i k2 ea
      cases e1
      obtain ⟨l, f1, f2, f3⟩ := R.al _ _ ea
      obtain ⟨v, _, hv⟩ := jf.get _ _ _ _ R.jar e2
      rcases hv with ⟨n, z, _⟩ | ⟨ns, l2, z, rfl, y1, y2, y3, y4⟩
      · cases z
      · cases z
        rw [f1] at y1
        cases y1
        exact ⟨_, f3, q ns l rfl f1 f2 y3 y4⟩
    · cases e1
  · cases h
theorem src_base {s : Src} {e : Expr} {m : Str} (h : chkSrc cf X.N S s e = true) : attributeBase e m X.env (eval e X.env) = eval e X.env := by
  unfold chkSrc at h
  split at h <;> first | rfl | cases h
theorem j_jg {i : Nat} {k : Sum Int Str} {x : Str} {c : Expr} {p pos : Pos} (h1 : X.N[i]? = some x) (h2 : visB S x = true) (h3 : okName x = true) (hk : chkKey k c = true) (hj : cf.jk = some (isStrK k)) : PE X (.Subscript (.Name x p) c pos) (lE X.K J XR C W (.jg i k)) := by
  refine (j_fld (J := J) G h1 h2 h3 hk hj).imp fun pins s σ H Q I ⟨F, Z, r, Y, R, hx, q⟩ => ?_
  unfold exW at q
  obtain ⟨e1, q⟩ := q
  split at q
  · rename_i n e2
    refine ⟨F, Z, r, _, R, e1, e2, fun v hv => ?_⟩
    rcases hv with ⟨n, z, rfl⟩ | ⟨ns, l, z, _⟩
    · cases z
      exact q _ H Z (.refl _) R (.int _)
    · cases z
  · exact q.elim
theorem map_int {ns : List Int} {n : Int} {ds : List D} (h : ns.map (PyData.int) = .int n :: ds) : ∃ ms, ns = n :: ms ∧ ds = ms.map .int := by
  cases ns with
  | nil => cases h
  | cons m ms => cases h; exact ⟨ms, rfl, rfl⟩
include hC
theorem j_jn {s : Src} {e : Expr} {p pos : Pos} (h : chkSrc cf X.N S s e = true) : PE X (.Compare e [.NotEq] [.List [] p] pos) (lE X.K J XR C W (.jn s)) ∧ PT X (.Compare e [.NotEq] [.List [] p] pos) (lT X.K J XR C W (.e (.jn s))) := by
  have core : ∀ {F : Fm} {Z : Hp} {r : En} {σ : L2.St} {H : Hp} {Q : VK} {k : Sum Int Str} {ds : List D}, Rel X.K J F σ H Z r → srcK r s = some k → gget r.g k = some (.list ds) → (∀ H' , Rel X.K J F σ H' Z r → Q (.bl (!ds.isEmpty)) H') →
      lSrc X.K J s σ H fun x H1 => tLst tNil σ H1 fun y H2 => rCmp X.K J .ne x y H2 Q := by
    intro F Z r σ H Q k ds R e1 e2 q
    refine ⟨F, Z, r, k, ds, R, e1, e2, fun ns l hd f1 f2 f3 f4 => ?_⟩
    subst hd
    refine ⟨Nat.zero_le _, fun o ho => ?_⟩
    have nl : l ≠ o := by rintro rfl; rw [f3] at ho; cases ho
    have R1 := R.grow (o := .lst []) ho
    refine ⟨Z, .list (ns.map .int), .list [], R1.sub, ⟨l, _, rfl, by rw [upd_ne nl]; exact f3, by rw [List.length_map]; exact f4, RepL.ofInts ns⟩, ⟨o, [], rfl, upd_same, Nat.zero_le _, .nil⟩, ?_⟩
    unfold cmpW
    dsimp only
    unfold eqW
    dsimp only
    refine ⟨shaped_ints ns, shaped_ints [], ?_⟩
    have : (!PyData.eqv (.list (ns.map .int)) (.list [])) = !(ns.map (PyData.int)).isEmpty := by
      cases ns with
      | nil => rfl
      | cons n ns => simp [PyData.eqv, PyData.eqvAll]
    rw [this]
    exact q _ R1
  refine ⟨?_, ?_⟩
  · refine (pe_cmpR (cmp_all (J := J) (hu65 G hC) (o := .ne) rfl) (j_src (J := J) G h) (pe_lst pa_nil) rfl).imp fun pins s σ H Q I ⟨F, Z, r, Y, R, hx, q⟩ => ?_
    unfold exW at q
    split at q
    · split at q
      · exact core R (by assumption) (by assumption) fun H' R' => q _ H' Z (.refl _) R' (.bl _)
      · exact q.elim
    · exact q.elim
  · refine (pt_cmpR (cmp_all (J := J) (hu65 G hC) (o := .ne) rfl) (j_src (J := J) G h) (pe_lst pa_nil) rfl).imp fun pins s σ H Q I ⟨F, Z, r, Y, R, hx, q⟩ => ?_
    unfold tsW exW at q
    split at q
    · split at q
      · exact core R (by assumption) (by assumption) fun H' R' => ⟨_, rfl, q H' Z (.refl _) R'⟩
      · exact q.elim
    · exact q.elim
omit hC
theorem jp_last {s : Src} {e : Expr} {ap pos : Pos} (h : chkSrc cf X.N S s e = true) (hl : (ap.endLine == pos.line) = true) : PE X (.Call (.Attribute e "pop" ap) [] [] pos) (lE X.K J XR C W (.jp s false)) := by
  refine (pe_bm0 PySem.F.plainAttrs_list PySem.F.slot_list_pop PySem.F.type_list_pop mt_pop (j_src (J := J) G h) (src_base G h) hl).imp fun pins s2 σ H Q I ⟨F, Z, r, Y, R, hx, q⟩ => ?_
  unfold exW at q
  split at q
  · rename_i k e1
    split at q
    · rename_i ds e2
      rw [if_neg Bool.false_ne_true, if_neg Bool.false_ne_true] at q
      split at q
      · rename_i d e3
        refine ⟨F, Z, r, k, ds, R, e1, e2, fun ns l hd f1 f2 f3 f4 => ?_⟩
        subst hd
        rw [List.getLast?_map] at e3
        cases hn : ns.getLast? with
        | none => rw [hn] at e3; cases e3
        | some n =>
          rw [hn] at e3
          cases e3
          obtain ⟨dk, hdk⟩ : ∃ dk, cf.jk = some dk := by
            unfold chkSrc at h
            split at h
            · exact ⟨_, of_decide_eq_true (and2 (and2 (and2 (and2 h).2).2).2).2⟩
            · exact Option.isSome_iff_exists.mp (and2 (and2 (and2 h).2).2).2
            · cases h
          obtain ⟨a, jf⟩ := G.jf dk hdk
          have e7 : (ns.map V.int)[(ns.map V.int).length - 1]? = some (.int n) := by
            rw [← List.getLast?_eq_getElem?, List.getLast?_map, hn]
            rfl
          refine ⟨.inl ⟨rfl, _, .of f3⟩, l, _, _, rfl, rfl, f3, e7, ?_⟩
          have hp := jf.putL _ _ _ _ l ns.dropLast R.jar e2 f1 (by rw [List.length_dropLast]; omega)
          have ed : (ns.map (PyData.int)).dropLast = ns.dropLast.map .int := by rw [List.map_dropLast]
          have ev : (ns.map V.int).dropLast = ns.dropLast.map V.int := by rw [List.map_dropLast]
          rw [ed] at q
          rw [ev]
          exact q _ _ Z (.refl _) (R.jput (upd_off f2) hp) (.int _)
      · exact q.elim
    · exact q.elim
  · exact q.elim
theorem jp_first {s : Src} {e : Expr} {ap pos pk : Pos} {kk : Nat} (h : chkSrc cf X.N S s e = true) (hl : (ap.endLine == pos.line) = true) : PE X (.Call (.Attribute e "pop" ap) [.Constant (.int 0) kk pk] [] pos) (lE X.K J XR C W (.jp s true)) := by
  refine (pe_bm PySem.F.plainAttrs_list PySem.F.slot_list_pop PySem.F.type_list_pop mt_popAt (j_src (J := J) G h) (pa_cons pe_int pa_nil) (src_base G h) rfl hl).imp fun pins s2 σ H Q I ⟨F, Z, r, Y, R, hx, q⟩ => ?_
  unfold exW at q
  split at q
  · rename_i k e1
    split at q
    · rename_i ds e2
      rw [if_pos rfl, if_pos rfl] at q
      split at q
      · rename_i d e3
        refine ⟨F, Z, r, k, ds, R, e1, e2, fun ns l hd f1 f2 f3 f4 => ?_⟩
        subst hd
        obtain ⟨dk, hdk⟩ : ∃ dk, cf.jk = some dk := by
          unfold chkSrc at h
          split at h
          · exact ⟨_, of_decide_eq_true (and2 (and2 (and2 (and2 h).2).2).2).2⟩
          · exact Option.isSome_iff_exists.mp (and2 (and2 (and2 h).2).2).2
          · cases h
        obtain ⟨a, jf⟩ := G.jf dk hdk
        cases ns with
        | nil => cases e3
        | cons n ns =>
          cases e3
          refine ⟨.inl ⟨rfl, _, .of f3⟩, l, _, 0, 0, .int n, rfl, rfl, f3, by omega, by omega, by simp [seqIndex?], rfl, ?_⟩
          have hp := jf.putL _ _ _ _ l ns R.jar e2 f1 (by rw [List.length_cons] at f4; omega)
          exact q _ _ Z (.refl _) (R.jput (upd_off f2) hp) (.int _)
      · exact q.elim
    · exact q.elim
  · exact q.elim
theorem sc_cut {i : Nat} {n : Int} {x : Str} {p pn p2 pos : Pos} {kn : Nat} (h1 : X.N[i]? = some x) (h2 : visB S x = true) (h3 : okName x = true) (hj : cf.js = true) : PE X (.Subscript (.Name x p) (.Slice none (some (.Constant (.int n) kn pn)) none p2) pos) (lE X.K J XR C W (.scut i n)) := by
  obtain ⟨d1, d2⟩ := okName_of G h3
  obtain ⟨a, sf⟩ := G.sf hj
  refine (pe_slice sl_list (pe_var h1 (G.vis h2) d1 d2) po_none (po_some pe_int)).imp fun pins s σ H Q I ⟨F, Z, r, Y, R, hx, q⟩ => ?_
  unfold exW at q
  obtain ⟨e1, q⟩ := q
  obtain ⟨a', g1, g2⟩ := R.jarAt e1
  rw [sf.at_] at g1
  cases g1
  split at q
  · rename_i ds e2
    obtain ⟨ns, rfl, f1, f2⟩ := sf.get _ _ _ R.jar e2
    refine ⟨_, g2, n, rfl, a, _, rfl, f1, fun o ho => ?_⟩
    obtain ⟨Z4, s4, R4, q4⟩ := R.res (z := .new _) ⟨o, _, ho, rfl, rfl, cut_rep (RepL.ofInts ns) none (some n), Nat.le_trans (cutV_length _ _ _) (by rw [List.length_map]; exact f2)⟩
    exact q _ _ Z4 s4 R4 q4
  · exact q.elim
theorem sc_len {i : Nat} {x : Str} {p pf pos : Pos} (h1 : X.N[i]? = some x) (h2 : visB S x = true) (h3 : okName x = true) (hg : glB S "len" = true) (hf : cf.free.contains "len" = true) (hj : cf.js = true) : PE X (.Call (.Name "len" pf) [.Name x p] [] pos) (lE X.K J XR C W (.slen i)) := by
  obtain ⟨d1, d2⟩ := okName_of G h3
  obtain ⟨a, sf⟩ := G.sf hj
  refine (pe_callB call_len_seq (G.gl hg) (G.facts.free _ hf) PySem.boot_len (pa_cons (pe_var h1 (G.vis h2) d1 d2) pa_nil)).imp fun pins s σ H Q I ⟨F, Z, r, Y, R, hx, q⟩ => ?_
  unfold exW at q
  obtain ⟨e1, q⟩ := q
  obtain ⟨a', g1, g2⟩ := R.jarAt e1
  rw [sf.at_] at g1
  cases g1
  split at q
  · rename_i ds e2
    obtain ⟨ns, rfl, f1, f2⟩ := sf.get _ _ _ R.jar e2
    refine ⟨_, g2, a, _, rfl, .inl f1, ?_⟩
    rw [List.length_map] at q ⊢
    exact q _ H Z (.refl _) R (.int _)
  · exact q.elim
end
end G

set_option linter.all false
set_option maxRecDepth 100000
set_option maxHeartbeats 4000000
set_option Elab.async false
/-! Sk: every expression that is checked does what its core term says. -/
namespace G
open PySem PySem.Spec PyProof.Rows L2
theorem _root_.L2.PTs.imp {X : Cx} {e : List Expr} {t t' : TT} (h : PTs X e t) (hi : ∀ pins s σ H Q, Inv X pins σ H s → t' σ H Q → t σ H Q) : PTs X e t' := ⟨fun pins s σ H Q I q => h.run pins s σ H Q I (hi pins s σ H Q I q)⟩
def isCmp : Expr → Bool | .Compare .. => true | _ => false
def isBoo : Expr → Bool | .BoolOp .. => true | _ => false
/-- the names that a comprehension's block stores -/
def blkSt (scope : Scope) : Str → Bool := fun x => match scope.names.lookup x with | some .local => true | some .cell => true | _ => false
theorem Good.blk {cf : Cfg} {J : Jar} {XR : XRT} {C : Calls} {lv : Nat} {X : Cx} {S : Sc} (G : Good cf J XR C lv X S) {scope : Scope} (hk : scope.kind = .function) (s : Shared) (H : Hp) (D : Addr) (cl : List (Str × Addr)) (fp : List Addr) :
    Good cf J XR C lv (X.blk s H scope (compEnvC scope cl D X.env) fp) ⟨relS scope S.sc, blkSt scope⟩ := by
  have es : (compEnvC scope cl D X.env).scope = relS scope S.sc := by rw [← G.sc]; rfl
  refine ⟨G.calm, G.room, G.gd, G.nd, es, by show (relS scope S.sc).kind = _; exact hk, fun x hx => ?_, G.facts, G.jf, G.sf, G.fns⟩
  have hx' : (match scope.names.lookup x with | some .local => true | some .cell => true | _ => false) = true := hx
  show Loc (compEnvC scope cl D X.env).scope x ∧ ((scope.names.lookup x == some .cell) = true ∨ (compEnvC scope cl D X.env).scope.names.lookup x = some .local)
  rw [es]
  split at hx'
  · have q := lookup_relS_keep (sc := S.sc) (k := NameKind.local) (by decide) (by assumption)
    exact ⟨.inl q, .inr q⟩
  · rename_i e
    have q := lookup_relS_keep (sc := S.sc) (k := NameKind.cell) (by decide) e
    exact ⟨.inr q, .inl (by rw [e]; rfl)⟩
  · cases hx'
theorem ofPW {X : Cx} {e : Expr} {t : TT} (w : PW X e t) : PT X e t ∧ (isBoo e = true → PW X e t) := ⟨w.pt, fun _ => w⟩
theorem isTup_of {e : Expr} (h : isTup e = true) : ∃ es k p, e = .Tuple es k p := by cases e <;> first | exact ⟨_, _, _, rfl⟩ | cases h
theorem noTakes {X : Cx} : Takes X noW := fun _ _ ⟨_, _, _, _, _, _, _, _, _, _, _, _, _, _, _, _, w⟩ => w.elim
theorem chkEs_star {cf : Cfg} {N : List Str} {S : Sc} : ∀ {es : Exs} {xs : List Expr}, chkEs cf N S es xs = true → xs.all notStar = true ∧ exsLen es = xs.length
  | .nil, [], _ => ⟨rfl, rfl⟩
  | .cons e es, x :: xs, h => by
    unfold chkEs at h
    obtain ⟨h1, h⟩ := and2 h
    obtain ⟨h2, h3⟩ := chkEs_star (and2 h).2
    exact ⟨by rw [List.all_cons, h1, h2]; rfl, by unfold exsLen; rw [h3]; rfl⟩
  | .nil, _ :: _, h => by unfold chkEs at h; cases h
  | .cons _ _, [], h => by unfold chkEs at h; cases h
theorem chkKs_len {cf : Cfg} {N : List Str} {S : Sc} : ∀ {es : Exs} {xs : List Keyword}, chkKs cf N S es xs = true → (xs.filterMap (·.arg)).length = xs.length ∧ exsLen es = xs.length
  | .nil, [], _ => ⟨rfl, rfl⟩
  | .cons e es, ⟨some n, x, p⟩ :: xs, h => by
    unfold chkKs at h
    obtain ⟨h2, h3⟩ := chkKs_len (and2 h).2
    exact ⟨by simpa using h2, by unfold exsLen; rw [h3]; rfl⟩
  | .cons e es, ⟨none, x, p⟩ :: xs, h => by unfold chkKs at h; cases h
  | .nil, _ :: _, h => by unfold chkKs at h; cases h
  | .cons _ _, [], h => by unfold chkKs at h; cases h
section
variable {cf : Cfg} {J : Jar} {XR : XRT} {C : Calls} {lv : Nat} (hC : CMono C)
include hC
theorem bi_nonempty {X : Cx} {S : Sc} {W : WX} (G : Good cf J XR C lv X S) {k : BI} {as : Exs} {a : Ex} {x : Str} {xs : List Expr} {p pos : Pos} (nk : ¬ isIsi k = true) (e1 : x = biName k) (h4 : (if x = ("gcd" : Str) then cf.gcd else cf.free.contains x) = true) (h3 : glB S x = true)
    (h : chkEs cf X.N S (.cons a as) xs = true) (hs : xs.all notStar = true) (pa : PA X xs (lAs X.K J XR C W (.cons a as))) : PE X (.Call (.Name x p) xs [] pos) (lE X.K J XR C W (.bi k (.cons a as))) := by
  cases xs with
  | nil => unfold chkEs at h; cases h
  | cons y ys =>
    rw [List.all_cons] at hs
    exact s_bi G hC (by simpa using nk) e1 h4 h3 (and2 hs).1 (and2 hs).2 pa
mutual
theorem snd_E : ∀ (c : Ex) {X : Cx} {S : Sc} {W : WX} (G : Good cf J XR C lv X S) (tk : Takes X W) {e : Expr}, chkE cf X.N S c e = true → PE X e (lE X.K J XR C W c) ∧ (isCmp e = true → PT X e (lT X.K J XR C W (.e c)))
  | .v i, X, S, W, G, tk, e, h => by
    unfold chkE at h
    split at h
    all_goals first | (exact absurd h Bool.false_ne_true) | (rename_i heq; cases heq; done) | (rename_i heq; cases heq)
    refine ⟨?_, fun z => by cases z⟩
    exact s_v G (of_decide_eq_true (and2 h).1) (and2 (and2 h).2).1 (and2 (and2 h).2).2
  | .i n, X, S, W, G, tk, e, h => by
    unfold chkE at h
    split at h
    all_goals first | (exact absurd h Bool.false_ne_true) | (rename_i heq; cases heq; done) | (rename_i heq; cases heq)
    refine ⟨?_, fun z => by cases z⟩
    cases of_decide_eq_true h
    exact s_const pe_int (fun _ => .int _) fun _ _ _ q => by unfold exW at q; exact q
  | .b x, X, S, W, G, tk, e, h => by
    unfold chkE at h
    split at h
    all_goals first | (exact absurd h Bool.false_ne_true) | (rename_i heq; cases heq; done) | (rename_i heq; cases heq)
    refine ⟨?_, fun z => by cases z⟩
    cases of_decide_eq_true h
    exact s_const pe_bl (fun _ => .bl _) fun _ _ _ q => by unfold exW at q; exact q
  | .n, X, S, W, G, tk, e, h => by
    unfold chkE at h
    split at h
    all_goals first | (exact absurd h Bool.false_ne_true) | (rename_i heq; cases heq; done) | (rename_i heq; cases heq)
    refine ⟨?_, fun z => by cases z⟩
    exact s_const pe_non (fun _ => .non) fun _ _ _ q => by unfold exW at q; exact q
  | .s x, X, S, W, G, tk, e, h => by
    unfold chkE at h
    split at h
    all_goals first | (exact absurd h Bool.false_ne_true) | (rename_i heq; cases heq; done) | (rename_i heq; cases heq)
    refine ⟨?_, fun z => by cases z⟩
    cases of_decide_eq_true h
    exact s_const pe_str (fun _ => .str _) fun _ _ _ q => by unfold exW at q; exact q
  | .g x n, X, S, W, G, tk, e, h => by
    unfold chkE at h
    split at h
    all_goals first | (exact absurd h Bool.false_ne_true) | (rename_i heq; cases heq; done) | (rename_i heq; cases heq)
    refine ⟨?_, fun z => by cases z⟩
    exact s_g G (of_decide_eq_true (and2 h).1) (and2 (and2 h).2).1 (and2 (and2 (and2 h).2).2).1 (and2 (and2 (and2 h).2).2).2
  | .tup es, X, S, W, G, tk, e, h => by
    have ia := @snd_Es es
    unfold chkE at h
    split at h
    all_goals first | (exact absurd h Bool.false_ne_true) | (rename_i heq; cases heq; done) | (rename_i heq; cases heq)
    refine ⟨?_, fun z => by cases z⟩
    exact s_tup hC (of_decide_eq_true (and2 h).1) (ia G tk (and2 h).2)
  | .lst es, X, S, W, G, tk, e, h => by
    have ia := @snd_Es es
    unfold chkE at h
    split at h
    all_goals first | (exact absurd h Bool.false_ne_true) | (rename_i heq; cases heq; done) | (rename_i heq; cases heq)
    refine ⟨?_, fun z => by cases z⟩
    exact s_lst hC (of_decide_eq_true (and2 h).1) (ia G tk (and2 h).2)
  | .bin o a b, X, S, W, G, tk, e, h => by
    have ia := @snd_E a
    have ib := @snd_E b
    unfold chkE at h
    split at h
    all_goals first | (exact absurd h Bool.false_ne_true) | (rename_i heq; cases heq; done) | (rename_i heq; cases heq)
    refine ⟨?_, fun z => by cases z⟩
    exact s_bin hC (and2 h).1 (ia G tk (and2 (and2 h).2).1).1 (ib G tk (and2 (and2 h).2).2).1
  | .neg a, X, S, W, G, tk, e, h => by
    have ia := @snd_E a
    unfold chkE at h
    split at h
    all_goals first | (exact absurd h Bool.false_ne_true) | (rename_i heq; cases heq; done) | (rename_i heq; cases heq)
    refine ⟨?_, fun z => by cases z⟩
    exact s_neg hC (ia G tk h).1
  | .nt a, X, S, W, G, tk, e, h => by
    have ia := @snd_E a
    unfold chkE at h
    split at h
    all_goals first | (exact absurd h Bool.false_ne_true) | (rename_i heq; cases heq; done) | (rename_i heq; cases heq)
    refine ⟨?_, fun z => by cases z⟩
    exact s_nt hC (ia G tk h).1
  | .cmp o a b, X, S, W, G, tk, e, h => by
    have ia := @snd_E a
    have ib := @snd_E b
    unfold chkE at h
    split at h
    all_goals first | (exact absurd h Bool.false_ne_true) | (rename_i heq; cases heq; done) | (rename_i heq; cases heq)
    obtain ⟨h1, h⟩ := and2 h
    obtain ⟨h2, h⟩ := and2 h
    obtain ⟨h3, h4⟩ := and2 h
    exact ⟨s_cmp G hC h1 h2 (ia G tk h3).1 (ib G tk h4).1, fun _ => t_cmp G hC h1 h2 (ia G tk h3).1 (ib G tk h4).1⟩
  | .chain o p a b d, X, S, W, G, tk, e, h => by
    have ia := @snd_E a
    have ib := @snd_E b
    have id := @snd_E d
    unfold chkE at h
    split at h
    all_goals first | (exact absurd h Bool.false_ne_true) | (rename_i heq; cases heq; done) | (rename_i heq; cases heq)
    obtain ⟨h1, h⟩ := and2 h
    obtain ⟨h2, h⟩ := and2 h
    obtain ⟨h3, h⟩ := and2 h
    obtain ⟨h4, h⟩ := and2 h
    obtain ⟨h5, h6⟩ := and2 h
    exact ⟨s_chain G hC h1 h2 h3 (ia G tk h4).1 (ib G tk h5).1 (id G tk h6).1, fun _ => t_chain G hC h1 h2 h3 (ia G tk h4).1 (ib G tk h5).1 (id G tk h6).1⟩
  | .isN a, X, S, W, G, tk, e, h => by
    have ia := @snd_E a
    unfold chkE at h
    split at h
    all_goals first | (exact absurd h Bool.false_ne_true) | (rename_i heq; cases heq; done) | (rename_i heq; cases heq)
    exact ⟨s_isN hC (ia G tk h).1, fun _ => t_isN hC (ia G tk h).1⟩
  | .notN a, X, S, W, G, tk, e, h => by
    have ia := @snd_E a
    unfold chkE at h
    split at h
    all_goals first | (exact absurd h Bool.false_ne_true) | (rename_i heq; cases heq; done) | (rename_i heq; cases heq)
    exact ⟨s_notN hC (ia G tk h).1, fun _ => t_notN hC (ia G tk h).1⟩
  | .and a b, X, S, W, G, tk, e, h => by
    have ia := @snd_E a
    have ib := @snd_E b
    unfold chkE at h
    split at h
    all_goals first | (exact absurd h Bool.false_ne_true) | (rename_i heq; cases heq; done) | (rename_i heq; cases heq)
    · exact ⟨s_and hC (ia G tk (and2 h).1).1 (pe_one (ib G tk (and2 h).2).1), fun z => by cases z⟩
    · exact ⟨s_and hC (ia G tk (and2 h).1).1 (ib G tk (and2 h).2).1, fun z => by cases z⟩
  | .or a b, X, S, W, G, tk, e, h => by
    have ia := @snd_E a
    have ib := @snd_E b
    unfold chkE at h
    split at h
    all_goals first | (exact absurd h Bool.false_ne_true) | (rename_i heq; cases heq; done) | (rename_i heq; cases heq)
    · exact ⟨s_or hC (ia G tk (and2 h).1).1 (pe_one (ib G tk (and2 h).2).1), fun z => by cases z⟩
    · exact ⟨s_or hC (ia G tk (and2 h).1).1 (ib G tk (and2 h).2).1, fun z => by cases z⟩
  | .ite t a b, X, S, W, G, tk, e, h => by
    have it := @snd_T t
    have ia := @snd_E a
    have ib := @snd_E b
    unfold chkE at h
    split at h
    all_goals first | (exact absurd h Bool.false_ne_true) | (rename_i heq; cases heq; done) | (rename_i heq; cases heq)
    refine ⟨?_, fun z => by cases z⟩
    exact s_ite hC (it G tk (and2 h).1).1 (ia G tk (and2 (and2 h).2).1).1 (ib G tk (and2 (and2 h).2).2).1
  | .ix a i, X, S, W, G, tk, e, h => by
    have ia := @snd_E a
    have ib := @snd_E i
    unfold chkE at h
    split at h
    all_goals first | (exact absurd h Bool.false_ne_true) | (rename_i heq; cases heq; done) | (rename_i heq; cases heq)
    refine ⟨?_, fun z => by cases z⟩
    exact s_ix hC (by simpa using (and2 h).1) (ia G tk (and2 (and2 h).2).1).1 (ib G tk (and2 (and2 h).2).2).1
  | .cut a lo hi, X, S, W, G, tk, e, h => by
    have ia := @snd_E a
    have il := @snd_O lo
    have iu := @snd_O hi
    unfold chkE at h
    split at h
    all_goals first | (exact absurd h Bool.false_ne_true) | (rename_i heq; cases heq; done) | (rename_i heq; cases heq)
    refine ⟨?_, fun z => by cases z⟩
    exact s_cut hC (ia G tk (and2 h).1).1 (il G tk (and2 (and2 h).2).1) (iu G tk (and2 (and2 h).2).2)
  | .stp a lo k, X, S, W, G, tk, e, h => by
    have ia := @snd_E a
    unfold chkE at h
    split at h
    all_goals first | (exact absurd h Bool.false_ne_true) | (rename_i heq; cases heq; done) | (rename_i heq; cases heq)
    refine ⟨?_, fun z => by cases z⟩
    obtain ⟨h1, g1⟩ := and2 h
    obtain ⟨h2, g2⟩ := and2 g1
    cases of_decide_eq_true h1
    cases of_decide_eq_true h2
    exact s_stp hC (of_decide_eq_true (and2 g2).1) (ia G tk (and2 g2).2).1
  | .rev a, X, S, W, G, tk, e, h => by
    have ia := @snd_E a
    unfold chkE at h
    split at h
    all_goals first | (exact absurd h Bool.false_ne_true) | (rename_i heq; cases heq; done) | (rename_i heq; cases heq)
    refine ⟨?_, fun z => by cases z⟩
    exact s_rev hC (and2 h).1 (ia G tk (and2 h).2).1
  | .call f es, X, S, W, G, tk, e, h => by
    have ia := @snd_Es es
    unfold chkE at h
    split at h
    all_goals first | (exact absurd h Bool.false_ne_true) | (rename_i heq; cases heq; done) | (rename_i heq; cases heq)
    refine ⟨?_, fun z => by cases z⟩
    obtain ⟨h1, h⟩ := and2 h
    obtain ⟨h2, h⟩ := and2 h
    obtain ⟨h3, h⟩ := and2 h
    have hs := (chkEs_star h).1
    rw [List.all_cons] at hs
    split at h1
    · exact s_call G hC tk (by assumption) (of_decide_eq_true (and2 h1).1) (of_decide_eq_true (and2 h1).2) h2 h3 (and2 hs).1 (and2 hs).2 (ia G tk h)
    · cases h1
  | .callk f es ks ps, X, S, W, G, tk, e, h => by
    have ia := @snd_Es es
    have ib := @snd_Ks ks
    unfold chkE at h
    split at h
    all_goals first | (exact absurd h Bool.false_ne_true) | (rename_i heq; cases heq; done) | (rename_i heq; cases heq)
    refine ⟨?_, fun z => by cases z⟩
    obtain ⟨h1, h⟩ := and2 h
    obtain ⟨h2, h⟩ := and2 h
    obtain ⟨h3, h⟩ := and2 h
    obtain ⟨h4, h5⟩ := and2 h
    have hs := chkEs_star h4
    have hk := chkKs_len h5
    split at h1
    · obtain ⟨h1, h6⟩ := and2 h1
      obtain ⟨h0, h6⟩ := and2 h6
      obtain ⟨h6, h7⟩ := and2 h6
      exact s_callk G hC tk (by assumption) (of_decide_eq_true h1) (of_decide_eq_true h0) h6 (of_decide_eq_true h7) hk.1 hk.2 h2 h3 hs.1 hs.2 (ia G tk h4) (ib G tk h5)
    · cases h1
  | .calld f es ns, X, S, W, G, tk, e, h => by
    have ia := @snd_Es es
    unfold chkE at h
    split at h
    all_goals first | (exact absurd h Bool.false_ne_true) | (rename_i heq; cases heq; done) | (rename_i heq; cases heq)
    refine ⟨?_, fun z => by cases z⟩
    obtain ⟨h1, h⟩ := and2 h
    obtain ⟨h2, h⟩ := and2 h
    obtain ⟨h3, h⟩ := and2 h
    have hs := (chkEs_star h).1
    rw [List.all_cons] at hs
    split at h1
    · obtain ⟨h4, h5⟩ := and2 h1
      obtain ⟨h5, h6⟩ := and2 h5
      obtain ⟨h6, h7⟩ := and2 h6
      exact s_calld G hC tk (by assumption) (of_decide_eq_true h4) (of_decide_eq_true h5) (of_decide_eq_true h6) (of_decide_eq_true h7) h2 h3 (and2 hs).1 (and2 hs).2 (ia G tk h)
    · cases h1
  | .lw (.r1 a), X, S, W, G, tk, e, h => by
    have ia := @snd_E a
    unfold chkE at h
    split at h
    all_goals first | (exact absurd h Bool.false_ne_true) | (rename_i heq; cases heq; done) | (rename_i heq; cases heq)
    refine ⟨?_, fun z => by cases z⟩
    obtain ⟨h1, u1⟩ := and2 h
    obtain ⟨h2, u2⟩ := and2 u1
    unfold bltB at h1 h2
    obtain ⟨g1, g2⟩ := and2 h1
    obtain ⟨g2, g3⟩ := and2 g2
    obtain ⟨g4, g5⟩ := and2 h2
    obtain ⟨g5, g6⟩ := and2 g5
    cases of_decide_eq_true g1
    cases of_decide_eq_true g4
    obtain ⟨h3, h4⟩ := and2 u2
    exact s_lwr1 G hC g3 g2 g6 g5 h3 (ia G tk h4).1
  | .lw (.r2 a b), X, S, W, G, tk, e, h => by
    have ia := @snd_E a
    have ib := @snd_E b
    unfold chkE at h
    split at h
    all_goals first | (exact absurd h Bool.false_ne_true) | (rename_i heq; cases heq; done) | (rename_i heq; cases heq)
    refine ⟨?_, fun z => by cases z⟩
    obtain ⟨h1, u1⟩ := and2 h
    obtain ⟨h2, u2⟩ := and2 u1
    unfold bltB at h1 h2
    obtain ⟨g1, g2⟩ := and2 h1
    obtain ⟨g2, g3⟩ := and2 g2
    obtain ⟨g4, g5⟩ := and2 h2
    obtain ⟨g5, g6⟩ := and2 g5
    cases of_decide_eq_true g1
    cases of_decide_eq_true g4
    obtain ⟨h3, u3⟩ := and2 u2
    obtain ⟨h4, u4⟩ := and2 u3
    obtain ⟨h5, h6⟩ := and2 u4
    exact s_lwr2 G hC g3 g2 g6 g5 h3 h4 (ia G tk h5).1 (ib G tk h6).1
  | .lw (.zip a b), X, S, W, G, tk, e, h => by
    have ia := @snd_E a
    have ib := @snd_E b
    unfold chkE at h
    split at h
    all_goals first | (exact absurd h Bool.false_ne_true) | (rename_i heq; cases heq; done) | (rename_i heq; cases heq)
    refine ⟨?_, fun z => by cases z⟩
    obtain ⟨h1, u1⟩ := and2 h
    obtain ⟨h2, u2⟩ := and2 u1
    unfold bltB at h1 h2
    obtain ⟨g1, g2⟩ := and2 h1
    obtain ⟨g2, g3⟩ := and2 g2
    obtain ⟨g4, g5⟩ := and2 h2
    obtain ⟨g5, g6⟩ := and2 g5
    cases of_decide_eq_true g1
    cases of_decide_eq_true g4
    obtain ⟨h3, u3⟩ := and2 u2
    obtain ⟨h4, u4⟩ := and2 u3
    obtain ⟨h5, h6⟩ := and2 u4
    exact s_lwz G hC g3 g2 g6 g5 h3 h4 (ia G tk h5).1 (ib G tk h6).1
  | .dct0, X, S, W, G, tk, e, h => by
    unfold chkE at h
    split at h
    all_goals first | (exact absurd h Bool.false_ne_true) | (rename_i heq; cases heq; done) | (rename_i heq; cases heq)
    refine ⟨?_, fun z => by cases z⟩
    exact s_dct0 G hC
  | .lw (.e a), X, S, W, G, tk, e, h => by
    unfold chkE at h
    exact absurd h Bool.false_ne_true
  | .lw (.en a), X, S, W, G, tk, e, h => by
    unfold chkE at h
    exact absurd h Bool.false_ne_true
  | .bi k .nil, X, S, W, G, tk, e, h => by
    unfold chkE at h
    split at h
    all_goals first | (exact absurd h Bool.false_ne_true) | (rename_i heq; cases heq; done) | (rename_i heq; cases heq)
    obtain ⟨h1, h⟩ := and2 h
    obtain ⟨h2, h⟩ := and2 h
    exact absurd (show (0 : Nat) = biN k from of_decide_eq_true h2) (by cases k <;> decide)
  | .bi k (.cons a as), X, S, W, G, tk, e, h => by
    have ia := @snd_E a
    have is := @snd_As (.cons a as)
    unfold chkE at h
    split at h
    all_goals first | (exact absurd h Bool.false_ne_true) | (rename_i heq; cases heq; done) | (rename_i heq; cases heq)
    refine ⟨?_, fun z => by cases z⟩
    obtain ⟨h1, h⟩ := and2 h
    obtain ⟨h2, h⟩ := and2 h
    obtain ⟨h3, h⟩ := and2 h
    have e1 := of_decide_eq_true h1
    have e2 := of_decide_eq_true h2
    by_cases nk : isIsi k = true
    · rw [if_pos nk] at h
      split at h
      · obtain ⟨h4, h⟩ := and2 h
        obtain ⟨h5, h⟩ := and2 h
        obtain ⟨h6, h⟩ := and2 h
        unfold chkEs at h
        obtain ⟨h7, h⟩ := and2 h
        obtain ⟨h8, h⟩ := and2 h
        cases as with
        | nil => exact s_isi G hC nk (by rw [e1]; cases k <;> first | rfl | cases nk) (of_decide_eq_true h4) h6 h3 h5 h7 (ia G tk h8).1
        | cons b bs => unfold chkEs at h; cases h
      · cases h
    · rw [if_neg nk] at h
      obtain ⟨h4, h⟩ := and2 h
      have hs := (chkEs_star h).1
      have pa := is G tk h
      exact bi_nonempty hC G nk e1 h4 h3 h hs pa
  | .comp x t w c own, X, S, W, G, tk, e, h => by
    have ia := @snd_E x
    have iw := @snd_W w
    have ic := @snd_T c
    unfold chkE at h
    split at h
    all_goals first | (exact absurd h Bool.false_ne_true) | (rename_i heq; cases heq; done) | (rename_i heq; cases heq)
    refine ⟨?_, fun z => by cases z⟩
    obtain ⟨h1, h⟩ := and2 h
    obtain ⟨h2, h⟩ := and2 h
    obtain ⟨h3, h⟩ := and2 h
    obtain ⟨h4, h⟩ := and2 h
    obtain ⟨h5, h⟩ := and2 h
    obtain ⟨h6, h⟩ := and2 h
    obtain ⟨h7, h8⟩ := and2 h
    cases of_decide_eq_true h1
    have ok := blkOk_by h2
    rw [← G.sc] at ok
    refine (s_comp G hC ok h4 h3 (iw G tk h5) (fun s H D cl fp => ?_) (fun s H D cl fp => ?_) (fun s H D cl fp => ?_)).2
    · exact s_tg (G.blk ok.kind s H D cl fp) h6
    · split at h7
      · refine pts_nil.imp fun pins s σ H Q I ⟨F, Z, r, Y, R, hx, q⟩ => ?_
        unfold tsW at q
        exact q H Z (.refl _) R
      · exact pts_one (ic (G.blk ok.kind s H D cl fp) noTakes h7).1
      · cases h7
    · exact (ia (G.blk ok.kind s H D cl fp) noTakes h8).1
  | .pop i, X, S, W, G, tk, e, h => by
    unfold chkE at h
    split at h
    all_goals first | (exact absurd h Bool.false_ne_true) | (rename_i heq; cases heq; done) | (rename_i heq; cases heq)
    refine ⟨?_, fun z => by cases z⟩
    obtain ⟨h1, g1⟩ := and2 h
    obtain ⟨h2, g2⟩ := and2 g1
    obtain ⟨h3, g3⟩ := and2 g2
    cases of_decide_eq_true h1
    exact pop_tree G hC (of_decide_eq_true h3) (and2 g3).1 (and2 g3).2 h2
  | .popA i n, X, S, W, G, tk, e, h => by
    unfold chkE at h
    split at h
    all_goals first | (exact absurd h Bool.false_ne_true) | (rename_i heq; cases heq; done) | (rename_i heq; cases heq)
    refine ⟨?_, fun z => by cases z⟩
    obtain ⟨h1, g1⟩ := and2 h
    obtain ⟨h2, g2⟩ := and2 g1
    obtain ⟨h3, g3⟩ := and2 g2
    obtain ⟨h4, g4⟩ := and2 g3
    obtain ⟨h5, g5⟩ := and2 g4
    cases of_decide_eq_true h1
    cases of_decide_eq_true g5
    exact popA_tree G hC (of_decide_eq_true h3) h4 h5 h2
  | .jg i k, X, S, W, G, tk, e, h => by
    unfold chkE at h
    split at h
    all_goals first | (exact absurd h Bool.false_ne_true) | (rename_i heq; cases heq; done) | (rename_i heq; cases heq)
    refine ⟨?_, fun z => by cases z⟩
    obtain ⟨h1, g1⟩ := and2 h
    obtain ⟨h2, g2⟩ := and2 g1
    obtain ⟨h3, g3⟩ := and2 g2
    obtain ⟨h4, h5⟩ := and2 g3
    exact j_jg G (of_decide_eq_true h1) h2 h3 h4 (of_decide_eq_true h5)
  | .scut i n, X, S, W, G, tk, e, h => by
    unfold chkE at h
    split at h
    all_goals first | (exact absurd h Bool.false_ne_true) | (rename_i heq; cases heq; done) | (rename_i heq; cases heq)
    refine ⟨?_, fun z => by cases z⟩
    obtain ⟨h1, g1⟩ := and2 h
    obtain ⟨h2, g2⟩ := and2 g1
    obtain ⟨h3, g3⟩ := and2 g2
    obtain ⟨h4, h5⟩ := and2 g3
    cases of_decide_eq_true h4
    exact sc_cut G (of_decide_eq_true h1) h2 h3 h5
  | .slen i, X, S, W, G, tk, e, h => by
    unfold chkE at h
    split at h
    all_goals first | (exact absurd h Bool.false_ne_true) | (rename_i heq; cases heq; done) | (rename_i heq; cases heq)
    refine ⟨?_, fun z => by cases z⟩
    obtain ⟨h1, g1⟩ := and2 h
    obtain ⟨h2, g2⟩ := and2 g1
    obtain ⟨h3, g3⟩ := and2 g2
    obtain ⟨h4, h5⟩ := and2 g3
    unfold bltB at h4
    obtain ⟨h6, h7⟩ := and2 h4
    cases of_decide_eq_true h6
    exact sc_len G (of_decide_eq_true h1) h2 h3 (and2 h7).2 (and2 h7).1 h5
  | .jn s, X, S, W, G, tk, e, h => by
    unfold chkE at h
    split at h
    all_goals first | (exact absurd h Bool.false_ne_true) | (rename_i heq; cases heq; done) | (rename_i heq; cases heq)
    exact ⟨(j_jn G hC h).1, fun _ => (j_jn G hC h).2⟩
  | .jp s false, X, S, W, G, tk, e, h => by
    unfold chkE at h
    split at h
    all_goals first | (exact absurd h Bool.false_ne_true) | (rename_i heq; cases heq; done) | (rename_i heq; cases heq)
    refine ⟨?_, fun z => by cases z⟩
    obtain ⟨h1, g1⟩ := and2 h
    obtain ⟨h2, h3⟩ := and2 g1
    cases of_decide_eq_true h1
    exact jp_last G h3 h2
  | .jp s true, X, S, W, G, tk, e, h => by
    unfold chkE at h
    split at h
    all_goals first | (exact absurd h Bool.false_ne_true) | (rename_i heq; cases heq; done) | (rename_i heq; cases heq)
    refine ⟨?_, fun z => by cases z⟩
    obtain ⟨h1, g1⟩ := and2 h
    obtain ⟨h2, h3⟩ := and2 g1
    cases of_decide_eq_true h1
    exact jp_first G h3 h2
theorem snd_T : ∀ (c : Ts) {X : Cx} {S : Sc} {W : WX} (G : Good cf J XR C lv X S) (tk : Takes X W) {e : Expr}, chkT cf X.N S c e = true → PT X e (lT X.K J XR C W c) ∧ (isBoo e = true → PW X e (lT X.K J XR C W c))
  | .yes, X, S, W, G, tk, e, h => by
    unfold chkT at h
    exact absurd h Bool.false_ne_true
  | .and a b, X, S, W, G, tk, e, h => by
    have ia := @snd_T a
    have ib := @snd_T b
    unfold chkT at h
    split at h
    all_goals first | (exact absurd h Bool.false_ne_true) | (rename_i heq; cases heq; done) | (rename_i heq; cases heq)
    · exact ofPW (t_and hC (ia G tk (and2 h).1).1 (pw_and1 (ib G tk (and2 h).2).1))
    · exact ofPW (t_and hC (ia G tk (and2 h).1).1 ((ib G tk (and2 h).2).2 rfl))
  | .or a b, X, S, W, G, tk, e, h => by
    have ia := @snd_T a
    have ib := @snd_T b
    unfold chkT at h
    split at h
    all_goals first | (exact absurd h Bool.false_ne_true) | (rename_i heq; cases heq; done) | (rename_i heq; cases heq)
    · exact ofPW (t_or hC (ia G tk (and2 h).1).1 (pw_or1 (ib G tk (and2 h).2).1))
    · exact ofPW (t_or hC (ia G tk (and2 h).1).1 ((ib G tk (and2 h).2).2 rfl))
  | .nt a, X, S, W, G, tk, e, h => by
    have ia := @snd_T a
    unfold chkT at h
    split at h
    all_goals first | (exact absurd h Bool.false_ne_true) | (rename_i heq; cases heq; done) | (rename_i heq; cases heq)
    refine ⟨?_, fun z => by cases z⟩
    exact t_nt hC (ia G tk h).1
  | .e a, X, S, W, G, tk, e, h => by
    have ia := @snd_E a
    unfold chkT at h
    obtain ⟨h1, h⟩ := and2 h
    have q := ia G tk h
    rcases Bool.or_eq_true_iff.mp h1 with h1 | h1
    · exact ⟨t_e hC h1 q.1, fun z => by revert z h1; cases e <;> first | (intro h1 z; cases z; done) | (intro h1 z; cases h1)⟩
    · have hc : isCmp e = true := by
        split at h1
        all_goals first | rfl | cases h1
      exact ⟨q.2 hc, fun z => by revert z hc; cases e <;> first | (intro h1 z; cases z; done) | (intro h1 z; cases h1)⟩
theorem snd_Es : ∀ (c : Exs) {X : Cx} {S : Sc} {W : WX} (G : Good cf J XR C lv X S) (tk : Takes X W) {e : List Expr}, chkEs cf X.N S c e = true → PA X e (lEs X.K J XR C W c)
  | .nil, X, S, W, G, tk, [], h => a_nil
  | .cons a as, X, S, W, G, tk, e :: es, h => by
    have ia := @snd_E a
    have is := @snd_Es as
    unfold chkEs at h
    exact a_cons hC (and2 h).1 (ia G tk (and2 (and2 h).2).1).1 (is G tk (and2 (and2 h).2).2)
  | .nil, X, S, W, G, tk, _ :: _, h => by unfold chkEs at h; cases h
  | .cons _ _, X, S, W, G, tk, [], h => by unfold chkEs at h; cases h
theorem snd_As : ∀ (c : Exs) {X : Cx} {S : Sc} {W : WX} (G : Good cf J XR C lv X S) (tk : Takes X W) {e : List Expr}, chkEs cf X.N S c e = true → PA X e (lAs X.K J XR C W c)
  | .nil, X, S, W, G, tk, [], h => b_nil
  | .cons a as, X, S, W, G, tk, e :: es, h => by
    have ia := @snd_E a
    have is := @snd_As as
    unfold chkEs at h
    exact b_cons hC (and2 h).1 (ia G tk (and2 (and2 h).2).1).1 (is G tk (and2 (and2 h).2).2)
  | .nil, X, S, W, G, tk, _ :: _, h => by unfold chkEs at h; cases h
  | .cons _ _, X, S, W, G, tk, [], h => by unfold chkEs at h; cases h
theorem snd_Ks : ∀ (c : Exs) {X : Cx} {S : Sc} {W : WX} (G : Good cf J XR C lv X S) (tk : Takes X W) {e : List Keyword}, chkKs cf X.N S c e = true → PK X e (lEs X.K J XR C W c)
  | .nil, X, S, W, G, tk, [], h => k_nil hC
  | .cons a as, X, S, W, G, tk, ⟨some n, e, p⟩ :: es, h => by
    have ia := @snd_E a
    have is := @snd_Ks as
    unfold chkKs at h
    exact k_cons hC (ia G tk (and2 h).1).1 (is G tk (and2 h).2)
  | .cons _ _, X, S, W, G, tk, ⟨none, _, _⟩ :: _, h => by unfold chkKs at h; cases h
  | .nil, X, S, W, G, tk, _ :: _, h => by unfold chkKs at h; cases h
  | .cons _ _, X, S, W, G, tk, [], h => by unfold chkKs at h; cases h
theorem snd_O : ∀ (c : Op) {X : Cx} {S : Sc} {W : WX} (G : Good cf J XR C lv X S) (tk : Takes X W) {e : Option Expr}, chkO cf X.N S c e = true → PO X e (lO X.K J XR C W c)
  | .no, X, S, W, G, tk, none, h => o_no
  | .so a, X, S, W, G, tk, some e, h => by
    have ia := @snd_E a
    unfold chkO at h
    exact o_so hC (ia G tk h).1
  | .no, X, S, W, G, tk, some _, h => by unfold chkO at h; cases h
  | .so _, X, S, W, G, tk, none, h => by unfold chkO at h; cases h
theorem snd_W : ∀ (c : It) {X : Cx} {S : Sc} {W : WX} (G : Good cf J XR C lv X S) (tk : Takes X W) {e tg : Expr}, chkW cf X.N S c e tg = true → PI X tg e (lW X.K J XR C W c)
  | .e a, X, S, W, G, tk, e, tg, h => by
    have ia := @snd_E a
    unfold chkW at h
    exact i_e hC (ia G tk h).1
  | .r1 a, X, S, W, G, tk, e, tg, h => by
    have ia := @snd_E a
    unfold chkW at h
    split at h
    all_goals first | (exact absurd h Bool.false_ne_true) | (rename_i heq; cases heq; done) | (rename_i heq; cases heq)
    obtain ⟨h1, g1⟩ := and2 h
    unfold bltB at h1
    obtain ⟨h0, h1⟩ := and2 h1
    cases of_decide_eq_true h0
    exact i_r1 G hC (and2 h1).2 (and2 h1).1 (and2 g1).1 (ia G tk (and2 g1).2).1
  | .r2 a b, X, S, W, G, tk, e, tg, h => by
    have ia := @snd_E a
    have ib := @snd_E b
    unfold chkW at h
    split at h
    all_goals first | (exact absurd h Bool.false_ne_true) | (rename_i heq; cases heq; done) | (rename_i heq; cases heq)
    obtain ⟨h1, g1⟩ := and2 h
    unfold bltB at h1
    obtain ⟨h0, h1⟩ := and2 h1
    cases of_decide_eq_true h0
    obtain ⟨h2, g2⟩ := and2 g1
    obtain ⟨h3, g3⟩ := and2 g2
    exact i_r2 G hC (and2 h1).2 (and2 h1).1 h2 h3 (ia G tk (and2 g3).1).1 (ib G tk (and2 g3).2).1
  | .en a, X, S, W, G, tk, e, tg, h => by
    have ia := @snd_E a
    unfold chkW at h
    split at h
    all_goals first | (exact absurd h Bool.false_ne_true) | (rename_i heq; cases heq; done) | (rename_i heq; cases heq)
    obtain ⟨h1, g1⟩ := and2 h
    unfold bltB at h1
    obtain ⟨h0, h1⟩ := and2 h1
    cases of_decide_eq_true h0
    obtain ⟨h2, g2⟩ := and2 g1
    obtain ⟨ts, tk2, tp, rfl⟩ := isTup_of h2
    exact i_en G hC (and2 h1).2 (and2 h1).1 (and2 g2).1 (ia G tk (and2 g2).2).1
  | .zip a b, X, S, W, G, tk, e, tg, h => by
    have ia := @snd_E a
    have ib := @snd_E b
    unfold chkW at h
    split at h
    all_goals first | (exact absurd h Bool.false_ne_true) | (rename_i heq; cases heq; done) | (rename_i heq; cases heq)
    obtain ⟨h1, g1⟩ := and2 h
    unfold bltB at h1
    obtain ⟨h0, h1⟩ := and2 h1
    cases of_decide_eq_true h0
    obtain ⟨h2, g2⟩ := and2 g1
    obtain ⟨h3, g3⟩ := and2 g2
    obtain ⟨h4, g4⟩ := and2 g3
    obtain ⟨ts, tk2, tp, rfl⟩ := isTup_of h2
    exact i_zip G hC (and2 h1).2 (and2 h1).1 h3 h4 (ia G tk (and2 g4).1).1 (ib G tk (and2 g4).2).1
end
end
end G

set_option linter.all false
set_option maxRecDepth 100000
set_option Elab.async false
/-! Sl: statements. -/
namespace G
open PySem PySem.Spec PyProof.Rows L2

/-! ### stores -/
theorem rd_ow_len {r : En} {i : Nat} {ds : List D} (h : rd r i = .ow ds) : i < r.length := rd_lt (by rw [h]; exact fun z => by cases z)
section
variable {K : PySem.W.Frag} {J : Jar} {F : Fm} {σ : L2.St} {H Z : Hp} {r : En}
theorem Rel.asg (R : Rel K J F σ H Z r) {i : Nat} {x : Rz} {v : V} {k : En → Prop} (h : RepR K J F σ H Z r x v) (q : asg i r x k) : ∃ r' Z', Same Z Z' ∧ Rel K J F (σ.set i (some v)) H Z' r' ∧ k r' := by
  unfold G.asg at q
  cases x with
  | val d => exact ⟨_, Z, .refl _, R.set h, q⟩
  | new ds => exact ⟨_, Z, .refl _, R.setOw h, q⟩
  | sl j =>
    have q2 : G.frz r (.sl j) fun d r1 => k (r1.set i (.fz d)) := by
      unfold G.frz
      dsimp only at q ⊢
      split at q
      · exact q
      · exact q
      · exact q.elim
    obtain ⟨d, r1, Z1, s1, R1, h1, q1⟩ := R.frz h q2
    exact ⟨_, Z1, s1, R1.set h1, q1⟩
/-- values of a display that wait to be stored -/
inductive RsOk (K : PySem.W.Frag) (J : Jar) (σ : L2.St) (H Z : Hp) (r : En) : Fm → List Rz → List V → Prop
  | nil {F : Fm} : RsOk K J σ H Z r F [] []
  | val {F : Fm} {d : D} {v : V} {xs : List Rz} {vs : List V} : Rep K J Z v d → RsOk K J σ H Z r F xs vs → RsOk K J σ H Z r F (.val d :: xs) (v :: vs)
  | new {F : Fm} {ds : List D} {a : Addr} {ws : List V} {xs : List Rz} {vs : List V} : H a = some (.lst ws) → ws.length ≤ sizeLine → RepL K J Z ws ds → Z a = none → F.o a = none → ¬ J.A a → (∀ i es, rd r i = .ow es → σ[i]? ≠ some (some (.ref a))) →
      RsOk K J σ H Z r (F.add a (.lst ws)) xs vs → RsOk K J σ H Z r F (.new ds :: xs) (.ref a :: vs)
theorem RsOk.len {xs : List Rz} {vs : List V} (h : RsOk K J σ H Z r F xs vs) : vs.length = xs.length := by
  induction h with
  | nil => rfl
  | val _ _ ih => rw [List.length_cons, List.length_cons, ih]
  | new _ _ _ _ _ _ _ _ ih => rw [List.length_cons, List.length_cons, ih]
/-- one value of those before is stored -/
theorem RsOk.step {F F' : Fm} {xs : List Rz} {vs : List V} (h : RsOk K J σ H Z r F xs vs) : ∀ {F' : Fm} {σ' : L2.St} {r' : En}, (∀ a, F.o a = none → F'.o a = none) → (∀ a, F.o a = none → (∀ i es, rd r i = .ow es → σ[i]? ≠ some (some (.ref a))) → ∀ i es, rd r' i = .ow es → σ'[i]? ≠ some (some (.ref a))) →
    RsOk K J σ' H Z r' F' xs vs := by
  induction h with
  | nil => exact fun _ _ => .nil
  | val h1 h2 ih => exact fun e1 e2 => .val h1 (ih e1 e2)
  | @new F1 ds a ws xs vs h1 h2 h3 h4 h5 h6 h7 h8 ih =>
    intro F' σ' r' e1 e2
    refine .new h1 h2 h3 h4 (e1 a h5) h6 (e2 a h5 h7) (ih (fun b hb => ?_) fun b hb => e2 b ?_)
    · have hb' : upd F1.o a (.lst ws) b = none := hb
      show upd F'.o a (.lst ws) b = none
      by_cases q : b = a
      · subst q; rw [upd_same] at hb'; cases hb'
      · rw [upd_ne q] at hb' ⊢; exact e1 b hb'
    · have hb' : upd F1.o a (.lst ws) b = none := hb
      by_cases q : b = a
      · subst q; rw [upd_same] at hb'; cases hb'
      · rwa [upd_ne q] at hb'
def setAll : L2.St → List Nat → List V → L2.St
  | σ, i :: is, v :: vs => setAll (σ.set i (some v)) is vs
  | σ, _, _ => σ
theorem Rel.asgs : ∀ {is : List Nat} {xs : List Rz} {σ : L2.St} {r : En} {vs : List V} {k : En → Prop}, Rel K J F σ H Z r → RsOk K J σ H Z r F xs vs → asgs is xs r k → ∃ r', Rel K J F (setAll σ is vs) H Z r' ∧ k r'
  | [], [], σ, r, vs, k, R, h, q => by cases h; exact ⟨r, R, q⟩
  | i :: is, x :: xs, σ, r, vs, k, R, h, q => by
    unfold G.asgs at q
    cases h with
    | @val _ d v _ vs2 h1 h2 =>
      unfold G.asg at q
      have R1 := R.set (i := i) h1
      show ∃ r', Rel K J F (setAll (σ.set i (some v)) is vs2) H Z r' ∧ k r'
      refine Rel.asgs R1 (h2.step (F' := F) (fun _ e => e) fun a ha hs j es e => ?_) q
      by_cases ij : i = j
      · subst ij
        by_cases il : i < r.length
        · rw [rd_same il] at e; cases e
        · have := rd_ow_len e; rw [En.length_set] at this; exact absurd this il
      · rw [rd_ne ij] at e
        rw [List.getElem?_set_ne ij]
        exact hs j es e
    | @new _ ds a ws _ vs2 h1 h2 h3 h4 h5 h6 h7 h8 =>
      unfold G.asg at q
      have R1 := R.setOw (i := i) (v := .ref a) (ds := ds) ⟨a, ws, rfl, h1, h2, h3, h4, h5, h6, h7⟩
      show ∃ r', Rel K J F (setAll (σ.set i (some (.ref a))) is vs2) H Z r' ∧ k r'
      refine Rel.asgs R1 (h8.step (F' := F) (fun b hb => ?_) fun b hb hs j es e => ?_) q
      · have hb' : upd F.o a (.lst ws) b = none := hb
        by_cases q : b = a
        · subst q; rw [upd_same] at hb'; cases hb'
        · rwa [upd_ne q] at hb'
      · have hb' : upd F.o a (.lst ws) b = none := hb
        have ne : b ≠ a := by rintro rfl; rw [upd_same] at hb'; cases hb'
        by_cases ij : i = j
        · subst ij
          have il : i < σ.length := by have := rd_ow_len e; rw [En.length_set] at this; rw [R.len]; exact this
          rw [List.getElem?_set_self il]
          intro z
          cases z
          exact ne rfl
        · rw [rd_ne ij] at e
          rw [List.getElem?_set_ne ij]
          exact hs j es e
  | [], _ :: _, _, _, _, _, _, _, q => (show False from q).elim
  | _ :: _, [], _, _, _, _, _, _, q => (show False from q).elim
end
section
variable {cf : Cfg} {J : Jar} {XR : XRT} {C : Calls} {lv : Nat} {X : Cx} {S : Sc} {W : WX} (G : Good cf J XR C lv X S) (hC : CMono C)
def lRs (K : PySem.W.Frag) (J : Jar) (XR : XRT) (C : Calls) (W : WX) (c : Exs) : TA := fun σ H Q => ∃ F Z r Y, Rel K J F σ H Z r ∧ XC K J XR F σ Z W Y ∧
  rsW C c r (fun xs r' => ∀ vs H' Z', Same Z Z' → Rel K J F σ H' Z' r' → RsOk K J σ H' Z' r' F xs vs → Q vs H') Y
include hC
theorem use_Rs {K : PySem.W.Frag} {F : Fm} {σ : L2.St} {H Z : Hp} {r : En} {Y : XW} {c : Exs} {Q : List V → Hp → Prop} {k : List Rz → En → Prop} (R : Rel K J F σ H Z r) (hx : XC K J XR F σ Z W Y) (h : rsW C c r k Y)
    (hk : ∀ b r1, k b r1 → ∀ vs H1 Z1, Same Z Z1 → Rel K J F σ H1 Z1 r1 → RsOk K J σ H1 Z1 r1 F b vs → Q vs H1) : lRs K J XR C W c σ H Q :=
  ⟨F, Z, r, Y, R, hx, rsW_mono hC c hk (fun _ _ q => q) h⟩
theorem r_nil : PA X [] (lRs X.K J XR C W .nil) := by
  refine pa_nil.imp fun pins s σ H Q I ⟨F, Z, r, Y, R, hx, h⟩ => ?_
  unfold rsW at h
  exact h [] H Z (.refl _) R .nil
theorem r_cons {a : Ex} {as : Exs} {e : Expr} {es : List Expr} (hn : notStar e = true) (ha : PE X e (lE X.K J XR C W a)) (hr : PA X es (lRs X.K J XR C W as)) : PA X (e :: es) (lRs X.K J XR C W (.cons a as)) := by
  refine (pa_cons ha hr (star_of hn)).imp fun pins s σ H Q I ⟨F, Z, r, Y, R, hx, h⟩ => ?_
  unfold rsW at h
  refine use_E hC R hx h fun x r1 h1 v H1 Z1 s1 R1 p1 => ?_
  have vcase : ∀ {d : D} {r2 : En} {Z2 : Hp}, Same Z1 Z2 → Rel X.K J F σ H1 Z2 r2 → Rep X.K J Z2 v d → rsW C as r2 (fun xs r3 => ∀ vs H' Z', Same Z Z' → Rel X.K J F σ H' Z' r3 → RsOk X.K J σ H' Z' r3 F (.val d :: xs) vs → Q vs H') Y →
      lRs X.K J XR C W as σ H1 fun zs H2 => Q (v :: zs) H2 := fun s2 R2 hd q => by
    refine use_Rs hC R2 ((hx.mono s1).mono s2) q fun xs r3 h3 zs H3 Z3 s3 R3 hz => ?_
    exact h3 _ H3 Z3 ((s1.trans s2).trans s3) R3 (.val (hd.mono s3) hz)
  cases x with
  | val d => exact vcase (.refl _) R1 p1 h1
  | new ds =>
    obtain ⟨a, ws, rfl, e1, e2, e3, e4, e5, e6, e7⟩ := p1
    refine use_Rs hC (R1.guard e1 e4 e7) (fun e r3 y H' Z' cls dd s2 R2 xr => ?_) h1 fun xs r3 h3 zs H3 Z3 s3 R3 hz => ?_
    · exact hx e r3 y H' Z' cls dd (s1.trans s2) (R2.unguard e5 e6 R1.nog).1 xr
    · obtain ⟨R4, f1, f2, f3⟩ := R3.unguard e5 e6 R1.nog
      exact h3 _ H3 Z3 (s1.trans s3) R4 (.new f1 e2 (e3.mono s3) f2 e5 e6 f3 hz)
  | sl i =>
    have h1' : frz r1 (.sl i) fun d r2 => rsW C as r2 (fun xs r3 => ∀ vs H' Z', Same Z Z' → Rel X.K J F σ H' Z' r3 → RsOk X.K J σ H' Z' r3 F (.val d :: xs) vs → Q vs H') Y := h1
    obtain ⟨d, r2, Z2, s2, R2, hd, q⟩ := R1.frz p1 h1'
    exact vcase s2 R2 hd q
theorem snd_Rs : ∀ (c : Exs) {X : Cx} {S : Sc} {W : WX} (G : Good cf J XR C lv X S) (tk : Takes X W) {e : List Expr}, chkEs cf X.N S c e = true → PA X e (lRs X.K J XR C W c)
  | .nil, X, S, W, G, tk, [], h => r_nil hC
  | .cons a as, X, S, W, G, tk, e :: es, h => by
    unfold chkEs at h
    exact r_cons hC (and2 h).1 (snd_E hC a G tk (and2 (and2 h).2).1).1 (snd_Rs as G tk (and2 (and2 h).2).2)
  | .nil, X, S, W, G, tk, _ :: _, h => by unfold chkEs at h; cases h
  | .cons _ _, X, S, W, G, tk, [], h => by unfold chkEs at h; cases h
end

/-! ### what a statement leaves -/
structure EndsOk (K : PySem.W.Frag) (J : Jar) (XR : XRT) (F : Fm) (D : Ends) (Z : Hp) (W : WX) (k : Ks) : Prop where
  nx : ∀ r, k.nx r → ∀ σ H' Z', Same Z Z' → Rel K J F σ H' Z' r → D.nx σ H'
  rt : ∀ d r, k.rt d r → ∀ v σ H' Z', Same Z Z' → Rel K J F σ H' Z' r → Rep K J Z' v d → D.rt v H'
  bk : ∀ r, k.bk r → ∀ σ H' Z', Same Z Z' → Rel K J F σ H' Z' r → D.bk σ H'
  ct : ∀ r, k.ct r → ∀ σ H' Z', Same Z Z' → Rel K J F σ H' Z' r → D.ct σ H'
  ex : ∀ e r, k.ex e r → ∀ σ H' Z' cls dd, Same Z Z' → Rel K J F σ H' Z' r → XR e H' Z' cls dd → W cls dd σ H'
theorem EndsOk.mono {K : PySem.W.Frag} {J : Jar} {XR : XRT} {F : Fm} {D : Ends} {Z Z' : Hp} {W : WX} {k : Ks} (h : EndsOk K J XR F D Z W k) (s : Same Z Z') : EndsOk K J XR F D Z' W k :=
  ⟨fun r q σ H' Z2 s2 => h.nx r q σ H' Z2 (s.trans s2), fun d r q v σ H' Z2 s2 => h.rt d r q v σ H' Z2 (s.trans s2), fun r q σ H' Z2 s2 => h.bk r q σ H' Z2 (s.trans s2), fun r q σ H' Z2 s2 => h.ct r q σ H' Z2 (s.trans s2), fun e r q σ H' Z2 cls dd s2 => h.ex e r q σ H' Z2 cls dd (s.trans s2)⟩
theorem EndsOk.xc {K : PySem.W.Frag} {J : Jar} {XR : XRT} {F : Fm} {D : Ends} {Z : Hp} {W : WX} {k : Ks} (h : EndsOk K J XR F D Z W k) {σ : L2.St} : XC K J XR F σ Z W k.ex := fun e r q H' Z' cls dd s R x => h.ex e r q σ H' Z' cls dd s R x
def lS (K : PySem.W.Frag) (J : Jar) (XR : XRT) (C : Calls) (T : Nat → Nat → Bool) (W : WX) (c : St) : TS := fun D σ H => ∃ F Z r k, Rel K J F σ H Z r ∧ EndsOk K J XR F D Z W k ∧ stW C T c r k
def lSs (K : PySem.W.Frag) (J : Jar) (XR : XRT) (C : Calls) (T : Nat → Nat → Bool) (W : WX) (c : Sts) : TS := fun D σ H => ∃ F Z r k, Rel K J F σ H Z r ∧ EndsOk K J XR F D Z W k ∧ stsW C T c r k
theorem _root_.L2.PS.imp {X : Cx} {e : Stmt} {t t' : TS} (h : PS X e t) (hi : ∀ pins s D σ H, Inv X pins σ H s → t' D σ H → t D σ H) : PS X e t' := ⟨fun pins s σ H D I q => h.run pins s σ H D I (hi pins s D σ H I q)⟩
theorem _root_.L2.PSs.imp {X : Cx} {e : List Stmt} {t t' : TS} (h : PSs X e t) (hi : ∀ pins s D σ H, Inv X pins σ H s → t' D σ H → t D σ H) : PSs X e t' := ⟨fun pins s σ H D I q => h.run pins s σ H D I (hi pins s D σ H I q)⟩
section
variable {cf : Cfg} {J : Jar} {XR : XRT} {C : Calls} {lv : Nat} {X : Cx} {S : Sc} {W : WX} {T : Nat → Nat → Bool} (G : Good cf J XR C lv X S) (hC : CMono C)
include hC
theorem c_nil : PSs X [] (lSs X.K J XR C T W .nil) := by
  refine pss_nil.imp fun pins s D σ H I ⟨F, Z, r, k, R, e, h⟩ => ?_
  unfold stsW at h
  exact e.nx r h σ H Z (.refl _) R
theorem c_cons {a : St} {as : Sts} {e : Stmt} {es : List Stmt} (ha : PS X e (lS X.K J XR C T W a)) (hr : PSs X es (lSs X.K J XR C T W as)) : PSs X (e :: es) (lSs X.K J XR C T W (.cons a as)) := by
  refine (pss_cons ha hr).imp fun pins s D σ H I ⟨F, Z, r, k, R, e, h⟩ => ?_
  unfold stsW at h
  refine ⟨F, Z, r, { k with nx := fun r1 => stsW C T as r1 k }, R, ⟨fun r1 h1 σ1 H1 Z1 s1 R1 => ?_, e.rt, e.bk, e.ct, e.ex⟩, h⟩
  exact ⟨F, Z1, r1, k, R1, e.mono s1, h1⟩
theorem c_asg {i : Nat} {e : Ex} {te : TE} {D : Ends} {σ : L2.St} {H : Hp} (h : lS X.K J XR C T W (.set i e) D σ H) : lE X.K J XR C W e σ H fun x H1 => gName i x σ H1 D.nx := by
  obtain ⟨F, Z, r, k, R, e, h⟩ := h
  unfold stW at h
  refine use_E hC R e.xc h fun x r1 h1 v H1 Z1 s1 R1 p1 => ?_
  obtain ⟨r2, Z2, s2, R2, h2⟩ := R1.asg p1 h1
  exact e.nx r2 h2 _ H1 Z2 (s1.trans s2) R2
include G
theorem c_set {i : Nat} {e : Ex} {x : Str} {ee : Expr} {p pos : Pos} (h1 : X.N[i]? = some x) (h2 : S.st x = true) (ha : PE X ee (lE X.K J XR C W e)) (hs : swapsWith ee (some (.Name x p)) pos.line X.env = pure false) : PS X (.Assign [.Name x p] ee pos) (lS X.K J XR C T W (.set i e)) := by
  obtain ⟨h3, h4⟩ := G.st x h2
  exact (ps_set G.nd h1 h3 ha hs h4).imp fun pins s D σ H I q => c_asg (te := lE X.K J XR C W e) hC q
omit G
theorem c_ret {e : Ex} {ee : Expr} {pos : Pos} (ha : PE X ee (lE X.K J XR C W e)) : PS X (.Return (some ee) pos) (lS X.K J XR C T W (.ret e)) := by
  refine (ps_ret ha).imp fun pins s D σ H I ⟨F, Z, r, k, R, e, h⟩ => ?_
  unfold stW at h
  refine use_E hC R e.xc h fun x r1 h1 v H1 Z1 s1 R1 p1 => ?_
  obtain ⟨d, r2, Z2, s2, R2, hd, h2⟩ := R1.frz p1 h1
  exact e.rt d r2 h2 v σ H1 Z2 (s1.trans s2) R2 hd
omit hC in
theorem c_retN {pos : Pos} : PS X (.Return none pos) (lS X.K J XR C T W .retN) := by
  refine ps_retN.imp fun pins s D σ H I ⟨F, Z, r, k, R, e, h⟩ => ?_
  unfold stW at h
  exact e.rt _ r h _ σ H Z (.refl _) R .non
theorem c_drop {e : Ex} {ee : Expr} {pos : Pos} (ha : PE X ee (lE X.K J XR C W e)) (hs : swapsWith ee none pos.line X.env = pure false) : PS X (.Expr ee pos) (lS X.K J XR C T W (.drop e)) := by
  refine (ps_expr ha hs).imp fun pins s D σ H I ⟨F, Z, r, k, R, e, h⟩ => ?_
  unfold stW at h
  exact use_E hC R e.xc h fun x r1 h1 v H1 Z1 s1 R1 p1 => e.nx r1 h1 σ H1 Z1 s1 R1
theorem c_if {t : Ts} {a b : Sts} {et : Expr} {ea eb : List Stmt} {pos : Pos} (ht : PT X et (lT X.K J XR C W t)) (ha : PSs X ea (lSs X.K J XR C T W a)) (hb : PSs X eb (lSs X.K J XR C T W b)) : PS X (.If et ea eb pos) (lS X.K J XR C T W (.ifs t a b)) := by
  refine (ps_if ht ha hb).imp fun pins s D σ H I ⟨F, Z, r, k, R, e, h⟩ => ?_
  unfold stW at h
  refine use_T hC R e.xc h fun c r1 h1 H1 Z1 s1 R1 => ?_
  split at h1
  · rename_i hc
    rw [if_pos hc]
    exact ⟨F, Z1, r1, k, R1, e.mono s1, h1⟩
  · rename_i hc
    rw [if_neg hc]
    exact ⟨F, Z1, r1, k, R1, e.mono s1, h1⟩
theorem c_while {t : Ts} {b : Sts} {et : Expr} {eb : List Stmt} {pos : Pos} (po : PassesOwn (model X.prog X.w) X.A X.env X.xe) (ht : PT X et (lT X.K J XR C W t)) (hb : PSs X eb (lSs X.K J XR C T W b)) : PS X (.While et eb [] pos) (lS X.K J XR C T W (.whl t b)) := by
  refine (ps_while po ht hb).imp fun pins s D σ H I ⟨F, Z, r, k, R, e, h⟩ => ?_
  unfold stW at h
  obtain ⟨Wc, ⟨m0, w0⟩, turn⟩ := h
  refine ⟨fun m σ H => ∃ Z' r', Same Z Z' ∧ Rel X.K J F σ H Z' r' ∧ Wc m r', ⟨m0, Z, r, .refl _, R, w0⟩, fun m σ H ⟨Z1, r1, s1, R1, w1⟩ => ?_⟩
  refine use_T hC R1 (e.mono s1).xc (turn m r1 w1) fun c r2 h2 H2 Z2 s2 R2 => ?_
  split at h2
  · rename_i hc
    rw [if_pos hc]
    refine ⟨fun σ' H' => ∃ m', m' < m ∧ ∃ Z' r', Same Z Z' ∧ Rel X.K J F σ' H' Z' r' ∧ Wc m' r', fun σ' H' q => q, F, Z2, r2, { k with nx := fun r3 => ∃ m', m' < m ∧ Wc m' r3, ct := fun r3 => ∃ m', m' < m ∧ Wc m' r3, bk := k.nx }, R2, ?_, h2⟩
    have e2 := e.mono (s1.trans s2)
    exact ⟨fun r3 ⟨m', lt, w3⟩ σ3 H3 Z3 s3 R3 => ⟨m', lt, Z3, r3, (s1.trans s2).trans s3, R3, w3⟩, e2.rt, e2.nx, fun r3 ⟨m', lt, w3⟩ σ3 H3 Z3 s3 R3 => ⟨m', lt, Z3, r3, (s1.trans s2).trans s3, R3, w3⟩, e2.ex⟩
  · rename_i hc
    rw [if_neg hc]
    exact e.nx r2 h2 σ H2 Z2 (s1.trans s2) R2
theorem c_for {tg iter : Expr} {t : Tg} {w : It} {b : Sts} {eb : List Stmt} {pos : Pos} (po : PassesOwn (model X.prog X.w) X.A X.env X.xe) (hc : X.calm = true) (ns : notSet iter = true) (hi : PI X tg iter (lW X.K J XR C W w)) (hg : PG X tg (lG X.K J t)) (hb : PSs X eb (lSs X.K J XR C T W b)) :
    PS X (.For tg iter eb [] pos) (lS X.K J XR C T W (.fr t w b)) := by
  refine (ps_for po hc hi hg hb (by intro x; cases iter <;> first | rfl | cases ns)).imp fun pins s D σ H I ⟨F, Z, r, k, R, e, h⟩ => ?_
  unfold stW at h
  refine use_W hC R e.xc h fun ds r1 h1 Jt H1 Z1 s1 R1 wk hl => ?_
  refine ⟨fun i m σ H => ∃ Z' r', Same Z1 Z' ∧ Rel X.K J F σ H Z' r' ∧ i + m = ds.length ∧ forL (fun d r k2 => tgW t d r fun r2 => stsW C T b r2 { k with nx := k2, ct := k2, bk := k.nx }) k.nx (ds.drop i) r', ⟨ds.length, Z1, r1, .refl _, R1, by omega, h1⟩, fun i m σ2 H2 ⟨Z2, r2, s2, R2, em, f2⟩ => ?_⟩
  by_cases hi : i < ds.length
  · rw [List.drop_eq_getElem_cons hi] at f2
    unfold forL at f2
    obtain ⟨go, yl⟩ := (wk i H2 (s2.trans R2.sub)).1 _ (List.getElem?_eq_getElem hi)
    refine .inr ⟨go, fun σ' H' => ∃ m', m' < m ∧ ∃ Z' r', Same Z1 Z' ∧ Rel X.K J F σ' H' Z' r' ∧ i + 1 + m' = ds.length ∧ forL (fun d r k2 => tgW t d r fun r2 => stsW C T b r2 { k with nx := k2, ct := k2, bk := k.nx }) k.nx (ds.drop (i + 1)) r', fun σ' H' q => q, fun x H3 y => ?_⟩
    have res := yl x H3 y
    have res' : Res X.K J H2 Z2 (.val ds[i]) x H3 := by
      rcases res with ⟨p1, p2⟩ | ⟨p, vs, es, p1, p2, p3, p4, p5, p6⟩
      · exact .inl ⟨p1, p2.mono s2⟩
      · exact .inr ⟨p, vs, es, p1, p2, p3, p4, p5.mono s2, p6⟩
    obtain ⟨Z3, s3, R3, hd⟩ := R2.res res'
    refine ⟨F, Z3, r2, ds[i], R3, hd, tgW_mono t (fun r4 q4 σ4 R4 _ => ?_) f2⟩
    have sA := s2.trans s3
    have e4 := e.mono (s1.trans sA)
    have nxt : ∀ r5, forL (fun d r k2 => tgW t d r fun r2 => stsW C T b r2 { k with nx := k2, ct := k2, bk := k.nx }) k.nx (ds.drop (i + 1)) r5 → ∀ σ5 H5 Z5, Same Z3 Z5 → Rel X.K J F σ5 H5 Z5 r5 →
        ∃ m', m' < m ∧ ∃ Z' r', Same Z1 Z' ∧ Rel X.K J F σ5 H5 Z' r' ∧ i + 1 + m' = ds.length ∧ forL (fun d r k2 => tgW t d r fun r2 => stsW C T b r2 { k with nx := k2, ct := k2, bk := k.nx }) k.nx (ds.drop (i + 1)) r' :=
      fun r5 h5 σ5 H5 Z5 s5 R5 => ⟨m - 1, by omega, Z5, r5, sA.trans s5, R5, by omega, h5⟩
    exact ⟨F, Z3, r4, { k with nx := fun r5 => forL (fun d r k2 => tgW t d r fun r2 => stsW C T b r2 { k with nx := k2, ct := k2, bk := k.nx }) k.nx (ds.drop (i + 1)) r5, ct := fun r5 => forL (fun d r k2 => tgW t d r fun r2 => stsW C T b r2 { k with nx := k2, ct := k2, bk := k.nx }) k.nx (ds.drop (i + 1)) r5, bk := k.nx }, R4, ⟨nxt, e4.rt, e4.nx, nxt, e4.ex⟩, q4⟩
  · rw [List.drop_eq_nil_of_le (by omega)] at f2
    unfold forL at f2
    exact .inl ⟨(wk i H2 (s2.trans R2.sub)).2 (by omega), e.nx r2 f2 σ2 H2 Z2 (s1.trans s2) R2⟩
theorem c_unp {t : Tg} {e : Ex} {tg ee : Expr} {pos : Pos} (ha : PE X ee (lE X.K J XR C W e)) (hg : PG X tg (lG X.K J t)) (hs : swapsWithSole [tg] ee pos.line X.env = pure false) (hw : swappedStores [tg] ee X.env = pure none) (h1 : (assignEach [tg] X.env).map (·.2) = [assign tg X.env]) :
    PS X (.Assign [tg] ee pos) (lS X.K J XR C T W (.unp t e)) := by
  refine (ps_asg ha hg hs hw h1).imp fun pins s D σ H I ⟨F, Z, r, k, R, e, h⟩ => ?_
  unfold stW at h
  refine use_E hC R e.xc h fun x r1 h1 v H1 Z1 s1 R1 p1 => ?_
  obtain ⟨d, r2, Z2, s2, R2, hd, h2⟩ := R1.frz p1 h1
  exact ⟨F, Z2, r2, d, R2, hd, tgW_mono t (fun r3 q3 σ3 R3 _ => e.nx r3 q3 σ3 H1 Z2 (s1.trans s2) R3) h2⟩
omit hC in
theorem c_pass {pos : Pos} : PS X (.Pass pos) (lS X.K J XR C T W .pass) := ps_pass.imp fun pins s D σ H I ⟨F, Z, r, k, R, e, h⟩ => by
  unfold stW at h
  exact e.nx r h σ H Z (.refl _) R
omit hC in
theorem c_brk {pos : Pos} : PS X (.Break pos) (lS X.K J XR C T W .brk) := ps_break.imp fun pins s D σ H I ⟨F, Z, r, k, R, e, h⟩ => by
  unfold stW at h
  exact e.bk r h σ H Z (.refl _) R
omit hC in
theorem c_cont {pos : Pos} : PS X (.Continue pos) (lS X.K J XR C T W .cont) := ps_continue.imp fun pins s D σ H I ⟨F, Z, r, k, R, e, h⟩ => by
  unfold stW at h
  exact e.ct r h σ H Z (.refl _) R
end
end G

set_option linter.all false
set_option maxRecDepth 100000
set_option Elab.async false
/-! Sm: further statements; the checker. -/
namespace G
open PySem PySem.Spec PyProof.Rows L2
theorem isOw_of {s : Slot} (h : isOw s = true) : ∃ ds, s = .ow ds := by cases s <;> first | exact ⟨_, rfl⟩ | cases h
section
variable {cf : Cfg} {J : Jar} {XR : XRT} {C : Calls} {lv : Nat} {X : Cx} {S : Sc} {W : WX} {T : Nat → Nat → Bool} (G : Good cf J XR C lv X S) (hC : CMono C)
include G hC
theorem c_app {i : Nat} {e : Ex} {x : Str} {ee : Expr} {p ap cp pos : Pos} (h1 : X.N[i]? = some x) (h2 : visB S x = true) (h3 : okName x = true) (hl : (ap.endLine == cp.line) = true) (hn : notStar ee = true) (ha : PE X ee (lE X.K J XR C W e)) :
    PS X (.Expr (.Call (.Attribute (.Name x p) "append" ap) [ee] [] cp) pos) (lS X.K J XR C T W (.app i e)) := by
  obtain ⟨d1, d2⟩ := okName_of G h3
  refine (ps_expr (pe_bm PySem.F.plainAttrs_list PySem.F.slot_list_append PySem.F.type_list_append mt_append (pe_var h1 (G.vis h2) d1 d2) (pa_cons ha pa_nil (star_of hn)) rfl (by rw [star_of hn]; rfl) hl (star_of hn) rfl)).imp fun pins s D σ H I ⟨F, Z, r, k, R, e, h⟩ => ?_
  unfold stW at h
  obtain ⟨ho, h⟩ := h
  obtain ⟨ds0, ho⟩ := isOw_of ho
  obtain ⟨a, vs, e1, e3, e4, e5, e6⟩ := R.ow i ds0 ho
  refine ⟨_, e1, .inl ⟨rfl, _, .of e3⟩, use_E hC R e.xc h fun x1 r1 h1 v H1 Z1 s1 R1 p1 => ?_⟩
  obtain ⟨d, r2, Z2, s2, R2, hd, h2⟩ := R1.frz p1 h1
  split at h2
  · rename_i ds eo
    obtain ⟨a2, ws, f1, f3, f4, f5, f6⟩ := R2.ow i ds eo
    rw [e1] at f1
    cases f1
    have hlt : ws.length < sizeLine := by rw [f5.length, szl]; exact h2.1
    refine ⟨a, ws, v, rfl, rfl, f3, hlt, ?_⟩
    exact e.nx _ h2.2 σ _ Z2 (s1.trans s2) (R2.mut eo e1 (by rw [List.length_append]; simp; omega) (f5.append (.cons hd .nil)))
  · exact h2.elim
theorem c_ext {i : Nat} {e : Ex} {x : Str} {ee : Expr} {p ap cp pos : Pos} (h1 : X.N[i]? = some x) (h2 : visB S x = true) (h3 : okName x = true) (hl : (ap.endLine == cp.line) = true) (hn : notStar ee = true) (ha : PE X ee (lE X.K J XR C W e)) :
    PS X (.Expr (.Call (.Attribute (.Name x p) "extend" ap) [ee] [] cp) pos) (lS X.K J XR C T W (.ext i e)) := by
  obtain ⟨d1, d2⟩ := okName_of G h3
  refine (ps_expr (pe_bm PySem.F.plainAttrs_list PySem.F.slot_list_extend PySem.F.type_list_extend mt_extend (pe_var h1 (G.vis h2) d1 d2) (pa_cons ha pa_nil (star_of hn)) rfl (by rw [star_of hn]; rfl) hl (star_of hn) rfl)).imp fun pins s D σ H I ⟨F, Z, r, k, R, e, h⟩ => ?_
  unfold stW at h
  obtain ⟨ho, h⟩ := h
  obtain ⟨ds0, ho⟩ := isOw_of ho
  obtain ⟨a, vs, e1, e3, e4, e5, e6⟩ := R.ow i ds0 ho
  refine ⟨_, e1, .inl ⟨rfl, _, .of e3⟩, use_E hC R e.xc h fun x1 r1 h1 v H1 Z1 s1 R1 p1 => ?_⟩
  obtain ⟨d, r2, Z2, s2, R2, hd, h2⟩ := R1.frz p1 h1
  split at h2
  · rename_i xs
    obtain ⟨b, zs, rfl, g1, g2, g3, g4⟩ := rep_lstD hC R2 hd
    split at h2
    · rename_i ds eo
      obtain ⟨a2, ws, f1, f3, f4, f5, f6⟩ := R2.ow i ds eo
      rw [e1] at f1
      cases f1
      have hle : ws.length + zs.length ≤ sizeLine := by rw [f5.length, g3.length, szl]; exact h2.1
      refine ⟨a, b, ws, zs, rfl, rfl, f3, R2.sub _ _ g2, hle, ?_⟩
      exact e.nx _ h2.2 σ _ Z2 (s1.trans s2) (R2.mut eo e1 (by rw [List.length_append]; exact hle) (f5.append g3))
    · exact h2.elim
  · exact h2.elim
theorem c_ins {i : Nat} {a e : Ex} {x : Str} {ea ee : Expr} {p ap cp pos : Pos} (h1 : X.N[i]? = some x) (h2 : visB S x = true) (h3 : okName x = true) (hl : (ap.endLine == cp.line) = true) (hn0 : notStar ea = true) (hn : notStar ee = true) (ha0 : PE X ea (lE X.K J XR C W a)) (ha : PE X ee (lE X.K J XR C W e)) :
    PS X (.Expr (.Call (.Attribute (.Name x p) "insert" ap) [ea, ee] [] cp) pos) (lS X.K J XR C T W (.ins i a e)) := by
  obtain ⟨d1, d2⟩ := okName_of G h3
  refine (ps_expr (pe_bm PySem.F.plainAttrs_list PySem.F.slot_list_insert PySem.F.type_list_insert mt_insert (pe_var h1 (G.vis h2) d1 d2) (pa_cons ha0 (pa_cons ha pa_nil (star_of hn)) (star_of hn0)) rfl (by rw [star_of hn0, star_of hn]; rfl) hl (star_of hn0) (by rw [star_of hn]; rfl))).imp fun pins s D σ H I ⟨F, Z, r, k, R, e, h⟩ => ?_
  unfold stW at h
  obtain ⟨ho, h⟩ := h
  obtain ⟨ds0, ho⟩ := isOw_of ho
  obtain ⟨a, vs, e1, e3, e4, e5, e6⟩ := R.ow i ds0 ho
  refine ⟨_, e1, .inl ⟨rfl, _, .of e3⟩, use_pin hC R e.xc h fun x0 r0 h0 v0 H0 Z0 s0 R0 p0 => ?_⟩
  obtain ⟨d0, hd0, h0⟩ := R0.der p0 h0
  refine use_E hC R0 (e.mono s0).xc h0 fun x1 r1 h1 v H1 Z1 s1 R1 p1 => ?_
  obtain ⟨d, r2, Z2, s2, R2, hd, h2⟩ := R1.frz p1 h1
  split at h2
  · rename_i j
    cases rep_int hd0
    split at h2
    · rename_i ds eo
      obtain ⟨a2, ws, f1, f3, f4, f5, f6⟩ := R2.ow i ds eo
      rw [e1] at f1
      cases f1
      obtain ⟨⟨g1, g2, g3⟩, g4⟩ := h2
      have hlt : ws.length < sizeLine := by rw [f5.length, szl]; exact g3
      have hj : j < 2 ^ 63 := by unfold SZ at g3; omega
      refine ⟨a, ws, j, v, rfl, rfl, f3, hlt, g1, hj, ?_⟩
      refine e.nx _ g4 σ _ Z2 ((s0.trans s1).trans s2) (R2.mut eo e1 ?_ ?_)
      · simp only [List.length_append, List.length_cons, List.length_nil, List.length_take, List.length_drop]; omega
      · rw [List.append_assoc]
        exact (f5.take _).append (.cons hd (f5.drop _))
    · exact h2.elim
  · exact h2.elim
theorem c_put {i : Nat} {a e : Ex} {x : Str} {ea ee : Expr} {p tp pos : Pos} (h1 : X.N[i]? = some x) (h2 : visB S x = true) (h3 : okName x = true) (hs : isSlice ea = false) (hc : noComp ee = true) (ha : PE X ea (lE X.K J XR C W a)) (he : PE X ee (lE X.K J XR C W e)) :
    PS X (.Assign [.Subscript (.Name x p) ea tp] ee pos) (lS X.K J XR C T W (.put i a e)) := by
  obtain ⟨d1, d2⟩ := okName_of G h3
  refine (ps_asg he (pg_sub (pe_var h1 (G.vis h2) d1 d2) ha set_list (by intro v; cases ea <;> first | rfl | cases hs)) (by cases ee <;> first | rfl | cases hc) (by cases ee <;> rfl)).imp fun pins s D σ H I ⟨F, Z, r, k, R, e, h⟩ => ?_
  unfold stW at h
  obtain ⟨ho, h⟩ := h
  obtain ⟨ds0, ho⟩ := isOw_of ho
  obtain ⟨b, vs, e1, e3, e4, e5, e6⟩ := R.ow i ds0 ho
  refine use_E hC R e.xc h fun y r1 h1 v H1 Z1 s1 R1 p1 => ?_
  obtain ⟨d, r2, Z2, s2, R2, hd, h2⟩ := R1.frz p1 h1
  refine ⟨_, e1, use_pin hC R2 (e.mono (s1.trans s2)).xc h2 fun x3 r3 h3 w H3 Z3 s3 R3 p3 => ?_⟩
  obtain ⟨d3, hd3, h3⟩ := R3.der p3 h3
  split at h3
  · rename_i j
    cases rep_int hd3
    split at h3
    · rename_i ds eo
      obtain ⟨a2, ws, f1, f3, f4, f5, f6⟩ := R3.ow i ds eo
      rw [e1] at f1
      cases f1
      split at h3
      · rename_i m em
        refine ⟨b, ws, j, m, rfl, rfl, f3, by rw [f5.length]; exact em, ?_⟩
        exact e.nx _ h3 σ _ Z3 ((s1.trans s2).trans s3) (R3.mut eo e1 (by rw [List.length_set]; exact f4) (f5.set m (hd.mono s3)))
      · exact h3.elim
    · exact h3.elim
  · exact h3.elim
end
end G

set_option linter.all false
set_option maxRecDepth 100000
set_option maxHeartbeats 1000000
set_option Elab.async false
/-! Xb: an own error whose __init__ says super().__init__("..") and keeps one argument. -/
namespace G
open PySem PySem.Spec PyProof.Rows L2 PySem.W PySem.HandSPX
abbrev veB : List Value := [.type "ValueError", .type "Exception", .type "BaseException", .type "object"]
/-- def __init__(self, P): super().__init__("T"); self.F = P -/
def chkInit (ps : Arguments) (b : List Stmt) (sc : Scope) (fld : Str) : Bool :=
  match ps.posonlyargs, ps.args, ps.kwonlyargs, ps.vararg, ps.kwarg, b with
  | [], [x, y], [], none, none, [.Expr (.Call (.Attribute (.Call (.Name su _) [] [] _) ini ip) [.Constant (.str tx) _ _] [] cp) _, .Assign [.Attribute (.Name s2 _) f _] (.Name p2 _) _] =>
    (ip.endLine == cp.line) && (decide (su = ("super" : Str)) && (decide (ini = ("__init__" : Str)) && (decide (s2 = x.arg) && (decide (p2 = y.arg) && (decide (f = fld) && (decide (x.arg ≠ y.arg) && ((match sc.kind with | .function => true | _ => false) && (!sc.isCoroutine && (!sc.isGenerator &&
      (decide (sc.names.lookup x.arg = some .local) && (decide (sc.names.lookup y.arg = some .local) && (decide (sc.names.lookup ("super" : Str) = some .globalImplicit) && (decide (sc.names.lookup ("__class__" : Str) = some .free) && (sc.names.all (fun q => match q.2 with | .cell => false | _ => true) &&
      (!(x.arg == ("__debug__" : Str)) && !(y.arg == ("__debug__" : Str)))))))))))))))))
  | _, _, _, _, _, _ => false
/-- what the written part says of such a class, at C, and of its __init__, at fI -/
structure FldC (P : Program) (K : Frag) (fld : Str) (C : Addr) : Prop where
  ex : ∃ (fI cc cda : Addr) (nm q : Str) (N : Addr) (bs bm : List Value) (sn : List Str) (sub : List Value) (ab : Bool) (col : Option Bool) (dd : Option Addr) (k0 k1 k2 k3 k5 : Option Value) (oc doc pm ct ccl cl : Value) (od an cdd cld : Option Addr) (osl ccs csl : Array (Option Value)) (qual : Str) (ps : Arguments) (b : List Stmt) (sc : Scope) (vs : Array Value) (file : Str) (tf : Tok),
    K.lookup C = some (excClassObj nm q C N bs bm true sn sub ab col dd k0 k1 k2 k3 k5 "ValueError.__new__") ∧ refsVE bm = true ∧
    findIn K (.ref C) "__setattr__" = some (some (.builtin "object.__setattr__")) ∧ findIn K (.ref C) fld = some none ∧ findIn K (.ref C) "__init__" = some (some (.ref fI)) ∧ typeIn K (.ref fI) = some (.type "function") ∧
    ks_superIn K C C "__init__" = some (some (.builtin "ValueError.__init__")) ∧ subIn K (.ref C) (.type "ValueError") = some true ∧ mroIn K C (.ref C) = some true ∧ nsIn K cStatics "thirdparty.any" = some none ∧ nsIn K mainGlobals "super" = some none ∧
    K.lookup cc = some ⟨cl, cld, .cell (some (.ref C)), csl⟩ ∧ K.lookup cda = some ⟨ccl, cdd, .fields vs, ccs⟩ ∧ vs[2]? = some (.str file tf) ∧ ((P.main.file : Str) == file) = true ∧ (P.main.scope.names.lookup ("super" : Str)).isSome = false ∧
    K.lookup fI = some ⟨oc, od, .func (ksFn "__init__" qual ps b sc .none .none doc pm an (.ref cda) ct cc), osl⟩ ∧ codeIn K (.ref cda) qual = true ∧ chkInit ps b sc fld = true
/-- what __init__ leaves of a fresh error at x -/
structure FldI (h h' : Heap) (x C dx t1 : Addr) (fld : Str) (v : Value) : Prop where
  keep : ∀ b o, b ≠ x → h.get? b = some o → h'.get? b = some o
  obj : h'.get? x = some { cls := .ref C, dict := some dx, data := .fields #[.ref t1, .none, .none, .none, .bool false, .none] }
  dbig : h.objs.size ≤ dx
  dne : dx ≠ x
  ns : h'.Ns1 dx (fun y => if y = fld then some v else none)
/-- a made one -/
structure FldM (h h' : Heap) (e C d : Addr) (fld : Str) (v : Value) : Prop where
  keep : ∀ b o, h.get? b = some o → h'.get? b = some o
  new : h.objs.size ≤ e
  obj : ∃ oe vs, h'.get? e = some oe ∧ oe.cls = .ref C ∧ oe.dict = some d ∧ oe.data = .fields vs ∧ vs[1]? = some .none
  dbig : h.objs.size ≤ d
  dne : d ≠ e
  ns : h'.Ns1 d (fun y => if y = fld then some v else none)
section
variable {prog : Program} {w : World} {A : Around} {E : Value → Shared → Prop}
/-- the built-in __init__, bound, is called -/
theorem mw_call {hp : Heap} {g : Array GenState} {dr : Drawn} {tk : Nat} {os : OsState} {nm q : Str} {C N : Addr} {bs bm : List Value} {hd : Bool} {sn : List Str} {sub : List Value} {ab : Bool} {col : Option Bool} {dd : Option Addr} {k0 k1 k2 k3 k5 : Option Value} {mw x t0 : Addr} {as : List Value} {Q : Value → Shared → Prop}
    (cC : hp.get? C = some (excClassObj nm q C N bs bm hd sn sub ab col dd k0 k1 k2 k3 k5 "ValueError.__new__")) (cx : hp.get? x = some (HandSPX.excO C t0)) (cm : hp.get? mw = some (kxs_mw "ValueError.__init__" x)) (ln : as.length ≤ sizeLine)
    (fin : ∀ h' t1, (∀ b o, b ≠ x → hp.get? b = some o → h'.get? b = some o) → h'.get? x = some (HandSPX.excO C t1) → Q .none ⟨h', g, dr, tk, os⟩) : wpAny (model prog w) A (call (.ref mw) as) Q E ⟨hp, g, dr, tk, os⟩ := by
  have m1 : (Value.type "method-wrapper" == Value.type "method" || Value.type "method-wrapper" == Value.type "builtin_function_or_method" || Value.type "method-wrapper" == Value.type "method-wrapper") = true := by decide
  refine wpAny_call (codeAny_of_tree ?_)
  show wpAny _ A.in1 (callAny (.ref mw) ⟨as, []⟩) _ _ _
  simp only [callAny]
  refine wpAny_bind (wpAny_load cm ?_)
  simp only [kxs_mw, m1, if_true]
  refine KFB.if_so (by decide) (wpAny_bind (check_bound_init F.excBase_ValueError.toExcCallFacts cC cx rfl (wpAny_bind (wpAny_pure (wpAny_pure ?_)))))
  exact ⟨plainId_quiet F.excBase_ValueError.init.plain _, codeAny_builtin F.excBase_ValueError.initEntry (exc_init_tree (cls := .ref C) (t0 := t0) (dv := none) (c2 := .none) (c3 := .none) (b4 := .bool false) cx ln fun h' k1 k2 _ => fin h' _ k1 k2)⟩
theorem notCls_exc {o : Obj} {vs : Array Value} (h : o.data = .fields vs) : ∀ c, o.data ≠ .cls c := fun c e => by rw [h] at e; cases e
theorem fld_init {K : Frag} {mg : Str → Option Value} {fld : Str} {C fI t0 x : Addr} {v : Value} {R : Result → Shared → Prop} {s : Shared} {mb : Str → Option Value} (hgn : s.heap.Ns mainGlobals mg) (hbn : s.heap.Ns builtinsNs mb) (hbb : ∀ y : Str, y ≠ "__name__" → mb y = bootBuiltins y)
    {cc cda : Addr} {nm q : Str} {N : Addr} {bs bm : List Value} {sn : List Str} {sub : List Value} {ab : Bool} {col : Option Bool} {dd : Option Addr} {k0 k1 k2 k3 k5 : Option Value} {oc doc pm ct ccl cl : Value} {od an cdd cld : Option Addr} {osl ccs csl : Array (Option Value)} {qual : Str} {ps : Arguments} {b : List Stmt} {sc : Scope} {vs : Array Value} {file : Str} {tf : Tok}
    (e1 : K.lookup C = some (excClassObj nm q C N bs bm true sn sub ab col dd k0 k1 k2 k3 k5 "ValueError.__new__")) (e2 : refsVE bm = true) (e3 : findIn K (.ref C) "__setattr__" = some (some (.builtin "object.__setattr__"))) (e4 : findIn K (.ref C) fld = some none)
    (e7 : ks_superIn K C C "__init__" = some (some (.builtin "ValueError.__init__"))) (e8 : subIn K (.ref C) (.type "ValueError") = some true) (e9 : mroIn K C (.ref C) = some true) (e10 : nsIn K cStatics "thirdparty.any" = some none) (e11 : nsIn K mainGlobals "super" = some none)
    (e12 : K.lookup cc = some ⟨cl, cld, .cell (some (.ref C)), csl⟩) (e13 : K.lookup cda = some ⟨ccl, cdd, .fields vs, ccs⟩) (e14 : vs[2]? = some (.str file tf)) (e15 : ((prog.main.file : Str) == file) = true) (e16 : (prog.main.scope.names.lookup ("super" : Str)).isSome = false)
    (e17 : K.lookup fI = some ⟨oc, od, .func (ksFn "__init__" qual ps b sc .none .none doc pm an (.ref cda) ct cc), osl⟩) (e18 : codeIn K (.ref cda) qual = true) (e19 : chkInit ps b sc fld = true)
    (KX : K.In s.heap) (lim : s.heap.NoLimit) (hx : s.heap.get? x = some (HandSPX.excO C t0)) (hnK : K.lookup x = none) (room : A.depth < recursionLimit)
    (fin : ∀ h' tk dx t1, FldI s.heap h' x C dx t1 fld v → R (.ok (.ret .none)) { s with heap := h', toks := tk }) :
    codeAny (model prog w) A (.call (.ref fI) ⟨[.ref x, v], []⟩) R s := by
  unfold chkInit at e19
  split at e19
  · rename_i x0 y0 su p9 p8 ini p7 tx tk p6 p5 p4 s2 p3 f p2 yv p1 p0 hq1 hq2 hq3 hq4 hq5
    obtain ⟨hline, r0⟩ := and2 e19
    obtain ⟨g1, t1⟩ := and2 r0
    obtain ⟨g2, t2⟩ := and2 t1
    obtain ⟨g3, t3⟩ := and2 t2
    obtain ⟨g4, t4⟩ := and2 t3
    obtain ⟨g5, t5⟩ := and2 t4
    obtain ⟨g6, t6⟩ := and2 t5
    obtain ⟨g7, t7⟩ := and2 t6
    obtain ⟨g8, t8⟩ := and2 t7
    obtain ⟨g9, t9⟩ := and2 t8
    obtain ⟨g10, t10⟩ := and2 t9
    obtain ⟨g11, t11⟩ := and2 t10
    obtain ⟨g12, t12⟩ := and2 t11
    obtain ⟨g13, t13⟩ := and2 t12
    obtain ⟨g14, t14⟩ := and2 t13
    obtain ⟨g15, g16⟩ := and2 t14
    cases of_decide_eq_true g1
    cases of_decide_eq_true g2
    cases of_decide_eq_true g3
    cases of_decide_eq_true g4
    cases of_decide_eq_true g5
    have nxy : x0.arg ≠ y0.arg := of_decide_eq_true g6
    have hk : sc.kind = .function := by split at g7 <;> first | assumption | cases g7
    have hco : sc.isCoroutine = false := by simpa using g8
    have hge : sc.isGenerator = false := by simpa using g9
    have lx : sc.names.lookup x0.arg = some .local := of_decide_eq_true g10
    have ly : sc.names.lookup y0.arg = some .local := of_decide_eq_true g11
    have ls : sc.names.lookup ("super" : Str) = some .globalImplicit := of_decide_eq_true g12
    have lc : sc.names.lookup ("__class__" : Str) = some .free := of_decide_eq_true g13
    have dx0 : (x0.arg == ("__debug__" : Str)) = false := by simpa using g15
    have dy0 : (y0.arg == ("__debug__" : Str)) = false := by simpa using g16
    have cl0 : clsIn K C = some { name := nm, bases := bs, mro := .ref C :: bm, ns := N, qualname := q, hasDict := true, slotNames := sn, subclasses := sub, abstract := ab, collection := col, hasDel := false } := by unfold clsIn; rw [e1] <;> rfl
    have e7' : alongIn K "__init__" (((Value.ref C :: bm).dropWhile (· != .ref C)).drop 1) = some (some (.builtin "ValueError.__init__")) := by
      unfold ks_superIn at e7
      rw [cl0] at e7
      exact e7
    have pl : Plain (ksFn "__init__" qual ps [.Expr (.Call (.Attribute (.Call (.Name "super" p9) [] [] p8) "__init__" p7) [.Constant (.str tx) tk p6] [] p5) p4, .Assign [.Attribute (.Name x0.arg p3) fld p2] (.Name y0.arg p1) p0] sc .none .none doc pm an (.ref cda) ct cc) [x0.arg, y0.arg] :=
      ⟨hq1, hq3, hq4, hq5, rfl, by show ps.args.map (·.arg) = _; rw [hq2]; rfl⟩
    have bd := kbind pl (us := [.ref x, v]) (ws := []) (ks := []) (by unfold kOk; simp [nxy]) rfl
    have mem : ∀ p ∈ [(x0.arg, Value.ref x), (y0.arg, v)], sc.names.lookup p.1 = some .local := fun p hp => by
      simp only [List.mem_cons, List.not_mem_nil, or_false] at hp
      rcases hp with rfl | rfl
      · exact lx
      · exact ly
    refine ks_codeAny_call_defAt (binds := [(x0.arg, .ref x), (y0.arg, v)]) room (KX _ _ e17) rfl lim (codeRec_of KX e18) rfl (BindsTo.of_eq bd) (fun q hq z => ?_) mem (fun h0 hns hk0 => ?_) hco hge hk
    · have := List.all_eq_true.mp g14 q hq
      rw [z] at this
      cases this
    have K0 : K.In h0 := KX.keeps hk0
    have mx : (fun u => List.lookup u ([(x0.arg, Value.ref x), (y0.arg, v)] : List (Str × Value)).reverse) x0.arg = some (.ref x) := by
      show List.lookup x0.arg [(y0.arg, v), (x0.arg, Value.ref x)] = _
      simp [List.lookup, beq_eq_false_iff_ne.mpr nxy]
    have my : (fun u => List.lookup u ([(x0.arg, Value.ref x), (y0.arg, v)] : List (Str × Value)).reverse) y0.arg = some v := by
      show List.lookup y0.arg [(y0.arg, v), (x0.arg, Value.ref x)] = _
      simp [List.lookup]
    have hx0 := hk0 _ _ hx
    have hC0 := K0 _ _ e1
    have ncx : ∀ c, (HandSPX.excO C t0).data ≠ .cls c := fun c z => by cases z
    have hnx : x ≠ C := fun z => by rw [z, hC0] at hx0; cases hx0
    generalize henv : callEnv (ksFn "__init__" qual ps [.Expr (.Call (.Attribute (.Call (.Name "super" p9) [] [] p8) "__init__" p7) [.Constant (.str tx) tk p6] [] p5) p4, .Assign [.Attribute (.Name x0.arg p3) fld p2] (.Name y0.arg p1) p0] sc .none .none doc pm an (.ref cda) ct cc) s.heap.objs.size fI = env
    have he : eval (.Call (.Attribute (.Call (.Name "super" p9) [] [] p8) "__init__" p7) [.Constant (.str tx) tk p6] [] p5) env = (do
        let ov ← attributeBase (.Call (.Name "super" p9) [] [] p8) "__init__" env (eval (.Call (.Name "super" p9) [] [] p8) env)
        standAt p7.atName
        let (f, first) ← holding [ov] (getMethod ov "__init__" (do return (← importBound (.Call (.Name "super" p9) [] [] p8) env).getD true))
        callWith p5 f first (backTo p5 (starEach [.Constant (.str tx) tk p6] env)) []) := by
      have e1 : ∀ ov, methodCall (.Call (.Name "super" p9) [] [] p8) "__init__" p7 p5 env ov 1 (backTo p5 (starEach [.Constant (.str tx) tk p6] env)) [] = (do
          let (f, first) ← holding [ov] (getMethod ov "__init__" (do return (← importBound (.Call (.Name "super" p9) [] [] p8) env).getD true))
          callWith p5 f first (backTo p5 (starEach [.Constant (.str tx) tk p6] env)) []) := fun ov => by
        have e2 : methodCallPos true (.Call (.Name "super" p9) [] [] p8) env p7 p5 = pure p5 := by
          unfold methodCallPos
          rw [if_pos (by rw [hline]; rfl)]
        unfold methodCall
        rw [show methodCallForm 1 (backTo p5 (starEach [.Constant (.str tx) tk p6] env)) [] = true from rfl]
        simp only [e2, pure_bind]
        rfl
      show (do
        let ov ← attributeBase (.Call (.Name "super" p9) [] [] p8) "__init__" env (eval (.Call (.Name "super" p9) [] [] p8) env)
        standAt p7.atName
        methodCall (.Call (.Name "super" p9) [] [] p8) "__init__" p7 p5 env ov 1 (backTo p5 (starEach [.Constant (.str tx) tk p6] env)) []) = _
      simp only [e1]
    refine ks_wpAt_execs_cons (ks_wpAt_Expr_any (ks_wpAt_MethodCall ?_ he) (by subst henv; unfold interactive; simp [callEnv, newEnv, hk]) rfl)
    subst henv
    refine ks_wpAt_super_base (env := callEnv (ksFn "__init__" qual ps _ sc .none .none doc pm an (.ref cda) ct cc) s.heap.objs.size fI) ls lc (by decide) rfl (K0 _ _ e17) rfl (ar := x0) (by show (ps.posonlyargs ++ ps.args).head? = _; rw [hq1, hq2]; rfl) rfl (K0 _ _ e13) rfl e14 e15 e16 ?_
    refine ks_loadName_global hk ls (Calls.loadGlobal_builtin (env := callEnv _ s.heap.objs.size fI) (hgn.keeps hk0) (mg_none_of KX hgn e11) (hbn.keeps hk0) ((hbb _ (by decide +kernel)).trans (by decide +kernel)) ⟨rfl, ?_⟩)
    refine wpAny_loadName_free hk lc rfl ⟨_, K0 _ _ e12, rfl⟩ ?_
    refine wpAny_loadName_local hk lx hns mx ?_
    refine ks_wpAny_isType_cls hC0 rfl ⟨rfl, ?_⟩
    refine ks_wpAny_call_super hC0 rfl hx0 rfl ncx (looks_mroIn K0 e9) (fun h1 es k1 => ?_)
    have K1 : K.In h1 := K0.keeps k1
    have iI : W.Looks (model prog w) h1 (isInstance (.ref x) (.type "ValueError")) true := (show W.Looks (model prog w) h1 (typeOf (.ref x)) (.ref C) from fun A Q E s k q => wpAny_typeOf_ref (k _ _ (k1 _ _ hx0)) q).andThen (looks_subIn K1 e8)
    refine kxs_getMethod kxs_ValueError es (looks_opaque K1 e10) (l₀ := Value.ref C :: bm) (fun A Q E s k q => wpAny_bind ((looks_clsIn K1 cl0) A _ E s k (wpAny_pure q))) rfl K1 e7' iI hnx (by decide) ?_
    have g2 : (h1.push (kxs_mw "ValueError.__init__" x)).get? h1.objs.size = some (kxs_mw "ValueError.__init__" x) := Heap.get?_push_at rfl rfl
    have k2 : ∀ b o, h1.get? b = some o → (h1.push (kxs_mw "ValueError.__init__" x)).get? b = some o := fun b o e => Heap.get?_push_of_some _ e
    refine kxs_callWith (i := "ValueError.__init__") (x := x) (by rfl) (Calls.evalArgs_plain (Calls.spliced_cons (wpAny_Constant_str (x := tx) (k := tk) (pos := p6) (Calls.spliced_nil ?_))))
    refine ⟨g2, ?_⟩
    refine mw_call (k2 _ _ (k1 _ _ hC0)) (k2 _ _ (k1 _ _ hx0)) g2 (by show 1 ≤ sizeLine; decide) fun h3 t1 k3 ox3 => ?_
    have kA : ∀ b o, b ≠ x → s.heap.get? b = some o → h3.get? b = some o := fun b o hb e => k3 b o hb (k2 _ _ (k1 _ _ (hk0 _ _ e)))
    have K3 : K.In h3 := fun b o e => kA b o (fun z => by rw [z, hnK] at e; cases e) (KX b o e)
    have Lx : s.heap.objs.size ≠ x := Nat.ne_of_gt (Heap.lt_size hx)
    have hns3 := Heap.Ns.at' hns fun o e => k3 _ o Lx (k2 _ _ (k1 _ _ e))
    have Llt : s.heap.objs.size < h3.objs.size := by
      obtain ⟨o, _, _, e, _⟩ := id hns3
      exact Heap.lt_size e
    show PySem.wpAt _ _ _ (execs [.Assign [.Attribute (.Name x0.arg p3) fld p2] (.Name y0.arg p1) p0] _) _ _ _
    refine PySem.wpAt_of_wpAny (wpAny_execs_cons (plainObj_wpAny_Assign_Attribute ?_ (by rfl)))
    refine wpAny_Name (wpAny_loadName_local hk ly hns3 my ?_) dy0
    refine wpAny_Name (wpAny_loadName_local hk lx hns3 mx ?_) dx0
    refine set_plain K3 (ox := HandSPX.excO C t1) (od := none) ⟨ox3, rfl, rfl, trivial⟩ e3 ?_
    refine HandSPX.exc_osa K3 ox3 cl0 (show HandSPX.refsVE (.ref C :: bm) = true from e2) rfl e4 (fun h4 tk4 dx k4 dn dne ox4 hn4 => ?_)
    show wpAny _ _ (execs [] _) _ _ _
    exact wpAny_execs_nil (fin h4 tk4 dx t1 ⟨fun b o hb e => k4 b o hb (kA b o hb e), ox4, Nat.le_of_lt (Nat.lt_of_lt_of_le Llt dn), dne, hn4⟩)
  · cases e19
theorem fld_made {K : Frag} {mg mb : Str → Option Value} {fld : Str} {C : Addr} {v : Value} {R : Result → Shared → Prop} {s : Shared} (T : FldC prog K fld C) (hgn : s.heap.Ns mainGlobals mg) (hbn : s.heap.Ns builtinsNs mb) (hbb : ∀ y : Str, y ≠ "__name__" → mb y = bootBuiltins y)
    (KX : K.In s.heap) (lim : s.heap.NoLimit) (room : A.depth + 1 < recursionLimit) (fin : ∀ h' tk e d, FldM s.heap h' e C d fld v → R (.ok (.ret (.ref e))) { s with heap := h', toks := tk }) :
    codeAny (model prog w) A (.call (.ref C) ⟨[v], []⟩) R s := by
  obtain ⟨fI, cc, cda, nm, q, N, bs, bm, sn, sub, ab, col, dd, k0, k1, k2, k3, k5, oc, doc, pm, ct, ccl, cl, od, an, cdd, cld, osl, ccs, csl, qual, ps, b, sc, vs, file, tf, e1, e2, e3, e4, e5, e6, e7, e8, e9, e10, e11, e12, e13, e14, e15, e16, e17, e18, e19⟩ := T.ex
  obtain ⟨hp, g, dr, tk, os⟩ := s
  have kp : ∀ b o, hp.get? b = some o → ((hp.push (kdv_tup [v])).push (HandSPX.excO C hp.objs.size)).get? b = some o := fun b o e => Heap.get?_push_of_some _ (Heap.get?_push_of_some _ e)
  have z1 : (hp.push (kdv_tup [v])).objs.size = hp.objs.size + 1 := Heap.size_push ..
  have z2 : ((hp.push (kdv_tup [v])).push (HandSPX.excO C hp.objs.size)).objs.size = hp.objs.size + 1 + 1 := by rw [Heap.size_push, z1]
  have gx : ((hp.push (kdv_tup [v])).push (HandSPX.excO C hp.objs.size)).get? (hp.objs.size + 1) = some (HandSPX.excO C hp.objs.size) := by rw [← z1]; exact Heap.get?_push_size _ rfl
  have nK : K.lookup (hp.objs.size + 1) = none := by
    cases e : K.lookup (hp.objs.size + 1) with
    | none => rfl
    | some o => exact absurd (Nat.lt_of_succ_lt (Heap.lt_size (show hp.get? (hp.objs.size + 1) = some o from KX _ _ e))) (Nat.lt_irrefl _)
  refine HandSPX.call_own F.excBase_ValueError (fun X => HandSPX.refsVE_contains X bm e2) (KX _ _ e1) (looks_findIn KX e5) (fun self => bind_fn KX self e6) (by show 1 ≤ sizeLine; decide) ?_
  refine fld_init (s := ⟨(hp.push (kdv_tup [v])).push (HandSPX.excO C hp.objs.size), g, dr, tk, os⟩) (hgn.keeps kp) (hbn.keeps kp) hbb e1 e2 e3 e4 e7 e8 e9 e10 e11 e12 e13 e14 e15 e16 e17 e18 e19 (KX.keeps kp) (lim.keeps kp) gx nK ?_ fun h' tk' dx t1 M => ?_
  · show A.depth + 1 < recursionLimit
    exact room
  · have bg := M.dbig
    have bg' : hp.objs.size + 1 + 1 ≤ dx := by rw [← z2]; exact bg
    exact ⟨rfl, fin h' tk' (hp.objs.size + 1) dx ⟨fun b o e => M.keep b o (Nat.ne_of_lt (Nat.lt_succ_of_lt (Heap.lt_size e))) (kp b o e), Nat.le_succ _, ⟨_, _, M.obj, rfl, rfl, rfl, rfl⟩, Nat.le_trans (Nat.le_trans (Nat.le_succ _) (Nat.le_succ _)) bg', M.dne, M.ns⟩⟩
end
section
variable {X : Cx} {C : Addr}
theorem relO_fld {v : V} {v' : Value} {fld : Str} (r : RelV v v') (f : Str) : RelO (List.lookup f [(fld, v)]) (if f = fld then some v' else none) := by
  by_cases q : f = fld
  · subst q
    rw [if_pos rfl, show List.lookup f [(f, v)] = some v by simp [List.lookup]]
    exact r
  · rw [if_neg q, show List.lookup f [(fld, v)] = none by simp [List.lookup, beq_eq_false_iff_ne.mpr q]]
    trivial
/-- X(e), X an own error class with one field -/
theorem pmk_fld {cn fld : Str} {a : Expr} {ta : TA} {p pos : Pos} {k : Nat} (T : FldC X.prog X.K fld C) (gC : X.mg cn = some (.ref C)) (kC : keepIn X.K (.ref C) = true) (r : Raises X (.ref C)) (hr : Room k X.A) (ha : PA X [a] ta) (hg : Gl X cn) (hdb : (cn == ("__debug__" : Str)) = false)
    (he : starEach (a :: []) X.env = (false, eval a X.env) :: starEach [] X.env) : PMk X (.Call (.Name cn p) [a] [] pos) (fun σ H Q => ta σ H fun vs H1 => ∃ v, vs = [v] ∧ ∀ d, H1 d = none → Q (.ref C) (some d) (upd H1 d (.xd [(fld, v)]))) := by
  intro pins s σ H Q I h
  refine wpAny_Call_Name_kw (ld_glob I hg gC ?_ hdb)
  refine PySem.W.callWith_K (h₀ := X.base) I.ok.mod.kin kC (thn (ha.run pos pins s σ H _ I h) fun us s1 hh => ?_) he rfl
  obtain ⟨vs, H1, I1, r1, v, ev, q1⟩ := hh
  subst ev
  refine ⟨I1.kIn, ?_⟩
  cases r1 with
  | cons rv rn =>
    rename_i v' us'
    cases rn
    show wpAny _ _ (call (.ref C) [v']) _ _ _
    have lim := I1.nolimit
    have hgn := I1.ok.mod.glob.keeps I1.bk
    obtain ⟨mb, hb1, hb2⟩ := I1.ok.mod.blt
    have hbn := hb1.keeps I1.bk
    obtain ⟨hp, g, dr, tk, os⟩ := s1
    refine wpAny_call (fld_made T hgn hbn hb2 I1.kIn lim (by have := hr.dp; omega) fun h' tk' e d M => ?_)
    show MkP X pins σ Q (.ref e) ⟨h', g, dr, tk', os⟩
    obtain ⟨oe, fv, o1, o2, o3, o4, o5⟩ := M.obj
    have ns := M.ns
    obtain ⟨G', r1, r2⟩ := restrict h' fun b => decide (b ≠ e)
    have gk : ∀ b, b ≠ e → G'.get? b = h'.get? b := fun b hb => r1 b (decide_eq_true hb)
    have ge : G'.get? e = none := r2 e (by simp)
    have old : ∀ b o, hp.get? b = some o → G'.get? b = some o := fun b o q => (gk b (Nat.ne_of_lt (Nat.lt_of_lt_of_le (Heap.lt_size q) M.new))).trans (M.keep b o q)
    have ob : ObjOk X.prog X.w (upd H1 d (.xd [(fld, v)])) G' d (.xd [(fld, v)]) := ⟨_, ns.at (fun o q => (gk d M.dne).trans q), fun f => relO_fld rv f⟩
    have J : Inv X pins σ (upd H1 d (.xd [(fld, v)])) ⟨G', g, dr, tk', os⟩ := I1.laid (t' := tk') old M.dbig ob
    refine ⟨e, oe, fv, ⟨G', g, dr, tk', os⟩, _, .ref C, some d, rfl, J, fun b o q => ?_, ge, o1, ⟨o2, o3⟩, o4, o5, ?_, rfl, I1.bare, r, q1 d (I1.hok.fresh M.dbig)⟩
    · by_cases hb : b = e
      · have q' : G'.get? b = some o := q
        rw [hb, ge] at q'
        cases q'
      · exact (gk b hb).symm.trans q
    · rw [upd_ne (Ne.symm M.dne)]
      exact I1.hok.fresh M.new
/-- X(), X an own error class without an own __init__ -/
theorem pmk_nul {cn : Str} {p pos : Pos} (q : excIn X.K C veB "ValueError.__new__" = true) (gC : X.mg cn = some (.ref C)) (kC : keepIn X.K (.ref C) = true) (r : Raises X (.ref C)) (hg : Gl X cn) (hdb : (cn == ("__debug__" : Str)) = false) :
    PMk X (.Call (.Name cn p) [] [] pos) (fun σ H Q => Q (.ref C) none H) := by
  intro pins s σ H Q I h
  refine wpAny_Call_Name_kw (ld_glob I hg gC ?_ hdb)
  refine PySem.W.callWith_K0 I.kIn kC ?_
  show wpAny _ _ (call (.ref C) []) _ _ _
  obtain ⟨bm, N, nm, qn, bs, hdct, sn, sub, ab, col, dd, k0, k1, k2, k3, k5, mN, hC, hN, hni, T⟩ := exc_obj I.kIn q
  refine wpAny_call_exc_subT F.excBase_ValueError T hC hN hni (fun h' e hm => ?_) (Nat.zero_le _)
  exact mk_of I hm r h (I.hok.gone hm.new)
/-- e.fld, e the error that the suite holds (at a; its class, its own dict) -/
theorem pe_fldE {a : Addr} {oe : Obj} {cls : Value} {d : Option Addr} {pn : List (Addr × Obj)} {e : Expr} {te : TE} {pos : Pos} {fld : Str} (ga : findIn X.K (.ref C) "__getattribute__" = some (some (.builtin "BaseException.__getattribute__"))) (gg : findIn X.K (.ref C) "__getattr__" = some none)
    (exC : subIn X.K (.ref C) (.type "BaseException") = some true) (hdC : hasDictIn X.K C = true) (noN : findIn X.K (.ref C) fld = some none) (hz : Zc cls d oe) (hf : ∃ vs, oe.data = .fields vs) (he : PE (X.suite a ((a, oe) :: pn)) e te)
    (hb : attributeBase e fld X.env (eval e X.env) = eval e X.env) :
    PE (X.suite a ((a, oe) :: pn)) (.Attribute e fld pos) (fun σ H Q => te σ H fun x H1 => x = .ref a ∧ cls = .ref C ∧ ∃ (dd : Addr) (v : V), d = some dd ∧ H1 dd = some (.xd [(fld, v)]) ∧ Q v H1) := by
  refine ⟨fun pins s σ H Q I h => ?_⟩
  refine attr_of hb (thn (he.run pins s σ H _ I h) fun u s1 hh => ?_)
  obtain ⟨x, H1, I1, rx, ex, ec, dd, v, ed, ea, q⟩ := hh
  subst ex
  cases (show u = Value.ref a from rx)
  subst ec
  subst ed
  obtain ⟨ha, _⟩ := I1.pin (a, oe) (List.mem_append_left _ List.mem_cons_self)
  obtain ⟨vs, hd⟩ := hf
  obtain ⟨mA, hns, hr⟩ : ObjOk X.prog X.w H1 s1.heap dd (.xd [(fld, v)]) := I1.hok dd _ ea
  obtain ⟨od, ho, hl⟩ := lookIn_ns hns
  have l : List.lookup fld [(fld, v)] = some v := by simp [List.lookup]
  obtain ⟨u, hu, ru⟩ := RelO.some_of (v := v) (o := mA fld) (by rw [← l]; exact hr fld)
  have J : PySem.W.InstAt s1.heap a oe C (some od) := ⟨ha, hz.1, by unfold PySem.W.notCls; rw [hd] <;> rfl, by rw [hz.2]; exact ho⟩
  exact HandSPX.exc_get I1.kIn J ga gg exC (PySem.W.findObj_own hdC noN rfl (by rw [hl, hu])) (handed_of ru) ⟨v, H1, I1.tok _, ru, q⟩
end
end G

set_option linter.all false
set_option maxRecDepth 100000
set_option maxHeartbeats 1000000
set_option Elab.async false
/-! Xc: what an except suite makes of the error. -/
namespace G
open PySem PySem.Spec PyProof.Rows L2 PySem.W
/-- what is known of an own error class at C -/
structure ExcAt (P : Program) (K : Frag) (mg : Str → Option Value) (x : Str × Option Str) (C : Addr) : Prop where
  gC : mg x.1 = some (.ref C)
  kC : keepIn K (.ref C) = true
  sub : subIn K (.ref C) (.type "BaseException") = some true
  ty : typeIn K (.ref C) = some (.type "type")
  hd : hasDictIn K C = true
  hga : findIn K (.ref C) "__getattribute__" = some (some (.builtin "BaseException.__getattribute__"))
  hgt : findIn K (.ref C) "__getattr__" = some none
  ha : findIn K (.ref C) "__class__" = some (some (.builtin "object.__class__"))
  hn : specialIn K (.builtin "object.__class__") "__get__" = some (some (.builtin "getset_descriptor.__get__"))
  ht : takesIn K (.builtin "object.__class__") = some true
  hm : mroIn K C (.type "object") = some true
  m0 : x.2 = none → excIn K C veB "ValueError.__new__" = true
  mf : ∀ f, x.2 = some f → FldC P K f C
/-- what is known of all error classes -/
structure ExcF (P : Program) (K : Frag) (mg : Str → Option Value) (exs : List (Str × Option Str)) (T : Nat → Nat → Bool) (ad : Nat → Addr) : Prop where
  at_ : ∀ c x, exs[c]? = some x → ExcAt P K mg x (ad c)
  exm : ∀ c x c' x', exs[c]? = some x → exs[c']? = some x' → exmOne K (.ref (ad c)) (.ref (ad c')) = some (T c c')
  kit : ∀ c x c' x', exs[c]? = some x → exs[c']? = some x' → kitOne K (.ref (ad c)) (.ref (ad c')) = some (T c c')
/-- how an error stands -/
def xrt (K : Frag) (J : Jar) (exs : List (Str × Option Str)) (ad : Nat → Addr) : XRT := fun e H Z cls dd => ∃ x, exs[e.cls]? = some x ∧ cls = .ref (ad e.cls) ∧
  ((x.2 = none ∧ dd = none ∧ e.arg = none) ∨ ∃ f a v d, x.2 = some f ∧ e.arg = some (f, d) ∧ dd = some a ∧ H a = some (.xd [(f, v)]) ∧ Rep K J Z v d)
theorem xrt_grow {K : Frag} {J : Jar} {exs : List (Str × Option Str)} {ad : Nat → Addr} {e : Exn} {H H' Z Z' : Hp} {cls : Value} {dd : Option Addr} (h : xrt K J exs ad e H Z cls dd) (s : Same H H') (z : Same Z Z') : xrt K J exs ad e H' Z' cls dd := by
  obtain ⟨x, h1, h2, h3⟩ := h
  refine ⟨x, h1, h2, ?_⟩
  rcases h3 with h3 | ⟨f, a, v, d, e1, e2, e3, e4, e5⟩
  · exact .inl h3
  · exact .inr ⟨f, a, v, d, e1, e2, e3, s _ _ e4, e5.mono z⟩
def isB : Hx → Bool
  | .b _ => true | .isA _ => true | .nt _ => true | .and a b => isB a && isB b | _ => false
def hxsLen : Hxs → Nat | .nil => 0 | .cons _ es => hxsLen es + 1
section
variable (cf : Cfg) (S : Sc)
def chkCs : List Nat → List Expr → Bool
  | [], [] => true
  | c :: cs, .Name y _ :: ys => decide ((cf.excs[c]?).map (·.1) = some y) && (glB S y && (okName y && chkCs cs ys))
  | _, _ => false
mutual
def chkHx (n : Option Str) : Hx → Expr → Bool
  | .b x, .Constant (.bool y) _ _ => decide (x = y)
  | .s x, .Constant (.str y) _ _ => decide (x = y)
  | .i x, .Constant (.int y) _ _ => decide (x = y)
  | .n, .Constant .none _ _ => true
  | .fld f, .Attribute (.Name x _) g _ => decide (n = some x) && decide (f = g)
  | .isA [c], .Call (.Name i _) [.Name x _, .Name y _] [] _ => bltB cf S i "isinstance" && (decide (n = some x) && chkCs cf S [c] [.Name y ⟨0, 0, 0, 0⟩])
  | .isA (c :: d :: cs), .Call (.Name i _) [.Name x _, .Tuple ys _ _] [] _ => bltB cf S i "isinstance" && (decide (n = some x) && (decide (ys.length ≤ 1000) && chkCs cf S (c :: d :: cs) ys))
  | .nt a, .UnaryOp .Not x _ => isB a && chkHx n a x
  | .and a b, .BoolOp .And [x, y] _ => isB a && (isB b && (chkHx n a x && chkHx n b y))
  | .ite t a b, .IfExp u x y _ => isB t && (chkHx n t u && (chkHx n a x && chkHx n b y))
  | .lst hs, .List xs _ => decide (hxsLen hs ≤ 1000) && chkHxs n hs xs
  | .tup hs, .Tuple xs _ _ => decide (hxsLen hs ≤ 1000) && chkHxs n hs xs
  | _, _ => false
def chkHxs (n : Option Str) : Hxs → List Expr → Bool
  | .nil, [] => true
  | .cons h hs, x :: xs => notStar x && (chkHx n h x && chkHxs n hs xs)
  | _, _ => false
end
def chkHu (n : Option Str) : Hu → List Stmt → Bool
  | .ret h, [.Return (some x) _] => chkHx cf S n h x
  | .ifr t h u, .If c [.Return (some x) _] [] _ :: rest => isB t && (chkHx cf S n t c && (chkHx cf S n h x && chkHu n u rest))
  | _, _ => false
end
/-- where a suite runs -/
structure HSt (K : Frag) (J : Jar) (exs : List (Str × Option Str)) (ad : Nat → Addr) (F : Fm) (σ : L2.St) (H Z : Hp) (r : En) (e : Exn) (a : Addr) (cls : Value) (dd : Option Addr) (n : Option Nat) : Prop where
  rel : Rel K J F σ H Z r
  sl : ∀ i, n = some i → i < σ.length → σ[i]? = some (some (.ref a))
  xr : xrt K J exs ad e H Z cls dd
section
variable {K : Frag} {J : Jar} {exs : List (Str × Option Str)} {ad : Nat → Addr} {T : Nat → Nat → Bool} {a : Addr} {cls : Value} {dd : Option Addr} {n : Option Nat}
theorem HSt.lay {F : Fm} {σ : L2.St} {H Z : Hp} {r : En} {e : Exn} (S : HSt K J exs ad F σ H Z r e a cls dd n) {p : Addr} {o : HO} (h : H p = none) (z : ∀ xs, o = .lst xs ∨ o = .tup xs → xs.length ≤ sizeLine) (zo : (∃ xs, o = .lst xs) ∨ (∃ xs, o = .tup xs) ∨ o = .dK []) : Same Z (upd Z p o) ∧ HSt K J exs ad F σ (upd H p o) (upd Z p o) r e a cls dd n :=
  let ⟨s, R⟩ := S.rel.lay h z zo
  ⟨s, R, S.sl, xrt_grow S.xr (Same.upd h) s⟩
def lHx (K : Frag) (J : Jar) (exs : List (Str × Option Str)) (ad : Nat → Addr) (T : Nat → Nat → Bool) (a : Addr) (cls : Value) (dd : Option Addr) (n : Option Nat) (c : Hx) : TE := fun σ H Q => ∃ F Z r e, HSt K J exs ad F σ H Z r e a cls dd n ∧
  hxW T e c fun d => ∀ v H' Z', Same Z Z' → HSt K J exs ad F σ H' Z' r e a cls dd n → Rep K J Z' v d → Q v H'
def lHt (K : Frag) (J : Jar) (exs : List (Str × Option Str)) (ad : Nat → Addr) (T : Nat → Nat → Bool) (a : Addr) (cls : Value) (dd : Option Addr) (n : Option Nat) (c : Hx) : TT := fun σ H Q => ∃ F Z r e, HSt K J exs ad F σ H Z r e a cls dd n ∧
  hxW T e c fun d => ∀ b, d = .bool b → ∀ H' Z', Same Z Z' → HSt K J exs ad F σ H' Z' r e a cls dd n → Q b H'
def lHs (K : Frag) (J : Jar) (exs : List (Str × Option Str)) (ad : Nat → Addr) (T : Nat → Nat → Bool) (a : Addr) (cls : Value) (dd : Option Addr) (n : Option Nat) (c : Hxs) : TA := fun σ H Q => ∃ F Z r e, HSt K J exs ad F σ H Z r e a cls dd n ∧
  hxsW T e c fun ds => ∀ vs H' Z', Same Z Z' → HSt K J exs ad F σ H' Z' r e a cls dd n → RepL K J Z' vs ds → Q vs H'
theorem hx_bool {e : Exn} : ∀ {c : Hx} {k : D → Prop}, isB c = true → hxW T e c k → hxW T e c fun d => (∃ b, d = .bool b) ∧ k d
  | .b x, k, _, h => by unfold hxW at h ⊢; exact ⟨⟨_, rfl⟩, h⟩
  | .isA cs, k, _, h => by unfold hxW at h ⊢; exact ⟨⟨_, rfl⟩, h⟩
  | .nt x, k, _, h => by
    unfold hxW at h ⊢
    refine hxW_mono x (fun d q => ?_) h
    split at q
    · exact ⟨⟨_, rfl⟩, q⟩
    · exact q.elim
  | .and x y, k, hb, h => by
    unfold hxW at h ⊢
    unfold isB at hb
    refine hxW_mono x (fun d q => ?_) h
    split at q
    · split at q
      · rename_i c
        rw [if_pos c]
        exact hx_bool (and2 hb).2 q
      · rename_i c
        rw [if_neg c]
        exact ⟨⟨_, rfl⟩, q⟩
    · exact q.elim
  | .s _, _, hb, _ => by cases hb
  | .i _, _, hb, _ => by cases hb
  | .n, _, hb, _ => by cases hb
  | .fld _, _, hb, _ => by cases hb
  | .ite _ _ _, _, hb, _ => by cases hb
  | .lst _, _, hb, _ => by cases hb
  | .tup _, _, hb, _ => by cases hb
end
theorem hxs_len {T : Nat → Nat → Bool} {e : Exn} : ∀ {c : Hxs} {k : List D → Prop}, hxsW T e c k → hxsW T e c fun ds => ds.length = hxsLen c ∧ k ds
  | .nil, k, h => by unfold hxsW at h ⊢; exact ⟨rfl, h⟩
  | .cons x xs, k, h => by
    unfold hxsW at h ⊢
    refine hxW_mono x (fun d q => ?_) h
    exact hxsW_mono xs (fun ds q => ⟨by rw [List.length_cons, q.1]; rfl, q.2⟩) (hxs_len q)
section
variable {cf : Cfg} {J : Jar} {ad : Nat → Addr} {T : Nat → Nat → Bool} {X : Cx} {S : Sc} {a : Addr} {oe : Obj} {cls : Value} {dd : Option Addr} {pn : List (Addr × Obj)} {n : Option Nat} {nm : Option Str}
/-- what is fixed where a suite runs -/
structure Sui (cf : Cfg) (J : Jar) (ad : Nat → Addr) (T : Nat → Nat → Bool) (X : Cx) (S : Sc) (a : Addr) (oe : Obj) (cls : Value) (dd : Option Addr) (n : Option Nat) (nm : Option Str) : Prop where
  sc : X.env.scope = S.sc
  free : ∀ x, cf.free.contains x = true → X.mg x = none
  ef : ExcF X.prog X.K X.mg cf.excs T ad
  hz : Zc cls dd oe
  hf : ∃ vs, oe.data = .fields vs
  nm : ∀ x, nm = some x → ∃ i, n = some i ∧ X.N[i]? = some x ∧ X.env.kindOf x = some .local ∧ okName x = true
theorem use_H {c : Hx} {F : Fm} {σ : L2.St} {H Z : Hp} {r : En} {e : Exn} {Q : VK} {k : D → Prop} (st : HSt X.K J cf.excs ad F σ H Z r e a cls dd n) (h : hxW T e c k) (hk : ∀ d, k d → ∀ v H1 Z1, Same Z Z1 → HSt X.K J cf.excs ad F σ H1 Z1 r e a cls dd n → Rep X.K J Z1 v d → Q v H1) : lHx X.K J cf.excs ad T a cls dd n c σ H Q :=
  ⟨F, Z, r, e, st, hxW_mono c (fun d q v H' Z' s st' rp => hk d q v H' Z' s st' rp) h⟩
theorem use_Hs {c : Hxs} {F : Fm} {σ : L2.St} {H Z : Hp} {r : En} {e : Exn} {Q : List V → Hp → Prop} {k : List D → Prop} (st : HSt X.K J cf.excs ad F σ H Z r e a cls dd n) (h : hxsW T e c k) (hk : ∀ d, k d → ∀ v H1 Z1, Same Z Z1 → HSt X.K J cf.excs ad F σ H1 Z1 r e a cls dd n → RepL X.K J Z1 v d → Q v H1) : lHs X.K J cf.excs ad T a cls dd n c σ H Q :=
  ⟨F, Z, r, e, st, hxsW_mono c (fun d q v H' Z' s st' rp => hk d q v H' Z' s st' rp) h⟩
/-- isinstance of the error -/
def rIsX (K : Frag) (cls : Value) (dd : Option Addr) (a : Addr) : List V → Hp → VK → Prop := fun xs H Q => ∃ (D C' : Addr) (b : Bool), xs = [.ref a, .ref C'] ∧ cls = .ref D ∧ (∀ dx, dd = some dx → ∃ fs, H dx = some (.xd fs)) ∧ kitOne K cls (.ref C') = some b ∧ Q (.bl b) H
def rIsXT (K : Frag) (cls : Value) (dd : Option Addr) (a : Addr) : List V → Hp → VK → Prop := fun xs H Q => ∃ (D tp : Addr) (cs : List Addr) (b : Bool), xs = [.ref a, .ref tp] ∧ H tp = some (.tup (cs.map V.ref)) ∧ cls = .ref D ∧ (∀ dx, dd = some dx → ∃ fs, H dx = some (.xd fs)) ∧ kitAny K cls (cs.map Value.ref) = some b ∧ Q (.bl b) H
theorem inst_exc {X : Cx} {pins : List (Addr × Obj)} {σ : L2.St} {H : Hp} {s : Shared} {D : Addr} (I : Inv (X.suite a ((a, oe) :: pn)) pins σ H s) (hz : Zc (.ref D) dd oe) (hf : ∃ vs, oe.data = .fields vs) (hd : ∀ dx, dd = some dx → ∃ fs, H dx = some (.xd fs)) : ∃ od, InstAt s.heap a oe D od := by
  obtain ⟨ha, _⟩ := I.pin (a, oe) (List.mem_append_left _ List.mem_cons_self)
  obtain ⟨vs, hv⟩ := hf
  have nc : PySem.W.notCls oe = true := by unfold PySem.W.notCls; rw [hv] <;> rfl
  cases dd with
  | none => exact ⟨none, ha, hz.1, nc, by rw [hz.2]; trivial⟩
  | some dx =>
    obtain ⟨fs, e⟩ := hd dx rfl
    obtain ⟨mA, hns, _⟩ : ObjOk X.prog X.w H s.heap dx (.xd fs) := I.hok dx _ e
    obtain ⟨od, ho, _⟩ := lookIn_ns hns
    exact ⟨some od, ha, hz.1, nc, by rw [hz.2]; exact ho⟩
theorem call_isX (G : Sui cf J ad T X S a oe cls dd n nm) {c : Nat} {x : Str × Option Str} (hc : cf.excs[c]? = some x) (hcl : cls = .ref (ad c)) : CallR (X.suite a ((a, oe) :: pn)) (.builtin "isinstance") (rIsX X.K cls dd a) := by
  intro pins s σ H xs us Q I r h
  obtain ⟨D, C', b, rfl, e1, e2, e3, q⟩ := h
  have A := G.ef.at_ c x hc
  have hz := G.hz
  subst hcl
  cases r with
  | cons rx rr =>
    cases rr with
    | cons rt rr =>
      cases rr
      cases rx
      cases rt
      obtain ⟨od, J⟩ := inst_exc I hz G.hf e2
      have hcl : (clsIn X.K (ad c)).isSome = true := by obtain ⟨cd, hc, _⟩ := any_some A.hd; rw [hc]; rfl
      exact PySem.W.kia_one (PySem.W.kitx_exc hcl A.hga A.hgt A.sub A.ha A.hn A.ht A.hm) I.kIn J e3 (fun z => nomatch z) fun tk => ⟨.bl b, H, I.kept (t' := tk) fun _ _ z => z, rfl, q⟩
theorem vals_refs {cs : List Addr} {us : List Value} (h : Vals (cs.map V.ref) us) : us = cs.map Value.ref := by
  induction cs generalizing us with
  | nil => cases h; rfl
  | cons c cs ih =>
    cases h with
    | cons h1 h2 =>
      cases h1
      rw [ih h2]
      rfl
theorem call_isXT (G : Sui cf J ad T X S a oe cls dd n nm) {c : Nat} {x : Str × Option Str} (hc : cf.excs[c]? = some x) (hcl : cls = .ref (ad c)) : CallR (X.suite a ((a, oe) :: pn)) (.builtin "isinstance") (rIsXT X.K cls dd a) := by
  intro pins s σ H xs us Q I r h
  obtain ⟨D, tp, cs, b, rfl, ht, e1, e2, e3, q⟩ := h
  have A := G.ef.at_ c x hc
  have hz := G.hz
  subst hcl
  cases r with
  | cons rx rr =>
    cases rr with
    | cons rt rr =>
      cases rr
      cases rx
      cases rt
      obtain ⟨od, J⟩ := inst_exc I hz G.hf e2
      have hcl : (clsIn X.K (ad c)).isSome = true := by obtain ⟨cd, hc, _⟩ := any_some A.hd; rw [hc]; rfl
      obtain ⟨_, its, rv, ⟨oc, od2, odt, osl⟩, g1, g2, g3, g4⟩ := I.hok tp _ ht
      have e4 := vals_refs rv
      dsimp only at g2 g4
      subst g2 g4 e4
      exact PySem.W.kia_tup (PySem.W.kitx_exc hcl A.hga A.hgt A.sub A.ha A.hn A.ht A.hm) I.kIn J g1 e3 (fun z => nomatch z) fun tk => ⟨.bl b, H, I.kept (t' := tk) fun _ _ z => z, rfl, q⟩
theorem xr_dict {K : Frag} {exs : List (Str × Option Str)} {e : Exn} {H Z : Hp} (h : xrt K J exs ad e H Z cls dd) : ∃ x, exs[e.cls]? = some x ∧ cls = .ref (ad e.cls) ∧ ∀ dx, dd = some dx → ∃ fs, H dx = some (.xd fs) := by
  obtain ⟨x, h1, h2, h3⟩ := h
  refine ⟨x, h1, h2, fun dx hd => ?_⟩
  rcases h3 with ⟨_, h3, _⟩ | ⟨f, a, v, d, e1, e2, e3, e4, e5⟩
  · rw [hd] at h3; cases h3
  · rw [hd] at e3; cases e3; exact ⟨_, e4⟩
/-- the classes that a test names -/
theorem cs_of (G : Sui cf J ad T X S a oe cls dd n nm) : ∀ {cs : List Nat} {ys : List Expr}, chkCs cf S cs ys = true → (∀ c ∈ cs, ∃ x, cf.excs[c]? = some x) ∧ PA (X.suite a ((a, oe) :: pn)) ys (cs.foldr (fun c t => tCons (tC (.ref (ad c))) t) tNil)
  | [], [], _ => ⟨fun c hc => by simp at hc, pa_nil⟩
  | c :: cs, .Name y p :: ys, h => by
    unfold chkCs at h
    obtain ⟨h1, h⟩ := and2 h
    obtain ⟨h2, h⟩ := and2 h
    obtain ⟨h3, h4⟩ := and2 h
    obtain ⟨i1, i2⟩ := cs_of G h4
    have h1 := of_decide_eq_true h1
    cases hx : cf.excs[c]? with
    | none => rw [hx] at h1; cases h1
    | some x =>
      rw [hx] at h1
      have hy : x.1 = y := by simpa using h1
      subst hy
      have A := G.ef.at_ c x hx
      have hgl : Gl (X.suite a ((a, oe) :: pn)) x.1 := by
        show X.env.scope.names.lookup x.1 = some .globalImplicit
        rw [G.sc]
        unfold glB lk at h2
        split at h2
        · assumption
        · cases h2
      have hdb : (x.1 == ("__debug__" : Str)) = false := by
        unfold okName at h3
        obtain ⟨q1, _⟩ := and2 h3
        simpa using q1
      refine ⟨fun c' hc' => ?_, pa_cons (pe_glob hgl A.gC rfl hdb) i2 rfl⟩
      rcases List.mem_cons.mp hc' with rfl | hc'
      · exact ⟨x, hx⟩
      · exact i1 c' hc'
theorem cs_len : ∀ {cs : List Nat} {ys : List Expr}, chkCs cf S cs ys = true → cs.length = ys.length
  | [], [], _ => rfl
  | c :: cs, .Name y p :: ys, h => by
    unfold chkCs at h
    rw [List.length_cons, List.length_cons, cs_len (and2 (and2 (and2 h).2).2).2]
theorem cs_run {σ : L2.St} {H : Hp} {Q : List V → Hp → Prop} : ∀ (cs : List Nat), Q (cs.map fun c => V.ref (ad c)) H → (cs.foldr (fun c t => tCons (tC (.ref (ad c))) t) tNil) σ H Q
  | [], h => h
  | c :: cs, h => cs_run cs h
theorem kit_any (G : Sui cf J ad T X S a oe cls dd n nm) {c0 : Nat} {x0 : Str × Option Str} (h0 : cf.excs[c0]? = some x0) : ∀ {cs : List Nat}, (∀ c ∈ cs, ∃ x, cf.excs[c]? = some x) → kitAny X.K (.ref (ad c0)) (cs.map fun c => Value.ref (ad c)) = some (cs.any fun c => T c0 c)
  | [], _ => rfl
  | c :: cs, h => by
    obtain ⟨x, hx⟩ := h c List.mem_cons_self
    have k1 := G.ef.kit c0 x0 c x h0 hx
    have k2 := kit_any G h0 (cs := cs) fun c' hc' => h c' (List.mem_cons_of_mem _ hc')
    rw [List.map_cons, List.any_cons]
    unfold kitAny
    rw [k1]
    cases T c0 c with
    | true => rfl
    | false => exact k2
theorem err_pe (G : Sui cf J ad T X S a oe cls dd n nm) {x : Str} {p : Pos} (h : nm = some x) : ∃ i, n = some i ∧ i < X.N.length ∧ PE (X.suite a ((a, oe) :: pn)) (.Name x p) (tVar i) := by
  obtain ⟨i, h1, h2, h3, h4⟩ := G.nm x h
  unfold okName at h4
  obtain ⟨q1, q2⟩ := and2 h4
  exact ⟨i, h1, (List.getElem?_eq_some_iff.mp h2).1, pe_var h2 (.inl h3) (by simpa using q1) (by simpa using q2)⟩
theorem isB_pt {e : Expr} {c : Hx} (hp : plainT e = true) (hb : isB c = true) (h : PE (X.suite a ((a, oe) :: pn)) e (lHx X.K J cf.excs ad T a cls dd n c)) : PT (X.suite a ((a, oe) :: pn)) e (lHt X.K J cf.excs ad T a cls dd n c) := by
  refine ⟨fun pins s σ H Q I ⟨F, Z, r, e0, st, q⟩ => ?_⟩
  have l : lHx X.K J cf.excs ad T a cls dd n c σ H fun x H1 => ∃ Z d, Same Z H1 ∧ RepS X.K J H1 Z x d ∧ truW d fun b => Q b H1 := by
    refine use_H st (hx_bool hb q) fun d hd v H1 Z1 s1 st1 rp => ?_
    obtain ⟨⟨b, rfl⟩, hd⟩ := hd
    exact ⟨Z1, .bool b, st1.rel.sub, rp, hd b rfl H1 Z1 s1 st1⟩
  refine isTrue_plain (thn (h.run pins s σ H _ I l) fun v s1 ⟨x, H1, I1, r1, q1⟩ => tru_sound pins s1 σ H1 x v Q I1 r1 q1) ?_
  cases e <;> first | rfl | cases hp
theorem isi_pe (G : Sui cf J ad T X S a oe cls dd n nm) {cs : List Nat} {i x : Str} {e2 : Expr} {p p2 pos : Pos} {r : List V → Hp → VK → Prop} {t2 : TE} (hb : bltB cf S i "isinstance" = true) (hx : nm = some x) (ha : PE (X.suite a ((a, oe) :: pn)) e2 t2) (ns : notStar e2 = true)
    (hc : ∀ c0 x0, cf.excs[c0]? = some x0 → cls = .ref (ad c0) → CallR (X.suite a ((a, oe) :: pn)) (.builtin "isinstance") r)
    (ht : ∀ (F : Fm) (σ : L2.St) (H Z : Hp) (rr : En) (e : Exn) (Q : VK), HSt X.K J cf.excs ad F σ H Z rr e a cls dd n → (∀ v H' Z', Same Z Z' → HSt X.K J cf.excs ad F σ H' Z' rr e a cls dd n → Rep X.K J Z' v (.bool (cs.any fun c => T e.cls c)) → Q v H') → t2 σ H fun w H1 => r [.ref a, w] H1 Q) :
    PE (X.suite a ((a, oe) :: pn)) (.Call (.Name i p) [.Name x p2, e2] [] pos) (lHx X.K J cf.excs ad T a cls dd n (.isA cs)) := by
  obtain ⟨j, hj, jN, pv⟩ := err_pe (pn := pn) (oe := oe) (a := a) G hx (p := p2)
  unfold bltB at hb
  obtain ⟨g1, g2⟩ := and2 hb
  obtain ⟨g2, g3⟩ := and2 g2
  cases of_decide_eq_true g1
  have hgl : Gl (X.suite a ((a, oe) :: pn)) "isinstance" := by
    show X.env.scope.names.lookup ("isinstance" : Str) = some .globalImplicit
    rw [G.sc]
    unfold glB lk at g3
    split at g3
    · assumption
    · cases g3
  refine ⟨fun pins s σ H Q I ⟨F, Z, rr, e, st, q⟩ => ?_⟩
  obtain ⟨x0, h0, hcl, _⟩ := xr_dict st.xr
  have C := hc e.cls x0 h0 hcl
  refine (pe_callB C hgl (G.free _ g2) (by decide +kernel) (pa_cons pv (pa_cons ha pa_nil (star_of ns)) rfl) (by decide +kernel) (by decide +kernel) rfl (back_any (star_any (by simp [ns])))).run pins s σ H Q I ?_
  refine ⟨_, st.sl j hj (by rw [I.len]; exact jN), ?_⟩
  unfold hxW at q
  exact ht F σ H Z rr e Q st q
mutual
theorem snd_Hx (G : Sui cf J ad T X S a oe cls dd n nm) : ∀ (c : Hx) {e : Expr}, chkHx cf S nm c e = true → PE (X.suite a ((a, oe) :: pn)) e (lHx X.K J cf.excs ad T a cls dd n c) ∧ (isB c = true → PT (X.suite a ((a, oe) :: pn)) e (lHt X.K J cf.excs ad T a cls dd n c))
  | .b x, e, h => by
    unfold chkHx at h
    split at h
    all_goals first | (exact absurd h Bool.false_ne_true) | (rename_i heq; cases heq; done) | (rename_i heq; cases heq)
    cases of_decide_eq_true h
    rename_i k p0
    have p : PE (X.suite a ((a, oe) :: pn)) (.Constant (.bool x) k p0) (lHx X.K J cf.excs ad T a cls dd n (.b x)) := pe_bl.imp fun pins s σ H Q I ⟨F, Z, r, e0, st, q⟩ => by
      unfold hxW at q
      exact q _ H Z (.refl _) st (.bl _)
    exact ⟨p, fun hb => isB_pt rfl hb p⟩
  | .s x, e, h => by
    unfold chkHx at h
    split at h
    all_goals first | (exact absurd h Bool.false_ne_true) | (rename_i heq; cases heq; done) | (rename_i heq; cases heq)
    cases of_decide_eq_true h
    exact ⟨pe_str.imp fun pins s σ H Q I ⟨F, Z, r, e0, st, q⟩ => by
      unfold hxW at q
      exact q _ H Z (.refl _) st (.str _), fun hb => by cases hb⟩
  | .i x, e, h => by
    unfold chkHx at h
    split at h
    all_goals first | (exact absurd h Bool.false_ne_true) | (rename_i heq; cases heq; done) | (rename_i heq; cases heq)
    cases of_decide_eq_true h
    exact ⟨pe_int.imp fun pins s σ H Q I ⟨F, Z, r, e0, st, q⟩ => by
      unfold hxW at q
      exact q _ H Z (.refl _) st (.int _), fun hb => by cases hb⟩
  | .n, e, h => by
    unfold chkHx at h
    split at h
    all_goals first | (exact absurd h Bool.false_ne_true) | (rename_i heq; cases heq; done) | (rename_i heq; cases heq)
    exact ⟨pe_non.imp fun pins s σ H Q I ⟨F, Z, r, e0, st, q⟩ => by
      unfold hxW at q
      exact q _ H Z (.refl _) st .non, fun hb => by cases hb⟩
  | .fld f, e, h => by
    unfold chkHx at h
    split at h
    all_goals first | (exact absurd h Bool.false_ne_true) | (rename_i heq; cases heq; done) | (rename_i heq; cases heq)
    obtain ⟨h1, h2⟩ := and2 h
    cases of_decide_eq_true h2
    obtain ⟨j, hj, jN, pv⟩ := err_pe (pn := pn) (oe := oe) (a := a) G (of_decide_eq_true h1)
    refine ⟨⟨fun pins s σ H Q I ⟨F, Z, r, e0, st, q⟩ => ?_⟩, fun hb => by cases hb⟩
    unfold hxW at q
    obtain ⟨x, h3, h4, h5⟩ := st.xr
    split at q
    · rename_i d hd
      obtain ⟨rfl, q⟩ := q
      rcases h5 with ⟨g1, g2, g3⟩ | ⟨f, b, v, d2, g1, g2, g3, g4, g5⟩
      · rw [hd] at g3; cases g3
      · rw [hd] at g2
        cases g2
        have A := G.ef.at_ _ _ h3
        obtain ⟨fI, cc, cda, nm', q', N, bs, bm, sn, sub, ab, col, dd', k0, k1, k2, k3, k5, oc, doc, pm, ct, ccl, cl, od, an, cdd, cld, osl, ccs, csl, qual, ps, bb, sc, vs, file, tf, e1, e2, e3, e4, _⟩ := (A.mf _ g1).ex
        refine (pe_fldE (C := ad e0.cls) A.hga A.hgt A.sub A.hd e4 G.hz G.hf pv rfl).run pins s σ H Q I ⟨_, st.sl j hj (by rw [I.len]; exact jN), rfl, h4, b, v, g3, g4, q v H Z (.refl _) st g5⟩
    · exact q.elim
  | .isA [], e, h => by
    unfold chkHx at h
    exact absurd h Bool.false_ne_true
  | .isA [c], e, h => by
    unfold chkHx at h
    split at h
    all_goals first | (exact absurd h Bool.false_ne_true) | (rename_i heq; cases heq; done) | (rename_i heq; cases heq)
    rename_i i p1 x p2 y p3 pos
    obtain ⟨h1, h⟩ := and2 h
    obtain ⟨h2, h3⟩ := and2 h
    have h4 : chkCs cf S [c] [.Name y p3] = true := h3
    obtain ⟨c1, c2⟩ := cs_of (pn := pn) (oe := oe) (a := a) G h4
    obtain ⟨x1, hx1⟩ := c1 c List.mem_cons_self
    have pg : PE (X.suite a ((a, oe) :: pn)) (.Name y p3) (tC (.ref (ad c))) := by
      unfold chkCs at h4
      obtain ⟨k1, k2⟩ := and2 h4
      obtain ⟨k2, k3⟩ := and2 k2
      obtain ⟨k3, _⟩ := and2 k3
      have k1 := of_decide_eq_true k1
      rw [hx1] at k1
      have hy : x1.1 = y := by simpa using k1
      subst hy
      have A := G.ef.at_ c x1 hx1
      refine pe_glob ?_ A.gC rfl ?_
      · show X.env.scope.names.lookup x1.1 = some .globalImplicit
        rw [G.sc]
        unfold glB lk at k2
        split at k2
        · assumption
        · cases k2
      · unfold okName at k3
        obtain ⟨q1, _⟩ := and2 k3
        simpa using q1
    have p : PE (X.suite a ((a, oe) :: pn)) (.Call (.Name i p1) [.Name x p2, .Name y p3] [] pos) (lHx X.K J cf.excs ad T a cls dd n (.isA [c])) :=
      isi_pe G h1 (of_decide_eq_true h2) pg rfl (fun c0 x0 h0 hcl => call_isX (pn := pn) G h0 hcl) fun F σ H Z rr e Q st q => by
        obtain ⟨x0, h0, hcl, hd⟩ := xr_dict st.xr
        refine ⟨ad e.cls, ad c, T e.cls c, rfl, hcl, hd, by rw [hcl]; exact G.ef.kit _ _ _ _ h0 hx1, q _ H Z (.refl _) st ?_⟩
        have : ([c].any fun c => T e.cls c) = T e.cls c := by simp
        rw [this]
        exact .bl _
    exact ⟨p, fun hb => isB_pt rfl hb p⟩
  | .isA (c :: d :: cs), e, h => by
    unfold chkHx at h
    split at h
    all_goals first | (exact absurd h Bool.false_ne_true) | (rename_i heq; cases heq; done) | (rename_i heq; cases heq)
    rename_i i p1 x p2 ys k p3 pos
    obtain ⟨h1, h⟩ := and2 h
    obtain ⟨h2, h⟩ := and2 h
    obtain ⟨h3, h4⟩ := and2 h
    obtain ⟨c1, c2⟩ := cs_of (pn := pn) (oe := oe) (a := a) G h4
    have p : PE (X.suite a ((a, oe) :: pn)) (.Call (.Name i p1) [.Name x p2, .Tuple ys k p3] [] pos) (lHx X.K J cf.excs ad T a cls dd n (.isA (c :: d :: cs))) :=
      isi_pe G h1 (of_decide_eq_true h2) (pe_tup c2) rfl (fun c0 x0 h0 hcl => call_isXT (pn := pn) G h0 hcl) fun F σ H Z rr e Q st q => by
        obtain ⟨x0, h0, hcl, hd⟩ := xr_dict st.xr
        have lc : (c :: d :: cs).length ≤ sizeLine := by rw [cs_len h4, szl]; have := of_decide_eq_true h3; omega
        refine cs_run (c :: d :: cs) ⟨by rw [List.length_map]; exact lc, fun p hp => ?_⟩
        · obtain ⟨s1, st1⟩ := st.lay (o := .tup ((c :: d :: cs).map fun c => V.ref (ad c))) hp (fun xs hxs => by rcases hxs with z | z <;> cases z; rw [List.length_map]; exact lc) (.inr (.inl ⟨_, rfl⟩))
          obtain ⟨_, _, _, hd1⟩ := xr_dict st1.xr
          refine ⟨ad e.cls, p, (c :: d :: cs).map ad, _, rfl, by rw [upd_same, List.map_map]; rfl, hcl, hd1, ?_, q _ _ _ s1 st1 (.bl _)⟩
          rw [hcl, List.map_map]
          exact kit_any G h0 c1
    exact ⟨p, fun hb => isB_pt rfl hb p⟩
  | .nt x, e, h => by
    have ix := @snd_Hx G x
    unfold chkHx at h
    split at h
    all_goals first | (exact absurd h Bool.false_ne_true) | (rename_i heq; cases heq; done) | (rename_i heq; cases heq)
    rename_i ex pos
    obtain ⟨h1, h2⟩ := and2 h
    obtain ⟨px, tx⟩ := ix h2
    have tx := tx h1
    refine ⟨⟨fun pins s σ H Q I ⟨F, Z, r, e0, st, q⟩ => ?_⟩, fun _ => (pt_not tx).imp fun pins s σ H Q I ⟨F, Z, r, e0, st, q⟩ => ?_⟩
    · unfold hxW at q
      have l : lHx X.K J cf.excs ad T a cls dd n x σ H fun x H1 => ∃ Z d, Same Z H1 ∧ RepS X.K J H1 Z x d ∧ truW d fun b => Q (.bl (!b)) H1 := by
        refine use_H st q fun d hd v H1 Z1 s1 st1 rp => ?_
        split at hd
        · exact ⟨Z1, _, st1.rel.sub, st1.rel.repS rp, hd _ H1 Z1 s1 st1 (.bl _)⟩
        · exact hd.elim
      refine UnaryOp_ (thn (px.run pins s σ H _ I l) fun v s1 ⟨x, H1, I1, r1, q1⟩ => ?_)
      refine not_of (thn (tru_sound pins s1 σ H1 x v (fun b H2 => Q (.bl (!b)) H2) I1 r1 q1) fun b s2 ⟨H2, I2, q2⟩ => ?_)
      exact ⟨.bl (!b), H2, I2, rfl, q2⟩
    · unfold hxW at q
      refine ⟨F, Z, r, e0, st, hxW_mono x (fun d hd b eb H' Z' s' st' => ?_) q⟩
      subst eb
      exact hd (!b) rfl H' Z' s' st'
  | .and x y, e, h => by
    have ix := @snd_Hx G x
    have iy := @snd_Hx G y
    unfold chkHx at h
    split at h
    all_goals first | (exact absurd h Bool.false_ne_true) | (rename_i heq; cases heq; done) | (rename_i heq; cases heq)
    rename_i ex ey pos
    obtain ⟨b1, h⟩ := and2 h
    obtain ⟨b2, h⟩ := and2 h
    obtain ⟨h1, h2⟩ := and2 h
    obtain ⟨px, tx⟩ := ix h1
    obtain ⟨py, ty⟩ := iy h2
    have tx := tx b1
    have ty := ty b2
    refine ⟨(pe_and px (pe_one py)).imp fun pins s σ H Q I ⟨F, Z, r, e0, st, q⟩ => ?_, fun _ => (pw_and tx (pw_and1 ty)).pt.imp fun pins s σ H Q I ⟨F, Z, r, e0, st, q⟩ => ?_⟩
    · unfold hxW at q
      refine use_H st q fun d hd v H1 Z1 s1 st1 rp => ?_
      split at hd
      · cases rep_bool rp
        refine ⟨_, rfl, ?_⟩
        split at hd
        · rename_i c
          rw [if_pos c]
          exact use_H st1 hd fun d2 hd2 w H2 Z2 s2 st2 rp2 => hd2 w H2 Z2 (s1.trans s2) st2 rp2
        · rename_i c
          rw [if_neg c]
          exact hd _ H1 Z1 s1 st1 (.bl _)
      · exact hd.elim
    · unfold hxW at q
      refine ⟨F, Z, r, e0, st, hxW_mono x (fun d hd b eb H1 Z1 s1 st1 => ?_) q⟩
      subst eb
      dsimp only at hd
      by_cases c : b = true
      · rw [if_pos c]
        rw [if_pos c] at hd
        exact ⟨F, Z1, r, e0, st1, hxW_mono y (fun d2 hd2 b2 eb2 H2 Z2 s2 st2 => hd2 b2 eb2 H2 Z2 (s1.trans s2) st2) hd⟩
      · rw [if_neg c]
        rw [if_neg c] at hd
        exact hd false rfl H1 Z1 s1 st1
  | .ite t x y, e, h => by
    have it := @snd_Hx G t
    have ix := @snd_Hx G x
    have iy := @snd_Hx G y
    unfold chkHx at h
    split at h
    all_goals first | (exact absurd h Bool.false_ne_true) | (rename_i heq; cases heq; done) | (rename_i heq; cases heq)
    rename_i et ex ey pos
    obtain ⟨b1, h⟩ := and2 h
    obtain ⟨h0, h⟩ := and2 h
    obtain ⟨h1, h2⟩ := and2 h
    refine ⟨(pe_ifExp ((it h0).2 b1) (ix h1).1 (iy h2).1).imp fun pins s σ H Q I ⟨F, Z, r, e0, st, q⟩ => ?_, fun hb => by cases hb⟩
    unfold hxW at q
    refine ⟨F, Z, r, e0, st, hxW_mono t (fun d hd b eb H1 Z1 s1 st1 => ?_) q⟩
    subst eb
    dsimp only at hd
    by_cases c : b = true
    · rw [if_pos c]
      rw [if_pos c] at hd
      exact use_H st1 hd fun d2 hd2 w H2 Z2 s2 st2 rp2 => hd2 w H2 Z2 (s1.trans s2) st2 rp2
    · rw [if_neg c]
      rw [if_neg c] at hd
      exact use_H st1 hd fun d2 hd2 w H2 Z2 s2 st2 rp2 => hd2 w H2 Z2 (s1.trans s2) st2 rp2
  | .lst hs, e, h => by
    have is := @snd_Hxs G hs
    unfold chkHx at h
    split at h
    all_goals first | (exact absurd h Bool.false_ne_true) | (rename_i heq; cases heq; done) | (rename_i heq; cases heq)
    obtain ⟨h1, h2⟩ := and2 h
    have lh := of_decide_eq_true h1
    refine ⟨(pe_lst (is h2)).imp fun pins s σ H Q I ⟨F, Z, r, e0, st, q⟩ => ?_, fun hb => by cases hb⟩
    unfold hxW at q
    refine use_Hs st (hxs_len q) fun ds hd vs H1 Z1 s1 st1 rl => ?_
    obtain ⟨hl, hd⟩ := hd
    have lv : vs.length ≤ sizeLine := by rw [rl.length, hl, szl]; omega
    refine ⟨lv, fun p hp => ?_⟩
    obtain ⟨s2, st2⟩ := st1.lay (o := .lst vs) hp (fun xs hxs => by rcases hxs with z | z <;> cases z; exact lv) (.inl ⟨_, rfl⟩)
    exact hd _ _ _ (s1.trans s2) st2 (.lst upd_same (rl.mono s2))
  | .tup hs, e, h => by
    have is := @snd_Hxs G hs
    unfold chkHx at h
    split at h
    all_goals first | (exact absurd h Bool.false_ne_true) | (rename_i heq; cases heq; done) | (rename_i heq; cases heq)
    obtain ⟨h1, h2⟩ := and2 h
    have lh := of_decide_eq_true h1
    refine ⟨(pe_tup (is h2)).imp fun pins s σ H Q I ⟨F, Z, r, e0, st, q⟩ => ?_, fun hb => by cases hb⟩
    unfold hxW at q
    refine use_Hs st (hxs_len q) fun ds hd vs H1 Z1 s1 st1 rl => ?_
    obtain ⟨hl, hd⟩ := hd
    have lv : vs.length ≤ sizeLine := by rw [rl.length, hl, szl]; omega
    refine ⟨lv, fun p hp => ?_⟩
    obtain ⟨s2, st2⟩ := st1.lay (o := .tup vs) hp (fun xs hxs => by rcases hxs with z | z <;> cases z; exact lv) (.inr (.inl ⟨_, rfl⟩))
    exact hd _ _ _ (s1.trans s2) st2 (.tup (.inl (.inl upd_same)) (rl.mono s2))
theorem snd_Hxs (G : Sui cf J ad T X S a oe cls dd n nm) : ∀ (c : Hxs) {e : List Expr}, chkHxs cf S nm c e = true → PA (X.suite a ((a, oe) :: pn)) e (lHs X.K J cf.excs ad T a cls dd n c)
  | .nil, [], h => pa_nil.imp fun pins s σ H Q I ⟨F, Z, r, e0, st, q⟩ => by
    unfold hxsW at q
    exact q [] H Z (.refl _) st .nil
  | .cons x xs, e :: es, h => by
    have ix := @snd_Hx G x
    have is := @snd_Hxs G xs
    unfold chkHxs at h
    obtain ⟨h1, h⟩ := and2 h
    obtain ⟨h2, h3⟩ := and2 h
    refine (pa_cons (ix h2).1 (is h3) (star_of h1)).imp fun pins s σ H Q I ⟨F, Z, r, e0, st, q⟩ => ?_
    unfold hxsW at q
    refine use_H st q fun d hd v H1 Z1 s1 st1 rp => ?_
    exact use_Hs st1 hd fun ds hds vs H2 Z2 s2 st2 rl => hds (v :: vs) H2 Z2 (s1.trans s2) st2 (.cons (rp.mono s2) rl)
  | .nil, _ :: _, h => by unfold chkHxs at h; cases h
  | .cons _ _, [], h => by unfold chkHxs at h; cases h
end
end
end G

set_option linter.all false
set_option maxRecDepth 100000
set_option maxHeartbeats 1000000
set_option Elab.async false
/-! Xd: try with several clauses, raise. -/
namespace G
open PySem PySem.Spec PyProof.Rows L2
/-- a clause: its class, the slot of its name, what its suite does -/
structure Cl where
  c : Value
  i : Option Nat
  ts : Addr → Value → Option Addr → TS
def setN (σ : L2.St) (n : Option Nat) (v : Option V) : L2.St := match n with | some i => σ.set i v | none => σ
/-- the name goes when the suite ends -/
def offD (n : Option Nat) (D : Ends) : Ends := { nx := fun σ H => D.nx (setN σ n none) H, rt := D.rt, bk := fun σ H => D.bk (setN σ n none) H, ct := fun σ H => D.ct (setN σ n none) H }
/-- what the clauses wish, one behind the other -/
def wCls (K : PySem.W.Frag) (Wo : WX) (D : Ends) : List Cl → WX
  | [] => Wo
  | q :: l => fun cls d σ H => ∃ b, PySem.W.exmOne K cls q.c = some b ∧ (b = true → ∀ a, H a = none → q.ts a cls d (offD q.i D) (setN σ q.i (some (.ref a))) H) ∧ (b = false → wCls K Wo D l cls d σ H)
inductive ClsOk (X : Cx) : List ExceptHandler → List Cl → Prop
  | nil : ClsOk X [] []
  | cons {x n : Str} {q : Cl} {j : Nat} {s0 : Stmt} {su : List Stmt} {p1 p2 : Pos} {hds : List ExceptHandler} {l : List Cl} (hc : Names X x q.c) (hj : q.i = some j) (hi : X.N[j]? = some n) (hl : X.env.kindOf n = some .local)
      (hsu : ∀ (a : Addr) (oe : Obj) (cls : Value) (d : Option Addr) (pn : List (Addr × Obj)), Zc cls d oe → (∃ vs, oe.data = .fields vs) → PSs (X.suite a ((a, oe) :: pn)) (s0 :: su) (q.ts a cls d)) (r : ClsOk X hds l) :
      ClsOk X (.ExceptHandler (some (.Name x p1)) (some n) (s0 :: su) p2 :: hds) (q :: l)
  | bare {x : Str} {q : Cl} {s0 : Stmt} {su : List Stmt} {p1 p2 : Pos} {hds : List ExceptHandler} {l : List Cl} (hc : Names X x q.c) (hj : q.i = none)
      (hsu : ∀ (a : Addr) (oe : Obj) (cls : Value) (d : Option Addr) (pn : List (Addr × Obj)), Zc cls d oe → (∃ vs, oe.data = .fields vs) → PSs (X.suite a ((a, oe) :: pn)) (s0 :: su) (q.ts a cls d)) (r : ClsOk X hds l) :
      ClsOk X (.ExceptHandler (some (.Name x p1)) none (s0 :: su) p2 :: hds) (q :: l)
theorem ps_try_cls {X : Cx} {body : List Stmt} {h0 : ExceptHandler} {hds : List ExceptHandler} {l : List Cl} {pos : Pos} {tb : WX → TS} {Wo : WX} (hs : X.stack = X.env :: X.outer) (hf : X.env.frame = some X.env.locals) (hN : X.N.Nodup) (tk : Takes X Wo)
    (hb : ∀ (W : WX) (pn : List (Addr × Obj)) (xe : Value → Shared → Prop), Takes (X.tr pn xe) W → PassesOwn (model X.prog X.w) X.A X.env xe → PSs (X.tr pn xe) body (tb W))
    (hh : ClsOk X (h0 :: hds) l) : PS X (.Try body (h0 :: hds) [] [] pos) (fun D σ H => tb (wCls X.K Wo D l) D σ H) := by
  refine ⟨fun pins s σ H D I h => ?_⟩
  have ok := I.ok
  have frm : X.A.frames = some (X.env :: X.outer) := by rw [ok.frames, hs]
  refine wpAny_Try_except ?_
  have run := (hb (wCls X.K Wo D l) (X.pn ++ pins) (fun e sa => wpAny (model X.prog X.w) X.A (noteFrame e X.env) (fun _ sb => wpAny (model X.prog X.w) X.A (setFlight e none) (fun _ sc =>
    wpAny (model X.prog X.w) X.A (handleBy e X.env (h0 :: hds)) (SP X pins D) X.xe sc) X.xe sb) X.xe sa) ?takes PassesOwn.looking).run [] s σ H D (I.toTry _) h
  · refine wpAny_mono run (fun f s1 hsp => ?_) (fun e s1 he => he)
    cases f with
    | next => obtain ⟨σ', H', J', q⟩ := hsp; exact wpAny_execs_nil ⟨σ', H', J'.ofTry ok, q⟩
    | brk => obtain ⟨σ', H', J', q⟩ := hsp; exact ⟨σ', H', J'.ofTry ok, q⟩
    | cont => obtain ⟨σ', H', J', q⟩ := hsp; exact ⟨σ', H', J'.ofTry ok, q⟩
    | ret u => obtain ⟨v, σ', H', J', r, q⟩ := hsp; exact ⟨v, σ', H', J'.ofTry ok, r, q⟩
  · intro u s' xx
    obtain ⟨a, B, sI, pins', σ', H', cls, d, rfl, J', nb, upto, sky, na, os, ag, w⟩ := xx
    have J : Inv X pins σ' H' sI := J'.ofTry ok
    rw [show (X.tr (X.pn ++ pins) _).stack = X.env :: X.outer from hs] at sky
    show wpAny (model X.prog X.w) X.A (noteFrame (.ref a) X.env) _ _ _
    refine Sky.land Zc.steady frm hf sky fun h3 fl3 up3 => ?_
    have J3 : Inv X pins σ' H' { s' with heap := h3 } := J.landed nb fl3.1 (upto.trans up3) os ag
    obtain ⟨oe3, vs3, he3, hz3, hd3⟩ := fl3.there
    have out : a ∉ frs (X.env :: X.outer) := fun hm => by
      obtain ⟨_, o', e', hnf⟩ := fl3.2.2.1.mem hm
      rw [he3] at e'
      cases e'
      exact hnf _ hd3
    have nL : a ≠ X.env.locals := fun z => out (List.mem_filterMap.mpr ⟨X.env, List.mem_cons_self, by rw [hf, z]⟩)
    have nF : a ∉ X.fs := fun hm => by
      obtain ⟨e, he, q⟩ := List.mem_filterMap.mp hm
      exact out (List.mem_filterMap.mpr ⟨e, List.mem_cons_of_mem _ he, q⟩)
    have S3 := J3.suite he3 hd3 na nL nF
    have test : ∀ {x : Str} {c : Value} {p1 : Pos}, Names X x c → ∀ {Q : Value → Shared → Prop} {E : Value → Shared → Prop}, Q c { s' with heap := h3 } → wpAny (model X.prog X.w) (X.A.mark (some (.ref a))) (eval (.Name x p1) X.env) Q E { s' with heap := h3 } := fun {x c p1} hc {Q E} z => by
      rcases hc with ⟨hg, hdb, hm | ⟨hm, hv, hn⟩⟩
      · exact ld_glob (X := X.suite a ((a, oe3) :: (X.pn ++ pins))) S3 hg hm z hdb
      · exact ld_blt (X := X.suite a ((a, oe3) :: (X.pn ++ pins))) S3 hg hm hv z hn hdb
    have LT : PySem.W.Looks (model X.prog X.w) h3 (typeOf (.ref a)) cls := fun A Q E s k q => wpAny_typeOf_ref (k _ _ he3) (by rw [hz3.1]; exact q)
    have go : ∀ {hs' : List ExceptHandler} {l' : List Cl}, ClsOk X hs' l' → wCls X.K Wo D l' cls d σ' H' → wpAny (model X.prog X.w) X.A (handleBy (.ref a) X.env hs') (SP X pins D) X.xe { s' with heap := h3 } := by
      intro hs' l' hk
      induction hk with
      | nil =>
        intro w
        refine wpAny_handleBy_nil ?_
        obtain ⟨_, _, _, oe, vs, T, _, _, he, _, hd, h1, _⟩ := id fl3
        have last : wpAny (model X.prog X.w) X.A (setFlight (.ref a) X.env.frame) (fun _ s4 => wpAny (model X.prog X.w) X.A (throw (.ref a) : Sem Flow) (SP X pins D) X.xe s4) X.xe { s' with heap := h3 } := by
          rw [hf]
          refine HandSPX.setFlight_upZ fl3 fun h4 k4 up4 => wpAny_throw (tk _ _ ⟨a, B, sI, pins, σ', H', cls, d, rfl, J, nb, (upto.trans up3).trans up4, .inr (.inr ?_), na, os, ag, w⟩)
          rw [hs]
          exact k4
        unfold PySem.passOn
        refine wpAny_bind (wpAny_field he hd h1 ?_)
        rw [if_neg (show ¬ ((Value.ref T == Value.none) = true) from by simp)]
        first
          | exact wpAny_bind (wpAny_pure (wpAny_bind last))
          | exact wpAny_bind last
      | @cons x n q j s0 su p1 p2 hds2 l2 hc hj hi hl hsu r ih =>
        rintro ⟨b, hb1, yes, no⟩
        refine wpAny_handleBy_cons (codeAny_handlers_test ?_) (by intro q; cases q)
        have LM := PySem.W.exm_one (M := model X.prog X.w) J3.kIn LT hb1
        refine test hc (LM.here ?_)
        cases b with
        | false =>
          show wpAny _ X.A (handleBy (.ref a) X.env hds2) _ _ _
          exact ih (no rfl)
        | true =>
          refine codeAny_handlers_suite_as ?_
          refine HandSPX.lands_againZ fl3 fun h4 fl4 up4 => ?_
          have J4 : Inv X pins σ' H' { s' with heap := h4 } := J.landed nb fl4.1 ((upto.trans up3).trans up4) os ag
          obtain ⟨oe4, vs4, he4, hz4, hd4⟩ := fl4.there
          have S4 := J4.suite he4 hd4 na nL nF
          have yes := yes rfl a na
          rw [hj] at yes
          refine store_ok (X := X.suite a ((a, oe4) :: (X.pn ++ pins))) (v := .ref a) S4 hN hi (.inl hl) rfl (fun s5 S5 => ?_) (.inr hl)
          refine wpAny_mono ((hsu a oe4 cls d (X.pn ++ pins) hz4 ⟨_, hd4⟩).run [] s5 _ H' _ S5 yes) (fun f s6 hsp => ?_) (fun _ _ z => False.elim z)
          have fin : ∀ {σ6 : L2.St} {H6 : Hp} {Q : Shared → Prop}, Inv (X.suite a ((a, oe4) :: (X.pn ++ pins))) [] σ6 H6 s6 → (∀ s7, Inv X pins (σ6.set j none) H6 s7 → Q s7) →
              wpAny (model X.prog X.w) X.A (do bindName X.env n .none; unbindBehindTheSuite X.env n p2) (fun _ s7 => Q s7) X.xe s6 := fun S6 hq => gone_ok (S6.unsuite ok) hN hi hl hq
          cases f with
          | next => obtain ⟨σ6, H6, S6, q6⟩ := hsp; exact fin S6 fun s7 J7 => ⟨_, _, J7, q6⟩
          | brk => obtain ⟨σ6, H6, S6, q6⟩ := hsp; exact fin S6 fun s7 J7 => ⟨_, _, J7, q6⟩
          | cont => obtain ⟨σ6, H6, S6, q6⟩ := hsp; exact fin S6 fun s7 J7 => ⟨_, _, J7, q6⟩
          | ret u => obtain ⟨v6, σ6, H6, S6, r6, q6⟩ := hsp; exact fin S6 fun s7 J7 => ⟨_, _, _, J7, r6, q6⟩
      | @bare x q s0 su p1 p2 hds2 l2 hc hj hsu r ih =>
        rintro ⟨b, hb1, yes, no⟩
        refine wpAny_handleBy_cons (codeAny_handlers_test ?_) (by intro q; cases q)
        have LM := PySem.W.exm_one (M := model X.prog X.w) J3.kIn LT hb1
        refine test hc (LM.here ?_)
        cases b with
        | false =>
          show wpAny _ X.A (handleBy (.ref a) X.env hds2) _ _ _
          exact ih (no rfl)
        | true =>
          refine codeAny_handlers_suite ?_
          refine HandSPX.lands_againZ fl3 fun h4 fl4 up4 => ?_
          have J4 : Inv X pins σ' H' { s' with heap := h4 } := J.landed nb fl4.1 ((upto.trans up3).trans up4) os ag
          obtain ⟨oe4, vs4, he4, hz4, hd4⟩ := fl4.there
          have S4 := J4.suite he4 hd4 na nL nF
          have yes := yes rfl a na
          rw [hj] at yes
          refine wpAny_mono ((hsu a oe4 cls d (X.pn ++ pins) hz4 ⟨_, hd4⟩).run [] _ _ H' _ S4 yes) (fun f s6 hsp => ?_) (fun _ _ z => False.elim z)
          cases f with
          | next => obtain ⟨σ6, H6, S6, q6⟩ := hsp; exact ⟨_, _, S6.unsuite ok, q6⟩
          | brk => obtain ⟨σ6, H6, S6, q6⟩ := hsp; exact ⟨_, _, S6.unsuite ok, q6⟩
          | cont => obtain ⟨σ6, H6, S6, q6⟩ := hsp; exact ⟨_, _, S6.unsuite ok, q6⟩
          | ret u => obtain ⟨v6, σ6, H6, S6, r6, q6⟩ := hsp; exact ⟨_, _, _, S6.unsuite ok, r6, q6⟩
    exact go hh w
section
variable {K : PySem.W.Frag} {J : Jar} {F : Fm} {σ : L2.St} {H Z : Hp} {r : En}
theorem Rel.setUn (R : Rel K J F σ H Z r) {i : Nat} {v : Option V} : Rel K J F (σ.set i v) H Z (r.set i .un) := by
  have out : ∀ {j : Nat} {s : Slot}, rd (r.set i .un) j = s → s ≠ .un → i ≠ j ∧ rd r j = s := fun {j s} e n => by
    by_cases ij : i = j
    · subst ij
      by_cases il : i < r.length
      · rw [rd_same il] at e; exact absurd e.symm n
      · have := rd_lt (r := r.set i .un) (i := i) (by rw [e]; exact n)
        rw [En.length_set] at this
        exact absurd this il
    · rw [rd_ne ij] at e
      exact ⟨ij, e⟩
  refine ⟨R.sub, R.frame, R.jar, R.jz, by rw [En.length_set, List.length_set]; exact R.len, fun j d e => ?_, fun j ds e => ?_, fun j k ds es a e e2 h1 h2 => ?_, R.zs, R.zo, R.ng, R.gf, fun j k e => ?_⟩
  · obtain ⟨q, e⟩ := out e (fun z => by cases z)
    rw [List.getElem?_set_ne q]
    exact R.fz j d e
  · obtain ⟨q, e⟩ := out e (fun z => by cases z)
    rw [List.getElem?_set_ne q]
    exact R.ow j ds e
  · obtain ⟨q, e⟩ := out e (fun z => by cases z)
    obtain ⟨q2, e2⟩ := out e2 (fun z => by cases z)
    rw [List.getElem?_set_ne q] at h1
    rw [List.getElem?_set_ne q2] at h2
    exact R.sep j k ds es a e e2 h1 h2
  · obtain ⟨q, e⟩ := out e (fun z => by cases z)
    rw [List.getElem?_set_ne q]
    exact R.al j k e
end
/-- the except clauses -/
def chkHds (cf : Cfg) (N : List Str) (S : Sc) : Hds → List ExceptHandler → Bool
  | .nil, [] => true
  | .cons c n u hs, .ExceptHandler (some (.Name x _)) m (s0 :: su) _ :: rest => decide ((cf.excs[c]?).map (·.1) = some x) && (glB S x && (okName x && ((match n, m with
      | some i, some y => decide (N[i]? = some y) && (decide (lk S y = some .local) && okName y)
      | none, none => true
      | _, _ => false) && (chkHu cf S m u (s0 :: su) && chkHds cf N S hs rest))))
  | _, _ => false
section
variable {cf : Cfg} {J : Jar} {ad : Nat → Addr} {T : Nat → Nat → Bool} {X : Cx} {S : Sc}
def lHu (K : PySem.W.Frag) (J : Jar) (exs : List (Str × Option Str)) (ad : Nat → Addr) (T : Nat → Nat → Bool) (n : Option Nat) (u : Hu) : Addr → Value → Option Addr → TS := fun a cls dd D σ H => ∃ F Z r e k, HSt K J exs ad F σ H Z r e a cls dd n ∧
  (∀ d r', k.rt d r' → ∀ v σ' H' Z', Same Z Z' → Rel K J F σ' H' Z' r' → Rep K J Z' v d → D.rt v H') ∧ huW T k e r u
theorem snd_Hu {a : Addr} {oe : Obj} {cls : Value} {dd : Option Addr} {pn : List (Addr × Obj)} {n : Option Nat} {nm : Option Str} (G : Sui cf J ad T X S a oe cls dd n nm) : ∀ (u : Hu) {su : List Stmt}, chkHu cf S nm u su = true → PSs (X.suite a ((a, oe) :: pn)) su (lHu X.K J cf.excs ad T n u a cls dd)
  | .ret x, su, h => by
    unfold chkHu at h
    split at h
    all_goals first | (exact absurd h Bool.false_ne_true) | (rename_i heq; cases heq; done) | (rename_i heq; cases heq)
    refine (pss_one (ps_ret (snd_Hx G x h).1)).imp fun pins s D σ H I ⟨F, Z, r, e, k, st, rt, q⟩ => ?_
    unfold huW at q
    exact use_H st q fun d hd v H1 Z1 s1 st1 rp => rt d r hd v σ H1 Z1 s1 st1.rel rp
  | .app i x, su, h => by
    unfold chkHu at h
    exact absurd h Bool.false_ne_true
  | .ifr t x u, su, h => by
    have iu := fun {su : List Stmt} (q : chkHu cf S nm u su = true) => snd_Hu (pn := pn) G u q
    unfold chkHu at h
    split at h
    all_goals first | (exact absurd h Bool.false_ne_true) | (rename_i heq; cases heq; done) | (rename_i heq; cases heq)
    obtain ⟨h1, h⟩ := and2 h
    obtain ⟨h2, h⟩ := and2 h
    obtain ⟨h3, h4⟩ := and2 h
    refine (pss_cons (ps_if ((snd_Hx G t h2).2 h1) (pss_one (ps_ret (snd_Hx G x h3).1)) pss_nil) (iu h4)).imp fun pins s D σ H I ⟨F, Z, r, e, k, st, rt, q⟩ => ?_
    unfold huW at q
    refine ⟨F, Z, r, e, st, hxW_mono t (fun d hd b eb H1 Z1 s1 st1 => ?_) q⟩
    subst eb
    dsimp only at hd
    by_cases c : b = true
    · rw [if_pos c]
      rw [if_pos c] at hd
      exact use_H st1 hd fun d2 hd2 v H2 Z2 s2 st2 rp2 => rt d2 r hd2 v σ H2 Z2 (s1.trans s2) st2.rel rp2
    · rw [if_neg c]
      rw [if_neg c] at hd
      exact ⟨F, Z1, r, e, k, st1, fun d2 r' q' v σ' H' Z' s' R' rp' => rt d2 r' q' v σ' H' Z' (s1.trans s') R' rp', hd⟩
/-- the clauses of a core term -/
def clsOf (K : PySem.W.Frag) (J : Jar) (exs : List (Str × Option Str)) (ad : Nat → Addr) (T : Nat → Nat → Bool) : Hds → List Cl
  | .nil => []
  | .cons c n u hs => ⟨.ref (ad c), n, fun a cls dd => lHu K J exs ad T n u a cls dd⟩ :: clsOf K J exs ad T hs
/-- what is fixed in a def's body -/
structure Bod (cf : Cfg) (J : Jar) (XR : XRT) (ad : Nat → Addr) (T : Nat → Nat → Bool) (X : Cx) (S : Sc) : Prop where
  st : X.stack = X.env :: X.outer
  fr : X.env.frame = some X.env.locals
  ef : ExcF X.prog X.K X.mg cf.excs T ad
  xr : XR = xrt X.K J cf.excs ad
theorem cls_ok {XR : XRT} {C : Calls} {lv : Nat} (G : Good cf J XR C lv X S) (B : Bod cf J XR ad T X S) : ∀ (hs : Hds) {es : List ExceptHandler}, chkHds cf X.N S hs es = true → ClsOk X es (clsOf X.K J cf.excs ad T hs) ∧ (∀ e H Z cls dd r k W F σ D, hdW T k e r hs → Rel X.K J F σ H Z r → XR e H Z cls dd → EndsOk X.K J XR F D Z W k → wCls X.K W D (clsOf X.K J cf.excs ad T hs) cls dd σ H)
  | .nil, [], h => ⟨.nil, fun e H Z cls dd r k W F σ D q R xr eo => by
      unfold hdW at q
      exact eo.ex e r q σ H Z cls dd (.refl _) R xr⟩
  | .cons c n u hs, .ExceptHandler (some (.Name x p1)) m (s0 :: su) p2 :: rest, h => by
    have ih := @cls_ok _ _ _ G B hs rest
    unfold chkHds at h
    obtain ⟨h1, h⟩ := and2 h
    obtain ⟨h2, h⟩ := and2 h
    obtain ⟨h3, h⟩ := and2 h
    obtain ⟨h4, h⟩ := and2 h
    obtain ⟨h5, h6⟩ := and2 h
    obtain ⟨i1, i2⟩ := ih h6
    have h1 := of_decide_eq_true h1
    cases hx : cf.excs[c]? with
    | none => rw [hx] at h1; cases h1
    | some xc =>
      rw [hx] at h1
      have hy : xc.1 = x := by simpa using h1
      subst hy
      have A := B.ef.at_ c xc hx
      have hdb : (xc.1 == ("__debug__" : Str)) = false := (okName_of G h3).1
      have nmh : Names X xc.1 (.ref (ad c)) := ⟨G.gl h2, hdb, .inl A.gC⟩
      have nms : ∀ y, m = some y → ∃ i, n = some i ∧ X.N[i]? = some y ∧ X.env.kindOf y = some .local ∧ okName y = true := fun y hy => by
        subst hy
        cases n with
        | none => cases h4
        | some i =>
          obtain ⟨g1, g2⟩ := and2 h4
          obtain ⟨g2, g3⟩ := and2 g2
          exact ⟨i, rfl, of_decide_eq_true g1, by show X.env.scope.names.lookup y = some .local; rw [G.sc]; exact of_decide_eq_true g2, g3⟩
      have sui : ∀ (a : Addr) (oe : Obj) (cls : Value) (d : Option Addr) (pn : List (Addr × Obj)), Zc cls d oe → (∃ vs, oe.data = .fields vs) → PSs (X.suite a ((a, oe) :: pn)) (s0 :: su) (lHu X.K J cf.excs ad T n u a cls d) := fun a oe cls d pn hz hf =>
        snd_Hu (nm := m) ⟨G.sc, G.facts.free, B.ef, hz, hf, nms⟩ u h5
      refine ⟨?_, fun e H Z cls dd r k W F σ D q R xr eo => ?_⟩
      · cases m with
        | none =>
          have hn : n = none := by cases n with | none => rfl | some i => cases h4
          exact .bare nmh hn sui i1
        | some y =>
          obtain ⟨i, g1, g2, g3, g4⟩ := nms y rfl
          exact .cons nmh g1 g2 g3 sui i1
      · have xr' := xr
        rw [B.xr] at xr'
        obtain ⟨x0, h0, hcl, _⟩ := xr_dict xr'
        unfold hdW at q
        refine ⟨T e.cls c, by rw [hcl]; exact B.ef.exm _ _ _ _ h0 hx, fun hb a na => ?_, fun hb => ?_⟩
        · rw [if_pos hb] at q
          refine ⟨F, Z, unN r n, e, k, ⟨?_, fun i hi il => ?_, xr'⟩, fun d r' q' v σ' H' Z' s' R' rp' => eo.rt d r' q' v σ' H' Z' s' R' rp', q⟩
          · cases n with
            | none => exact R
            | some i => exact R.setUn
          · subst hi
            show (σ.set i (some (.ref a)))[i]? = _
            have il' : i < (σ.set i (some (V.ref a))).length := il
            rw [List.length_set] at il'
            exact List.getElem?_set_self il'
        · rw [if_neg (by rw [hb]; exact Bool.false_ne_true)] at q
          exact i2 e H Z cls dd r k W F σ D q R xr eo
  | .nil, _ :: _, h => by unfold chkHds at h; cases h
  | .cons c n u hs, [], h => by unfold chkHds at h; cases h
  | .cons c n u hs, .ExceptHandler none _ _ _ :: _, h => by unfold chkHds at h; cases h
  | .cons c n u hs, .ExceptHandler (some (.Name x p1)) m [] p2 :: rest, h => by unfold chkHds at h; cases h
end
end G

set_option linter.all false
set_option maxRecDepth 100000
set_option Elab.async false
/-! Sn: several names at once; name = [..]; the checker of statements. -/
namespace G
open PySem PySem.Spec PyProof.Rows L2
/-- how the stores of a display to a display go: none is not followed -/
def swP (kf : Bool) (lk : Str → Option NameKind) (ts vs : List Expr) : Option (Option (List Str)) :=
  if (!(ts.length == 2 || ts.length == 3) || vs.length != ts.length || !kf) = true then some none else
  if (vs.any fun | .Starred .. => true | _ => false) = true then some none else
  let names := ts.filterMap fun
    | .Name id pos => if (lk id == some .local && pos.line == (ts.head?.map (·.pos.line)).getD 0) = true then some id else none
    | _ => none
  if (names.length != ts.length || names.eraseDups.length != names.length) = true then some none else
  if (vs.all (foldedForSure 8)) = true then some none else
  if (vs.all (constantsAlone 8)) = true then none else some (some names)
theorem swP_of {env : Env} {ts vs : List Expr} {k k2 : Nat} {p p2 : Pos} {r : Option (List Str)} (hk : env.scope.kind = .function) (h : swP true (fun x => env.scope.names.lookup x) ts vs = some r) : swappedStores [.Tuple ts k p] (.Tuple vs k2 p2) env = pure r := by
  have hb : (env.blockKind != .function) = !true := by unfold Env.blockKind; rw [hk]; rfl
  unfold swP at h
  unfold swappedStores
  dsimp only
  rw [hb]
  by_cases c1 : (!(ts.length == 2 || ts.length == 3) || vs.length != ts.length || !true) = true
  · rw [if_pos c1] at h ⊢
    cases h
    rfl
  rw [if_neg c1] at h ⊢
  by_cases c2 : (vs.any fun | .Starred .. => true | _ => false) = true
  · rw [if_pos c2] at h
    cases h
    exact if_pos c2
  rw [if_neg c2] at h
  refine (if_neg c2).trans ?_
  dsimp only at h ⊢
  have en : (List.filterMap (fun x => match x with | Expr.Name id pos => if (env.kindOf id == some NameKind.local && pos.line == (Option.map (fun x => x.pos.line) ts.head?).getD 0) = true then some id else none | _ => none) ts) =
      (ts.filterMap fun x => match x with
    | .Name id pos => if (env.scope.names.lookup id == some .local && pos.line == (ts.head?.map (·.pos.line)).getD 0) = true then some id else none
    | _ => none) := rfl
  generalize hn : (ts.filterMap fun x => match x with
    | .Name id pos => if (env.scope.names.lookup id == some .local && pos.line == (ts.head?.map (·.pos.line)).getD 0) = true then some id else none
    | _ => none) = names at en
  have h' : (if (names.length != ts.length || names.eraseDups.length != names.length) = true then some none else if (vs.all (foldedForSure 8)) = true then some none else if (vs.all (constantsAlone 8)) = true then none else some (some names)) = some r := by rw [← hn]; exact h
  have goal : (if (names.length != ts.length || names.eraseDups.length != names.length) = true then pure none else if (vs.all (foldedForSure 8)) = true then pure none else if (vs.all (constantsAlone 8)) = true then (do unsupported "assign.tuple-of-constant-expressions:order-of-the-stores"; pure (some names)) else pure (some names)) = (pure r : Sem (Option (List Str))) := by
    split at h'
    · rename_i c; rw [if_pos c]; cases h'; rfl
    · rename_i c; rw [if_neg c]
      split at h'
      · rename_i c; rw [if_pos c]; cases h'; rfl
      · rename_i c; rw [if_neg c]
        split at h'
        · cases h'
        · rename_i c; rw [if_neg c]; cases h'; rfl
  rw [← hn] at goal
  exact goal
theorem swN_of {env : Env} {tg e : Expr} (h : isTup e = false) : swappedStores [tg] e env = pure none := by
  cases e <;> first | (cases h; done) | (cases tg <;> rfl)

section
variable (cf : Cfg) (N : List Str)
mutual
def chkS (S : Sc) : St → Stmt → Bool
  | .set i e, .Assign [.Name x _] v _ => decide (N[i]? = some x) && (S.st x && chkE cf N S e v)
  | .par [i, j] es, .Assign [.Tuple [.Name x px, .Name y py] _ _] (.Tuple [a, b] _ _) _ => decide (N[i]? = some x) && (decide (N[j]? = some y) && (decide (i ≠ j) && (((decide (lk S x = some .local) && (decide (lk S y = some .local) && decide (swP true (lk S) [.Name x px, .Name y py] [a, b] = some (some [x, y])))) ||
      (S.st x && (S.st y && decide (swP true (lk S) [.Name x px, .Name y py] [a, b] = some none)))) && chkEs cf N S es [a, b])))
  | .par [i, j, l] es, .Assign [.Tuple [.Name x px, .Name y py, .Name z pz] _ _] (.Tuple [a, b, c] _ _) _ => decide (N[i]? = some x) && (decide (N[j]? = some y) && (decide (N[l]? = some z) && (decide (i ≠ j ∧ i ≠ l ∧ j ≠ l) && (decide (lk S x = some .local) && (decide (lk S y = some .local) && (decide (lk S z = some .local) &&
      (decide (swP true (lk S) [.Name x px, .Name y py, .Name z pz] [a, b, c] = some (some [x, y, z])) && chkEs cf N S es [a, b, c])))))))
  | .unp t e, .Assign [.Tuple ts k p] v _ => chkTg N S t (.Tuple ts k p) && (chkE cf N S e v && (match v with | .Tuple vs _ _ => decide (swP true (lk S) ts vs = some none) | _ => true))
  | .ret e, .Return (some v) _ => chkE cf N S e v
  | .retN, .Return none _ => true
  | .drop e, .Expr v _ => noComp v && chkE cf N S e v
  | .ifs t a b, .If c x y _ => chkT cf N S t c && (chkSs S a x && chkSs S b y)
  | .whl t b, .While c x [] _ => chkT cf N S t c && chkSs S b x
  | .fr t w b, .For tg it x [] _ => notSet it && (chkTg N S t tg && (chkW cf N S w it tg && chkSs S b x))
  | .app i e, .Expr (.Call (.Attribute (.Name x _) m ap) [v] [] cp) _ => decide (m = ("append" : Str)) && ((ap.endLine == cp.line) && (decide (N[i]? = some x) && (visB S x && (okName x && (notStar v && chkE cf N S e v)))))
  | .ext i e, .Expr (.Call (.Attribute (.Name x _) m ap) [v] [] cp) _ => decide (m = ("extend" : Str)) && ((ap.endLine == cp.line) && (decide (N[i]? = some x) && (visB S x && (okName x && (notStar v && chkE cf N S e v)))))
  | .ins i a e, .Expr (.Call (.Attribute (.Name x _) m ap) [u, v] [] cp) _ => decide (m = ("insert" : Str)) && ((ap.endLine == cp.line) && (decide (N[i]? = some x) && (visB S x && (okName x && (notStar u && (notStar v && (chkE cf N S a u && chkE cf N S e v)))))))
  | .put i a e, .Assign [.Subscript (.Name x _) u _] v _ => decide (N[i]? = some x) && (visB S x && (okName x && (!isSlice u && (noComp v && (chkE cf N S a u && chkE cf N S e v)))))
  | .ja s e, .Expr (.Call (.Attribute x m ap) [v] [] cp) _ => decide (m = ("append" : Str)) && ((ap.endLine == cp.line) && (chkSrc cf N S s x && (notStar v && chkE cf N S e v)))
  | .ji s e, .Expr (.Call (.Attribute x m ap) [.Constant (.int 0) _ _, v] [] cp) _ => decide (m = ("insert" : Str)) && ((ap.endLine == cp.line) && (chkSrc cf N S s x && (notStar v && chkE cf N S e v)))
  | .js i k e, .Assign [.Subscript (.Name x _) c _] v _ => decide (N[i]? = some x) && (visB S x && (okName x && (chkKey k c && (decide (cf.jk = some (isStrK k)) && (noComp v && chkE cf N S e v)))))
  | .jl j i k, .Assign [.Name y _] (.Subscript (.Name x _) c _) _ => decide (N[j]? = some y) && (S.st y && (decide (N[i]? = some x) && (visB S x && (okName x && (chkKey k c && decide (cf.jk = some (isStrK k)))))))
  | .pass, .Pass _ => true
  | .brk, .Break _ => true
  | .cont, .Continue _ => true
  | .bomb, _ => true
  | .rais c none .nil, .Raise (some (.Call (.Name x _) [] [] _)) none _ => decide (cf.excs[c]? = some (x, none)) && (glB S x && okName x)
  | .rais c (some f) (.cons a .nil), .Raise (some (.Call (.Name x _) [v] [] _)) none _ => decide (cf.excs[c]? = some (x, some f)) && (glB S x && (okName x && (notStar v && chkE cf N S a v)))
  | .tri b hs, .Try body (h :: hds) [] [] _ => chkSs S b body && chkHds cf N S hs (h :: hds)
  | _, _ => false
def chkSs (S : Sc) : Sts → List Stmt → Bool
  | .nil, [] => true
  | .cons s ss, x :: xs => chkS S s x && chkSs S ss xs
  | _, _ => false
end
end
section
variable {cf : Cfg} {J : Jar} {XR : XRT} {C : Calls} {lv : Nat} {X : Cx} {S : Sc} {W : WX} {T : Nat → Nat → Bool} (G : Good cf J XR C lv X S) (hC : CMono C)
include hC
theorem comp_parts (G : Good cf J XR C lv X S) (tk : Takes X W) {c : Ex} {elt : Expr} {gens : List Comprehension} {scope : Scope} {pos : Pos} (h : chkE cf X.N S c (.ListComp elt gens scope pos) = true) :
    ∃ x t w cc own tg iter ifs, c = .comp x t w cc own ∧ gens = [⟨tg, iter, ifs, 0⟩] ∧ BlkOk X.N X.env.scope scope own ∧ notSet iter = true ∧ inOwn own t = true ∧ PI X tg iter (lW X.K J XR C W w) ∧
    (∀ (s : Shared) (H : Hp) (D : Addr) (cl : List (Str × Addr)) (fp : List Addr), PG (X.blk s H scope (compEnvC scope cl D X.env) fp) tg (lG X.K J t)) ∧
    (∀ (s : Shared) (H : Hp) (D : Addr) (cl : List (Str × Addr)) (fp : List Addr), PTs (X.blk s H scope (compEnvC scope cl D X.env) fp) ifs (lT X.K J XR C noW cc)) ∧
    (∀ (s : Shared) (H : Hp) (D : Addr) (cl : List (Str × Addr)) (fp : List Addr), PE (X.blk s H scope (compEnvC scope cl D X.env) fp) elt (lE X.K J XR C noW x)) := by
  cases c with
  | comp x t w cc own =>
    unfold chkE at h
    split at h
    all_goals first | (exact absurd h Bool.false_ne_true) | (rename_i heq; cases heq; done) | (rename_i heq heq2; cases heq; cases heq2; done) | skip
    rename_i heq heq2
    cases heq
    cases heq2
    obtain ⟨h1, g1⟩ := and2 h
    obtain ⟨h2, g2⟩ := and2 g1
    obtain ⟨h3, g3⟩ := and2 g2
    obtain ⟨h4, g4⟩ := and2 g3
    obtain ⟨h5, g5⟩ := and2 g4
    obtain ⟨h6, g6⟩ := and2 g5
    obtain ⟨h7, h8⟩ := and2 g6
    cases of_decide_eq_true h1
    have ok := blkOk_by h2
    rw [← G.sc] at ok
    refine ⟨_, _, _, _, _, _, _, _, rfl, rfl, ok, h3, h4, snd_W hC _ G tk h5, fun s H D cl fp => s_tg (G.blk ok.kind s H D cl fp) h6, fun s H D cl fp => ?_, fun s H D cl fp => (snd_E hC _ (G.blk ok.kind s H D cl fp) noTakes h8).1⟩
    split at h7
    · refine pts_nil.imp fun pins s σ H Q I ⟨F, Z, r, Y, R, hx, q⟩ => ?_
      unfold tsW at q
      exact q H Z (.refl _) R
    · exact pts_one (snd_T hC _ (G.blk ok.kind s H D cl fp) noTakes h7).1
    · cases h7
  | jp s b => cases b <;> (unfold chkE at h; exact absurd h Bool.false_ne_true)
  | lw w => cases w <;> (unfold chkE at h; exact absurd h Bool.false_ne_true)
  | _ =>
    unfold chkE at h
    exact absurd h Bool.false_ne_true
include G
theorem c_setA (tk : Takes X W) {i : Nat} {e : Ex} {x : Str} {ee : Expr} {p pos : Pos} (h1 : X.N[i]? = some x) (h2 : S.st x = true) (h : chkE cf X.N S e ee = true) : PS X (.Assign [.Name x p] ee pos) (lS X.K J XR C T W (.set i e)) := by
  by_cases hn : noComp ee = true
  · exact c_set G hC h1 h2 (snd_E hC e G tk h).1 (by cases ee <;> first | rfl | cases hn)
  · have hl : ∃ elt gens scope cp, ee = .ListComp elt gens scope cp := by
      cases ee <;> first | exact ⟨_, _, _, _, rfl⟩ | (exact absurd rfl hn) | skip
      all_goals (exfalso; cases e <;> first | (unfold chkE at h; exact absurd h Bool.false_ne_true) | (rename_i s b; cases b <;> (unfold chkE at h; exact absurd h Bool.false_ne_true)) | (rename_i w; cases w <;> (unfold chkE at h; exact absurd h Bool.false_ne_true)))
    obtain ⟨elt, gens, scope, cp, rfl⟩ := hl
    have hb : (X.env.blockKind == .function) = true := by unfold Env.blockKind; rw [G.sc, G.kd]; rfl
    have hsw : swapsWith (.ListComp elt gens scope cp) (some (.Name x p)) pos.line X.env = pure ((X.env.kindOf x == some .local) && (p.line == cp.line) && !(scope.names.any fun (n, k) => n == x && (k == .local || k == .cell))) := by
      show (pure (X.env.blockKind == .function && X.env.kindOf x == some .local && p.line == cp.line && !(scope.names.any fun (n, k) => n == x && (k == .local || k == .cell))) : Sem Bool) = _
      rw [hb, Bool.true_and]
    generalize hv : ((X.env.kindOf x == some .local) && (p.line == cp.line) && !(scope.names.any fun (n, k) => n == x && (k == .local || k == .cell))) = bv at hsw
    cases bv with
    | false => exact c_set G hC h1 h2 (snd_E hC e G tk h).1 hsw
    | true =>
      obtain ⟨y, t, w, cc, own, tg, iter, ifs, rfl, rfl, ok, ns, ho, hi, hg, ht, he⟩ := comp_parts hC G tk h
      have hyl : X.env.scope.names.lookup x = some .local := by
        rw [Bool.and_eq_true, Bool.and_eq_true] at hv
        exact eq_of_beq hv.1.1
      have key := (s_comp (pos := cp) G hC ok ho ns hi hg ht he).1
      exact (ps_setLc G.calm G.nd h1 hyl hsw hi ok hg ht he (by intro z; cases iter <;> first | rfl | cases ns)).imp fun pins s D σ H I q => key pins s σ H _ I (c_asg (te := lE X.K J XR C W (.comp y t w cc own)) hC q)
end
end G

set_option linter.all false
set_option maxRecDepth 100000
set_option Elab.async false
/-! So: every statement that is checked does what its core term says. -/
namespace G
open PySem PySem.Spec PyProof.Rows L2
theorem Rel.setAl {K : PySem.W.Frag} {J : Jar} {F : Fm} {σ : L2.St} {H Z : Hp} {r : En} (R : Rel K J F σ H Z r) {j : Nat} {k : Sum Int Str} {l : Addr} (hl : J.L k = some l) (ha : J.A l) : Rel K J F (σ.set j (some (.ref l))) H Z (r.set j (.al k)) := by
  have out : ∀ {m : Nat} {s : Slot}, rd (r.set j (.al k)) m = s → (∀ k2, s ≠ .al k2) → s ≠ .un → j ≠ m ∧ rd r m = s := fun {m s} e n n2 => by
    by_cases q : j = m
    · subst q
      by_cases il : j < r.length
      · rw [rd_same il] at e
        exact absurd e.symm (n k)
      · have := rd_lt (r := r.set j (.al k)) (i := j) (by rw [e]; exact n2)
        rw [En.length_set] at this
        exact absurd this il
    · rw [rd_ne q] at e
      exact ⟨q, e⟩
  refine ⟨R.sub, R.frame, R.jar, R.jz, by rw [List.length_set, En.length_set]; exact R.len, fun m d e => ?_, fun m ds e => ?_, fun m m2 ds es a e e2 h1 h2 => ?_, R.zs, R.zo, R.ng, R.gf, fun m k2 e => ?_⟩
  · obtain ⟨q, e⟩ := out e (fun _ z => by cases z) (fun z => by cases z)
    rw [List.getElem?_set_ne q]
    exact R.fz m d e
  · obtain ⟨q, e⟩ := out e (fun _ z => by cases z) (fun z => by cases z)
    rw [List.getElem?_set_ne q]
    exact R.ow m ds e
  · obtain ⟨q, e⟩ := out e (fun _ z => by cases z) (fun z => by cases z)
    obtain ⟨q2, e2⟩ := out e2 (fun _ z => by cases z) (fun z => by cases z)
    rw [List.getElem?_set_ne q] at h1
    rw [List.getElem?_set_ne q2] at h2
    exact R.sep m m2 ds es a e e2 h1 h2
  · by_cases q : j = m
    · subst q
      have il : j < r.length := by
        have := rd_lt (r := r.set j (.al k)) (i := j) (by rw [e]; exact fun z => by cases z)
        rwa [En.length_set] at this
      rw [rd_same il] at e
      cases e
      exact ⟨l, hl, ha, by rw [List.getElem?_set_self (by rw [R.len]; exact il)]⟩
    · rw [rd_ne q] at e
      rw [List.getElem?_set_ne q]
      exact R.al m k2 e
theorem asg_ex {i : Nat} {r : En} {x : Rz} {k : En → Prop} (h : asg i r x k) : ∃ r1, k r1 := by
  unfold asg at h
  (repeat' split at h) <;> first | exact ⟨_, h⟩ | exact h.elim
theorem RsOk.grow {K : PySem.W.Frag} {J : Jar} {σ : L2.St} {H Z : Hp} {r : En} {F : Fm} {xs : List Rz} {vs : List V} {p : Addr} {o : HO} (h : RsOk K J σ H Z r F xs vs) (hp : H p = none) : RsOk K J σ (upd H p o) Z r F xs vs := by
  induction h with
  | nil => exact .nil
  | val h1 h2 ih => exact .val h1 ih
  | @new F1 ds a ws xs vs h1 h2 h3 h4 h5 h6 h7 h8 ih => exact .new (by rw [upd_ne]; exact h1; rintro rfl; rw [hp] at h1; cases h1) h2 h3 h4 h5 h6 h7 ih
theorem asgs_len : ∀ {is : List Nat} {xs : List Rz} {r : En} {k : En → Prop}, asgs is xs r k → xs.length = is.length
  | [], [], _, _, _ => rfl
  | i :: is, x :: xs, r, k, h => by
    unfold asgs at h
    obtain ⟨r1, h1⟩ := asg_ex h
    rw [List.length_cons, List.length_cons, asgs_len h1]
  | [], _ :: _, _, _, h => (show False from h).elim
  | _ :: _, [], _, _, h => (show False from h).elim
section
variable {cf : Cfg} {J : Jar} {XR : XRT} {C : Calls} {lv : Nat} {X : Cx} {S : Sc} {W : WX} {T : Nat → Nat → Bool} (G : Good cf J XR C lv X S) (hC : CMono C)
include G hC
theorem c_par2 {i j : Nat} {es : Exs} {x y : Str} {a b : Expr} {px py pt pt2 pos : Pos} {kt k2 : Nat} (h1 : X.N[i]? = some x) (h2 : X.N[j]? = some y) (ne : i ≠ j) (hx : lk S x = some .local) (hy : lk S y = some .local)
    (hw : swP true (lk S) [.Name x px, .Name y py] [a, b] = some (some [x, y])) (ha : PA X [a, b] (lRs X.K J XR C W es)) : PS X (.Assign [.Tuple [.Name x px, .Name y py] kt pt] (.Tuple [a, b] k2 pt2) pos) (lS X.K J XR C T W (.par [i, j] es)) := by
  have gx : X.env.scope.names.lookup x = some .local := by rw [G.sc]; exact hx
  have gy : X.env.scope.names.lookup y = some .local := by rw [G.sc]; exact hy
  refine (ps_par G.calm G.nd h1 h2 ne gx gy ha (swP_of (by rw [G.sc]; exact G.kd) (by rw [G.sc]; exact hw)) rfl).imp fun pins s D σ H I ⟨F, Z, r, k, R, e, h⟩ => ?_
  unfold stW at h
  refine use_Rs hC R e.xc h fun xs r1 q1 vs H1 Z1 s1 R1 ok => ?_
  have hv := ok.len
  rw [asgs_len q1] at hv
  match vs, hv, ok with
  | [u, w], _, ok =>
    obtain ⟨r2, R2, q2⟩ := R1.asgs ok q1
    exact ⟨u, w, rfl, e.nx r2 q2 _ H1 Z1 s1 R2⟩
theorem c_parT {i j : Nat} {es : Exs} {x y : Str} {a b : Expr} {px py pt pt2 pos : Pos} {kt k2 : Nat} (h1 : X.N[i]? = some x) (h2 : X.N[j]? = some y) (hx : S.st x = true) (hy : S.st y = true)
    (hw : swP true (lk S) [.Name x px, .Name y py] [a, b] = some none) (ha : PA X [a, b] (lRs X.K J XR C W es)) : PS X (.Assign [.Tuple [.Name x px, .Name y py] kt pt] (.Tuple [a, b] k2 pt2) pos) (lS X.K J XR C T W (.par [i, j] es)) := by
  obtain ⟨g3, g4⟩ := G.st x hx
  obtain ⟨g5, g6⟩ := G.st y hy
  refine (ps_asg (pe_tup ha) (pg_tup G.calm (pgs_cons (pg_name G.nd h1 g3 g4) (pgs_cons (pg_name G.nd h2 g5 g6) pgs_nil)) rfl rfl) rfl (swP_of (by rw [G.sc]; exact G.kd) (by rw [G.sc]; exact hw)) rfl).imp fun pins s D σ H I ⟨F, Z, r, k, R, e, h⟩ => ?_
  unfold stW at h
  refine use_Rs hC R e.xc h fun xs r1 q1 vs H1 Z1 s1 R1 ok => ?_
  have hv := ok.len
  rw [asgs_len q1] at hv
  match vs, hv, ok with
  | [u, w], _, ok =>
    refine ⟨by show 2 ≤ sizeLine; decide, fun p hp => ?_⟩
    obtain ⟨r2, R2, q2⟩ := (R1.grow (o := .tup [u, w]) hp).asgs (ok.grow hp) q1
    exact ⟨p, [u, w], rfl, .inl (.inl upd_same), rfl, u, [w], rfl, w, [], rfl, rfl, e.nx r2 q2 _ _ Z1 s1 R2⟩
theorem c_par3 {i j l : Nat} {es : Exs} {x y z : Str} {a b c : Expr} {px py pz pt pt2 pos : Pos} {kt k2 : Nat} (h1 : X.N[i]? = some x) (h2 : X.N[j]? = some y) (h3 : X.N[l]? = some z) (ne : i ≠ j ∧ i ≠ l ∧ j ≠ l) (hx : lk S x = some .local) (hy : lk S y = some .local) (hz : lk S z = some .local)
    (hw : swP true (lk S) [.Name x px, .Name y py, .Name z pz] [a, b, c] = some (some [x, y, z])) (ha : PA X [a, b, c] (lRs X.K J XR C W es)) : PS X (.Assign [.Tuple [.Name x px, .Name y py, .Name z pz] kt pt] (.Tuple [a, b, c] k2 pt2) pos) (lS X.K J XR C T W (.par [i, j, l] es)) := by
  have gx : X.env.scope.names.lookup x = some .local := by rw [G.sc]; exact hx
  have gy : X.env.scope.names.lookup y = some .local := by rw [G.sc]; exact hy
  have gz : X.env.scope.names.lookup z = some .local := by rw [G.sc]; exact hz
  refine (ps_par3 G.calm G.nd h1 h2 h3 ne.1 ne.2.1 ne.2.2 gx gy gz ha (swP_of (by rw [G.sc]; exact G.kd) (by rw [G.sc]; exact hw)) rfl).imp fun pins s D σ H I ⟨F, Z, r, k, R, e, h⟩ => ?_
  unfold stW at h
  refine use_Rs hC R e.xc h fun xs r1 q1 vs H1 Z1 s1 R1 ok => ?_
  have hv := ok.len
  rw [asgs_len q1] at hv
  match vs, hv, ok with
  | [u, w, v], _, ok =>
    obtain ⟨r2, R2, q2⟩ := R1.asgs ok q1
    exact ⟨u, w, v, rfl, e.nx r2 q2 _ H1 Z1 s1 R2⟩
end
section
variable {cf : Cfg} {J : Jar} {XR : XRT} {C : Calls} {lv : Nat} {X : Cx} {S : Sc} {W : WX} {T : Nat → Nat → Bool} (G : Good cf J XR C lv X S) (hC : CMono C)
include G
theorem src_dk {s : Src} {e : Expr} (h : chkSrc cf X.N S s e = true) : ∃ dk a, JFacts J a dk := by
  obtain ⟨dk, hdk⟩ : ∃ dk, cf.jk = some dk := by
    unfold chkSrc at h
    split at h
    · exact ⟨_, of_decide_eq_true (and2 (and2 (and2 (and2 h).2).2).2).2⟩
    · exact Option.isSome_iff_exists.mp (and2 (and2 (and2 h).2).2).2
    · cases h
  obtain ⟨a, jf⟩ := G.jf dk hdk
  exact ⟨dk, a, jf⟩
/-- a list of the random state stands when its name is read -/
theorem src_ty {s : Src} {K : PySem.W.Frag} {F : Fm} {Z : Hp} {r : En} {σ : L2.St} {H : Hp} {Q : VK} (R : Rel K J F σ H Z r) {dk : Bool} {a : Addr} (jf : JFacts J a dk) {k : Sum Int Str} {ds : List D} (e1 : srcK r s = some k) (e2 : gget r.g k = some (.list ds))
    (q : ∀ l, J.L k = some l → J.A l → (∃ xs, H l = some (.lst xs)) → Q (.ref l) H) : lSrc K J s σ H Q :=
  ⟨F, Z, r, k, ds, R, e1, e2, fun ns l _ f1 f2 f3 _ => q l f1 f2 ⟨_, f3⟩⟩
omit G in
theorem srcL_of {r : En} {s : Src} (h : srcL r s = true) : ∃ k ds, srcK r s = some k ∧ gget r.g k = some (.list ds) := by
  unfold srcL at h
  split at h
  · rename_i k e
    split at h
    · rename_i ds e2
      exact ⟨k, ds, e, e2⟩
    · cases h
  · cases h
omit G in
theorem src_same {K : PySem.W.Frag} {F F1 : Fm} {Z Z1 : Hp} {r r1 : En} {σ : L2.St} {H H1 : Hp} (R : Rel K J F σ H Z r) (R1 : Rel K J F1 σ H1 Z1 r1) {s : Src} {k k1 : Sum Int Str} {l : Addr} (e : srcK r s = some k) (e1 : srcK r1 s = some k1) (hl : J.L k = some l) : J.L k1 = some l := by
  cases s with
  | fld i k2 =>
    unfold srcK at e e1
    dsimp only at e e1
    split at e
    · split at e1
      · cases e
        cases e1
        exact hl
      · cases e1
    · cases e
  | al i =>
    unfold srcK at e e1
    dsimp only at e e1
    split at e
    · rename_i k2 ea
      split at e1
      · rename_i k3 eb
        cases e
        cases e1
        obtain ⟨l1, f1, f2, f3⟩ := R.al _ _ ea
        obtain ⟨l2, g1, g2, g3⟩ := R1.al _ _ eb
        rw [hl] at f1
        cases f1
        rw [f3] at g3
        cases g3
        exact g1
      · cases e1
    · cases e
omit G in
/-- the list itself, at a later state -/
theorem jf_list {a : Addr} {dk : Bool} (jf : JFacts J a dk) {g : Gh} {H : Hp} {k : Sum Int Str} {ds : List D} {l : Addr} (hp : J.P g H) (e : gget g k = some (.list ds)) (hl : J.L k = some l) : ∃ ns : List Int, ds = ns.map .int ∧ J.A l ∧ H l = some (.lst (ns.map V.int)) ∧ ns.length ≤ sizeLine := by
  obtain ⟨v, _, hv⟩ := jf.get _ _ _ _ hp e
  rcases hv with ⟨n, z, _⟩ | ⟨ns, l2, z, _, y1, y2, y3, y4⟩
  · cases z
  · cases z
    rw [hl] at y1
    cases y1
    exact ⟨ns, rfl, y2, y3, y4⟩
include hC
theorem c_ja {s : Src} {e : Ex} {x ee : Expr} {ap cp pos : Pos} (hs : chkSrc cf X.N S s x = true) (hl : (ap.endLine == cp.line) = true) (hn : notStar ee = true) (ha : PE X ee (lE X.K J XR C W e)) :
    PS X (.Expr (.Call (.Attribute x "append" ap) [ee] [] cp) pos) (lS X.K J XR C T W (.ja s e)) := by
  obtain ⟨dk, a, jf⟩ := src_dk G hs
  refine (ps_expr (pe_bm PySem.F.plainAttrs_list PySem.F.slot_list_append PySem.F.type_list_append mt_append (j_src (J := J) G hs) (pa_cons ha pa_nil (star_of hn)) (src_base G hs) (by rw [star_of hn]; rfl) hl (star_of hn) rfl)).imp fun pins s2 D σ H I ⟨F, Z, r, k, R, e, h⟩ => ?_
  unfold stW at h
  obtain ⟨h0, h⟩ := h
  obtain ⟨k0, ds0, e1, e2⟩ := srcL_of h0
  refine ⟨F, Z, r, k0, ds0, R, e1, e2, fun ns0 l _ f1 f2 f3 _ => ⟨.inl ⟨rfl, _, .of f3⟩, use_pin hC R e.xc h fun x1 r1 h1 v H1 Z1 s1 R1 p1 => ?_⟩⟩
  obtain ⟨d, hd, h2⟩ := R1.der p1 h1
  split at h2
  · rename_i n
    cases rep_int hd
    split at h2
    · rename_i k1 g1
      split at h2
      · rename_i ds g2
        have hl1 := src_same R R1 e1 g1 f1
        obtain ⟨ns, rfl, y2, y3, y4⟩ := jf_list jf R1.jar g2 hl1
        obtain ⟨lt, h2⟩ := h2
        have lt' : ns.length < sizeLine := by rw [szl]; rw [List.length_map] at lt; exact lt
        have hp := jf.putL _ _ _ _ l (ns ++ [n]) R1.jar g2 hl1 (by rw [List.length_append]; exact lt')
        rw [List.map_append, List.map_append] at hp
        refine ⟨l, _, _, rfl, rfl, y3, by rw [List.length_map]; exact lt', e.nx _ h2 σ _ Z1 s1 (R1.jput (upd_off y2) hp)⟩
      · exact h2.elim
    · exact h2.elim
  · exact h2.elim
theorem c_ji {s : Src} {e : Ex} {x ee : Expr} {ap cp pos pk : Pos} {kk : Nat} (hs : chkSrc cf X.N S s x = true) (hl : (ap.endLine == cp.line) = true) (hn : notStar ee = true) (ha : PE X ee (lE X.K J XR C W e)) :
    PS X (.Expr (.Call (.Attribute x "insert" ap) [.Constant (.int 0) kk pk, ee] [] cp) pos) (lS X.K J XR C T W (.ji s e)) := by
  obtain ⟨dk, a, jf⟩ := src_dk G hs
  refine (ps_expr (pe_bm PySem.F.plainAttrs_list PySem.F.slot_list_insert PySem.F.type_list_insert mt_insert (j_src (J := J) G hs) (pa_cons pe_int (pa_cons ha pa_nil (star_of hn)) rfl) (src_base G hs) (by rw [star_of (e := .Constant (.int 0) kk pk) rfl, star_of hn]; rfl) hl rfl (by rw [star_of hn]; rfl))).imp fun pins s2 D σ H I ⟨F, Z, r, k, R, e, h⟩ => ?_
  unfold stW at h
  obtain ⟨h0, h⟩ := h
  obtain ⟨k0, ds0, e1, e2⟩ := srcL_of h0
  refine ⟨F, Z, r, k0, ds0, R, e1, e2, fun ns0 l _ f1 f2 f3 _ => ⟨.inl ⟨rfl, _, .of f3⟩, use_pin hC R e.xc h fun x1 r1 h1 v H1 Z1 s1 R1 p1 => ?_⟩⟩
  obtain ⟨d, hd, h2⟩ := R1.der p1 h1
  split at h2
  · rename_i n
    cases rep_int hd
    split at h2
    · rename_i k1 g1
      split at h2
      · rename_i ds g2
        have hl1 := src_same R R1 e1 g1 f1
        obtain ⟨ns, rfl, y2, y3, y4⟩ := jf_list jf R1.jar g2 hl1
        obtain ⟨lt, h2⟩ := h2
        have lt' : ns.length < sizeLine := by rw [szl]; rw [List.length_map] at lt; exact lt
        have hp := jf.putL _ _ _ _ l (n :: ns) R1.jar g2 hl1 (by rw [List.length_cons]; exact lt')
        refine ⟨l, _, 0, _, rfl, rfl, y3, by rw [List.length_map]; exact lt', by omega, by omega, e.nx _ h2 σ _ Z1 s1 (R1.jput (upd_off y2) hp)⟩
      · exact h2.elim
    · exact h2.elim
  · exact h2.elim
theorem c_js {i : Nat} {k : Sum Int Str} {e : Ex} {x : Str} {c ee : Expr} {p tp pos : Pos} (h1 : X.N[i]? = some x) (h2 : visB S x = true) (h3 : okName x = true) (hk : chkKey k c = true) (hj : cf.jk = some (isStrK k)) (hc : noComp ee = true) (ha : PE X ee (lE X.K J XR C W e)) :
    PS X (.Assign [.Subscript (.Name x p) c tp] ee pos) (lS X.K J XR C T W (.js i k e)) := by
  obtain ⟨d1, d2⟩ := okName_of G h3
  obtain ⟨a, jf⟩ := G.jf _ hj
  have hu : X.A.units + 1 < cLine := by have := G.room.un; omega
  have core : ∀ {F : Fm} {Z : Hp} {r : En} {σ : L2.St} {H : Hp} {kk : Ks} {D : Ends}, Rel X.K J F σ H Z r → EndsOk X.K J XR F D Z W kk → stW C T (.js i k e) r kk →
      lE X.K J XR C W e σ H fun v H1 => σ[i]? = some (some (.ref a)) ∧ ∃ o, JPut (isStrK k) H1 a k v o ∧ D.nx σ (upd H1 a o) := by
    intro F Z r σ H kk D R e0 h
    unfold stW at h
    refine use_pin hC R e0.xc h fun x1 r1 q1 v H1 Z1 s1 R1 p1 => ?_
    obtain ⟨d, hd, q2⟩ := R1.der p1 q1
    split at q2
    · rename_i n
      cases rep_int hd
      obtain ⟨ej, q2⟩ := q2
      split at q2
      · rename_i m g2
        obtain ⟨a', y1, y2⟩ := R1.jarAt ej
        rw [jf.at_] at y1
        cases y1
        obtain ⟨o, y3, y4⟩ := jf.putI _ _ _ _ n R1.jar g2
        exact ⟨y2, o, y3, e0.nx _ q2 σ _ Z1 s1 (R1.jput (upd_off jf.ja) y4)⟩
      · exact q2.elim
    · exact q2.elim
  rcases key_of hk with ⟨y, n, q, rfl, rfl⟩ | ⟨y, n, q, rfl, rfl⟩
  · refine (ps_dput hu (pe_var h1 (G.vis h2) d1 d2) pe_str ha (by cases ee <;> first | rfl | cases hc)).imp fun pins s D σ H I ⟨F, Z, r, kk, R, e0, h⟩ => ?_
    obtain ⟨F1, Z1, r1, Y1, R1, x1, w1⟩ := core R e0 h
    refine ⟨F1, Z1, r1, Y1, R1, x1, exW_mono hC e (fun xx rr qq v H' Z' s' R' p' => ?_) (fun _ _ z => z) w1⟩
    obtain ⟨g1, o, g2, g3⟩ := qq v H' Z' s' R' p'
    have g2' : ∃ kvs x, (Sum.inr y : Sum Int Str) = .inr x ∧ H' a = some (.dK kvs) ∧ kvs.length < sizeLine ∧ o = .dK (putK kvs (.inr y) v) := g2
    obtain ⟨kvs, _, _, g4, g5, rfl⟩ := g2'
    exact ⟨_, g1, a, _, rfl, DPut.k (k := Sum.inr y) g4 g5, g3⟩
  · refine (ps_asg ha (pg_sub (pe_var h1 (G.vis h2) d1 d2) pe_int set_list (by intro v; rfl)) (by cases ee <;> first | rfl | cases hc) (by cases ee <;> rfl)).imp fun pins s D σ H I ⟨F, Z, r, kk, R, e0, h⟩ => ?_
    obtain ⟨F1, Z1, r1, Y1, R1, x1, w1⟩ := core R e0 h
    refine ⟨F1, Z1, r1, Y1, R1, x1, exW_mono hC e (fun xx rr qq v H' Z' s' R' p' => ?_) (fun _ _ z => z) w1⟩
    obtain ⟨g1, o, g2, g3⟩ := qq v H' Z' s' R' p'
    have g2' : ∃ vs i j, (Sum.inl y : Sum Int Str) = .inl i ∧ H' a = some (.lst vs) ∧ ixN vs.length i = some j ∧ o = .lst (vs.set j v) := g2
    obtain ⟨vs, i2, j, e3, g4, g5, rfl⟩ := g2'
    cases e3
    exact ⟨_, g1, a, vs, y, j, rfl, rfl, g4, g5, g3⟩
omit hC in
theorem c_jl {j i : Nat} {k : Sum Int Str} {x y : Str} {c : Expr} {p py tp pos : Pos} (hj1 : X.N[j]? = some y) (hj2 : S.st y = true) (h1 : X.N[i]? = some x) (h2 : visB S x = true) (h3 : okName x = true) (hk : chkKey k c = true) (hj : cf.jk = some (isStrK k)) :
    PS X (.Assign [.Name y py] (.Subscript (.Name x p) c tp) pos) (lS X.K J XR C T W (.jl j i k)) := by
  obtain ⟨g3, g4⟩ := G.st y hj2
  refine (ps_set G.nd hj1 g3 (j_fld (J := J) G h1 h2 h3 hk hj) rfl g4).imp fun pins s D σ H I ⟨F, Z, r, kk, R, e0, h⟩ => ?_
  unfold stW at h
  obtain ⟨ej, h⟩ := h
  split at h
  · rename_i ds e2
    refine ⟨F, Z, r, _, R, ej, e2, fun v hv => ?_⟩
    rcases hv with ⟨n, z, _⟩ | ⟨ns, l, z, rfl, f1, f2, f3, f4⟩
    · cases z
    · refine e0.nx _ h _ H Z (.refl _) ?_
      exact R.setAl f1 f2
  · exact h.elim
end
section
variable {cf : Cfg} {J : Jar} {XR : XRT} {C : Calls} {lv : Nat} {X : Cx} {S : Sc} {W : WX} {T : Nat → Nat → Bool} {ad : Nat → Addr} (G : Good cf J XR C lv X S) (hC : CMono C) (B : Bod cf J XR ad T X S)
include G B
theorem c_rais0 (tk : Takes X W) {c : Nat} {x : Str} {p p2 pos : Pos} (hc : cf.excs[c]? = some (x, none)) (hg : glB S x = true) (ok : okName x = true) : PS X (.Raise (some (.Call (.Name x p) [] [] p2)) none pos) (lS X.K J XR C T W (.rais c none .nil)) := by
  have A := B.ef.at_ c _ hc
  refine (ps_raise G.calm tk (pmk_nul (A.m0 rfl) A.gC A.kC (raises_own A.sub A.ty) (G.gl hg) (okName_of G ok).1)).imp fun pins s D σ H I ⟨F, Z, r, k, R, e, h⟩ => ?_
  unfold stW exsW at h
  refine e.ex _ r h σ H Z _ _ (.refl _) R ?_
  rw [B.xr]
  exact ⟨_, hc, rfl, .inl ⟨rfl, rfl, rfl⟩⟩
include hC
theorem c_raisF (tk : Takes X W) {c : Nat} {x f : Str} {a : Ex} {v : Expr} {p p2 pos : Pos} (hc : cf.excs[c]? = some (x, some f)) (hg : glB S x = true) (ok : okName x = true) (ns : notStar v = true) (ha : PE X v (lE X.K J XR C W a)) :
    PS X (.Raise (some (.Call (.Name x p) [v] [] p2)) none pos) (lS X.K J XR C T W (.rais c (some f) (.cons a .nil))) := by
  have A := B.ef.at_ c _ hc
  refine (ps_raise G.calm tk (pmk_fld (A.mf f rfl) A.gC A.kC (raises_own A.sub A.ty) G.room (pa_cons ha pa_nil (star_of ns)) (G.gl hg) (okName_of G ok).1 (star1 hC ns))).imp fun pins s D σ H I ⟨F, Z, r, k, R, e, h⟩ => ?_
  unfold stW exsW at h
  refine use_E hC R e.xc h fun x r1 h1 v H1 Z1 s1 R1 p1 => ?_
  obtain ⟨d, r2, Z2, s2, R2, hd, h2⟩ := R1.frz p1 h1
  unfold exsW at h2
  refine ⟨v, rfl, fun dd hdd => ?_⟩
  refine e.ex _ r2 h2 σ _ Z2 _ _ (s1.trans s2) (R2.grow hdd) ?_
  rw [B.xr]
  exact ⟨_, hc, rfl, .inr ⟨f, dd, v, d, rfl, rfl, rfl, upd_same, hd⟩⟩
end
section
variable {cf : Cfg} {J : Jar} {XR : XRT} {C : Calls} {lv : Nat} {T : Nat → Nat → Bool} {ad : Nat → Addr} (hC : CMono C)
theorem Good.tr {X : Cx} {S : Sc} (G : Good cf J XR C lv X S) (pn : List (Addr × Obj)) (xe : Value → Shared → Prop) : Good cf J XR C lv (X.tr pn xe) S := ⟨G.calm, G.room, G.gd, G.nd, G.sc, G.kd, G.st, G.facts, G.jf, G.sf, G.fns⟩
theorem Bod.tr {X : Cx} {S : Sc} (B : Bod cf J XR ad T X S) (pn : List (Addr × Obj)) (xe : Value → Shared → Prop) : Bod cf J XR ad T (X.tr pn xe) S := ⟨B.st, B.fr, B.ef, B.xr⟩
include hC
mutual
theorem snd_S : ∀ (c : St) {X : Cx} {S : Sc} {W : WX} (G : Good cf J XR C lv X S) (tk : Takes X W) (po : PassesOwn (model X.prog X.w) X.A X.env X.xe) (B : Bod cf J XR ad T X S) {e : Stmt}, chkS cf X.N S c e = true → PS X e (lS X.K J XR C T W c)
  | .set i x, X, S, W, G, tk, po, B, e, h => by
    unfold chkS at h
    split at h
    all_goals first | (exact absurd h Bool.false_ne_true) | (rename_i heq; cases heq; done) | (rename_i heq; cases heq)
    exact c_setA G hC tk (of_decide_eq_true (and2 h).1) (and2 (and2 h).2).1 (and2 (and2 h).2).2
  | .par is es, X, S, W, G, tk, po, B, e, h => by
    unfold chkS at h
    split at h
    all_goals first | (exact absurd h Bool.false_ne_true) | (rename_i heq; cases heq; done) | (rename_i heq; cases heq)
    · obtain ⟨h1, g1⟩ := and2 h
      obtain ⟨h2, g2⟩ := and2 g1
      obtain ⟨h3, g3⟩ := and2 g2
      obtain ⟨h4, h7⟩ := and2 g3
      rcases Bool.or_eq_true _ _ ▸ h4 with h4 | h4
      · obtain ⟨h4, h5⟩ := and2 h4
        obtain ⟨h5, h6⟩ := and2 h5
        exact c_par2 G hC (of_decide_eq_true h1) (of_decide_eq_true h2) (of_decide_eq_true h3) (of_decide_eq_true h4) (of_decide_eq_true h5) (of_decide_eq_true h6) (snd_Rs hC _ G tk h7)
      · obtain ⟨h4, h5⟩ := and2 h4
        obtain ⟨h5, h6⟩ := and2 h5
        exact c_parT G hC (of_decide_eq_true h1) (of_decide_eq_true h2) h4 h5 (of_decide_eq_true h6) (snd_Rs hC _ G tk h7)
    · obtain ⟨h1, g1⟩ := and2 h
      obtain ⟨h2, g2⟩ := and2 g1
      obtain ⟨h3, g3⟩ := and2 g2
      obtain ⟨h4, g4⟩ := and2 g3
      obtain ⟨h5, g5⟩ := and2 g4
      obtain ⟨h6, g6⟩ := and2 g5
      obtain ⟨h7, g7⟩ := and2 g6
      obtain ⟨h8, h9⟩ := and2 g7
      exact c_par3 G hC (of_decide_eq_true h1) (of_decide_eq_true h2) (of_decide_eq_true h3) (of_decide_eq_true h4) (of_decide_eq_true h5) (of_decide_eq_true h6) (of_decide_eq_true h7) (of_decide_eq_true h8) (snd_Rs hC _ G tk h9)
  | .unp t x, X, S, W, G, tk, po, B, e, h => by
    unfold chkS at h
    split at h
    all_goals first | (exact absurd h Bool.false_ne_true) | (rename_i heq; cases heq; done) | (rename_i heq; cases heq)
    obtain ⟨h1, g1⟩ := and2 h
    obtain ⟨h2, h3⟩ := and2 g1
    rename_i ts kk pp v pos
    have hw : swappedStores [.Tuple ts kk pp] v X.env = pure none := by
      cases v <;> first
        | exact swP_of (by rw [G.sc]; exact G.kd) (by rw [G.sc]; exact of_decide_eq_true h3)
        | rfl
    exact c_unp hC (snd_E hC x G tk h2).1 (s_tg G h1) (by cases v <;> rfl) hw rfl
  | .ret x, X, S, W, G, tk, po, B, e, h => by
    unfold chkS at h
    split at h
    all_goals first | (exact absurd h Bool.false_ne_true) | (rename_i heq; cases heq; done) | (rename_i heq; cases heq)
    exact c_ret hC (snd_E hC x G tk h).1
  | .retN, X, S, W, G, tk, po, B, e, h => by
    unfold chkS at h
    split at h
    all_goals first | (exact absurd h Bool.false_ne_true) | (rename_i heq; cases heq; done) | (rename_i heq; cases heq)
    exact c_retN
  | .drop x, X, S, W, G, tk, po, B, e, h => by
    unfold chkS at h
    split at h
    all_goals first | (exact absurd h Bool.false_ne_true) | (rename_i heq; cases heq; done) | (rename_i heq; cases heq)
    rename_i v pos
    exact c_drop hC (snd_E hC x G tk (and2 h).2).1 (by have := (and2 h).1; cases v <;> first | rfl | cases this)
  | .ifs t a b, X, S, W, G, tk, po, B, e, h => by
    have ia := @snd_Ss a
    have ib := @snd_Ss b
    unfold chkS at h
    split at h
    all_goals first | (exact absurd h Bool.false_ne_true) | (rename_i heq; cases heq; done) | (rename_i heq; cases heq)
    exact c_if hC (snd_T hC t G tk (and2 h).1).1 (ia G tk po B (and2 (and2 h).2).1) (ib G tk po B (and2 (and2 h).2).2)
  | .whl t b, X, S, W, G, tk, po, B, e, h => by
    have ib := @snd_Ss b
    unfold chkS at h
    split at h
    all_goals first | (exact absurd h Bool.false_ne_true) | (rename_i heq; cases heq; done) | (rename_i heq; cases heq)
    exact c_while hC po (snd_T hC t G tk (and2 h).1).1 (ib G tk po B (and2 h).2)
  | .fr t w b, X, S, W, G, tk, po, B, e, h => by
    have ib := @snd_Ss b
    unfold chkS at h
    split at h
    all_goals first | (exact absurd h Bool.false_ne_true) | (rename_i heq; cases heq; done) | (rename_i heq; cases heq)
    obtain ⟨h1, g1⟩ := and2 h
    obtain ⟨h2, g2⟩ := and2 g1
    obtain ⟨h3, h4⟩ := and2 g2
    exact c_for hC po G.calm h1 (snd_W hC w G tk h3) (s_tg G h2) (ib G tk po B h4)
  | .app i x, X, S, W, G, tk, po, B, e, h => by
    unfold chkS at h
    split at h
    all_goals first | (exact absurd h Bool.false_ne_true) | (rename_i heq; cases heq; done) | (rename_i heq; cases heq)
    obtain ⟨h1, g1⟩ := and2 h
    obtain ⟨h2, g2⟩ := and2 g1
    obtain ⟨h3, g3⟩ := and2 g2
    obtain ⟨h4, g4⟩ := and2 g3
    obtain ⟨h5, g5⟩ := and2 g4
    obtain ⟨h6, h7⟩ := and2 g5
    cases of_decide_eq_true h1
    exact c_app G hC (of_decide_eq_true h3) h4 h5 h2 h6 (snd_E hC x G tk h7).1
  | .ext i x, X, S, W, G, tk, po, B, e, h => by
    unfold chkS at h
    split at h
    all_goals first | (exact absurd h Bool.false_ne_true) | (rename_i heq; cases heq; done) | (rename_i heq; cases heq)
    obtain ⟨h1, g1⟩ := and2 h
    obtain ⟨h2, g2⟩ := and2 g1
    obtain ⟨h3, g3⟩ := and2 g2
    obtain ⟨h4, g4⟩ := and2 g3
    obtain ⟨h5, g5⟩ := and2 g4
    obtain ⟨h6, h7⟩ := and2 g5
    cases of_decide_eq_true h1
    exact c_ext G hC (of_decide_eq_true h3) h4 h5 h2 h6 (snd_E hC x G tk h7).1
  | .ins i a x, X, S, W, G, tk, po, B, e, h => by
    unfold chkS at h
    split at h
    all_goals first | (exact absurd h Bool.false_ne_true) | (rename_i heq; cases heq; done) | (rename_i heq; cases heq)
    obtain ⟨h1, g1⟩ := and2 h
    obtain ⟨h2, g2⟩ := and2 g1
    obtain ⟨h3, g3⟩ := and2 g2
    obtain ⟨h4, g4⟩ := and2 g3
    obtain ⟨h5, g5⟩ := and2 g4
    obtain ⟨h6, g6⟩ := and2 g5
    obtain ⟨h7, g7⟩ := and2 g6
    obtain ⟨h8, h9⟩ := and2 g7
    cases of_decide_eq_true h1
    exact c_ins G hC (of_decide_eq_true h3) h4 h5 h2 h6 h7 (snd_E hC a G tk h8).1 (snd_E hC x G tk h9).1
  | .put i a x, X, S, W, G, tk, po, B, e, h => by
    unfold chkS at h
    split at h
    all_goals first | (exact absurd h Bool.false_ne_true) | (rename_i heq; cases heq; done) | (rename_i heq; cases heq)
    obtain ⟨h1, g1⟩ := and2 h
    obtain ⟨h2, g2⟩ := and2 g1
    obtain ⟨h3, g3⟩ := and2 g2
    obtain ⟨h4, g4⟩ := and2 g3
    obtain ⟨h5, g5⟩ := and2 g4
    obtain ⟨h6, h7⟩ := and2 g5
    exact c_put G hC (of_decide_eq_true h1) h2 h3 (by simpa using h4) h5 (snd_E hC a G tk h6).1 (snd_E hC x G tk h7).1
  | .ja s x, X, S, W, G, tk, po, B, e, h => by
    unfold chkS at h
    split at h
    all_goals first | (exact absurd h Bool.false_ne_true) | (rename_i heq; cases heq; done) | (rename_i heq; cases heq)
    obtain ⟨h1, g1⟩ := and2 h
    obtain ⟨h2, g2⟩ := and2 g1
    obtain ⟨h3, g3⟩ := and2 g2
    obtain ⟨h4, h5⟩ := and2 g3
    cases of_decide_eq_true h1
    exact c_ja G hC h3 h2 h4 (snd_E hC x G tk h5).1
  | .ji s x, X, S, W, G, tk, po, B, e, h => by
    unfold chkS at h
    split at h
    all_goals first | (exact absurd h Bool.false_ne_true) | (rename_i heq; cases heq; done) | (rename_i heq; cases heq)
    obtain ⟨h1, g1⟩ := and2 h
    obtain ⟨h2, g2⟩ := and2 g1
    obtain ⟨h3, g3⟩ := and2 g2
    obtain ⟨h4, h5⟩ := and2 g3
    cases of_decide_eq_true h1
    exact c_ji G hC h3 h2 h4 (snd_E hC x G tk h5).1
  | .js i k x, X, S, W, G, tk, po, B, e, h => by
    unfold chkS at h
    split at h
    all_goals first | (exact absurd h Bool.false_ne_true) | (rename_i heq; cases heq; done) | (rename_i heq; cases heq)
    obtain ⟨h1, g1⟩ := and2 h
    obtain ⟨h2, g2⟩ := and2 g1
    obtain ⟨h3, g3⟩ := and2 g2
    obtain ⟨h4, g4⟩ := and2 g3
    obtain ⟨h5, g5⟩ := and2 g4
    obtain ⟨h6, h7⟩ := and2 g5
    exact c_js G hC (of_decide_eq_true h1) h2 h3 h4 (of_decide_eq_true h5) h6 (snd_E hC x G tk h7).1
  | .jl j i k, X, S, W, G, tk, po, B, e, h => by
    unfold chkS at h
    split at h
    all_goals first | (exact absurd h Bool.false_ne_true) | (rename_i heq; cases heq; done) | (rename_i heq; cases heq)
    obtain ⟨h1, g1⟩ := and2 h
    obtain ⟨h2, g2⟩ := and2 g1
    obtain ⟨h3, g3⟩ := and2 g2
    obtain ⟨h4, g4⟩ := and2 g3
    obtain ⟨h5, g5⟩ := and2 g4
    obtain ⟨h6, h7⟩ := and2 g5
    exact c_jl G (of_decide_eq_true h1) h2 (of_decide_eq_true h3) h4 h5 h6 (of_decide_eq_true h7)
  | .pass, X, S, W, G, tk, po, B, e, h => by
    unfold chkS at h
    split at h
    all_goals first | (exact absurd h Bool.false_ne_true) | (rename_i heq; cases heq; done) | (rename_i heq; cases heq)
    exact c_pass
  | .brk, X, S, W, G, tk, po, B, e, h => by
    unfold chkS at h
    split at h
    all_goals first | (exact absurd h Bool.false_ne_true) | (rename_i heq; cases heq; done) | (rename_i heq; cases heq)
    exact c_brk
  | .cont, X, S, W, G, tk, po, B, e, h => by
    unfold chkS at h
    split at h
    all_goals first | (exact absurd h Bool.false_ne_true) | (rename_i heq; cases heq; done) | (rename_i heq; cases heq)
    exact c_cont
  | .bomb, X, S, W, G, tk, po, B, e, h => ⟨fun pins s σ H D I q => by
    obtain ⟨F, Z, r, k, R, e0, q⟩ := q
    unfold stW at q
    exact q.elim⟩
  | .rais c none .nil, X, S, W, G, tk, po, B, e, h => by
    unfold chkS at h
    split at h
    all_goals first | (exact absurd h Bool.false_ne_true) | (rename_i heq; cases heq; done) | (rename_i heq; cases heq)
    obtain ⟨h1, h⟩ := and2 h
    obtain ⟨h2, h3⟩ := and2 h
    exact c_rais0 G B tk (of_decide_eq_true h1) h2 h3
  | .rais c (some f) (.cons a .nil), X, S, W, G, tk, po, B, e, h => by
    unfold chkS at h
    split at h
    all_goals first | (exact absurd h Bool.false_ne_true) | (rename_i heq; cases heq; done) | (rename_i heq; cases heq)
    obtain ⟨h1, h⟩ := and2 h
    obtain ⟨h2, h⟩ := and2 h
    obtain ⟨h3, h⟩ := and2 h
    obtain ⟨h4, h5⟩ := and2 h
    exact c_raisF G hC B tk (of_decide_eq_true h1) h2 h3 h4 (snd_E hC a G tk h5).1
  | .rais c none (.cons a as), X, S, W, G, tk, po, B, e, h => by
    unfold chkS at h
    exact absurd h Bool.false_ne_true
  | .rais c (some f) .nil, X, S, W, G, tk, po, B, e, h => by
    unfold chkS at h
    exact absurd h Bool.false_ne_true
  | .rais c (some f) (.cons a (.cons b as)), X, S, W, G, tk, po, B, e, h => by
    unfold chkS at h
    exact absurd h Bool.false_ne_true
  | .tri b hs, X, S, W, G, tk, po, B, e, h => by
    have ib := @snd_Ss b
    unfold chkS at h
    split at h
    all_goals first | (exact absurd h Bool.false_ne_true) | (rename_i heq; cases heq; done) | (rename_i heq; cases heq)
    obtain ⟨h1, h2⟩ := and2 h
    obtain ⟨i1, i2⟩ := cls_ok G B hs h2
    refine (ps_try_cls (tb := fun W => lSs X.K J XR C T W b) B.st B.fr G.nd tk (fun W pn xe tk' po' => ib (G.tr pn xe) tk' po' (B.tr pn xe) h1) i1).imp fun pins s D σ H I ⟨F, Z, r, k, R, e, q⟩ => ?_
    unfold stW at q
    exact ⟨F, Z, r, { k with ex := fun e0 r1 => hdW T k e0 r1 hs }, R, ⟨e.nx, e.rt, e.bk, e.ct, fun e0 r1 q1 σ' H' Z' cls dd s' R' xr => i2 e0 H' Z' cls dd r1 k W F σ' D q1 R' xr (e.mono s')⟩, q⟩
theorem snd_Ss : ∀ (c : Sts) {X : Cx} {S : Sc} {W : WX} (G : Good cf J XR C lv X S) (tk : Takes X W) (po : PassesOwn (model X.prog X.w) X.A X.env X.xe) (B : Bod cf J XR ad T X S) {e : List Stmt}, chkSs cf X.N S c e = true → PSs X e (lSs X.K J XR C T W c)
  | .nil, X, S, W, G, tk, po, B, [], h => c_nil hC
  | .cons a as, X, S, W, G, tk, po, B, e :: es, h => by
    have ia := @snd_S a
    have is := @snd_Ss as
    unfold chkSs at h
    exact c_cons hC (ia G tk po B (and2 h).1) (is G tk po B (and2 h).2)
  | .nil, X, S, W, G, tk, po, B, _ :: _, h => by unfold chkSs at h; cases h
  | .cons _ _, X, S, W, G, tk, po, B, [], h => by unfold chkSs at h; cases h
end
end
end G

set_option linter.all false
set_option maxRecDepth 100000
set_option Elab.async false
/-! Sp: a def of the text keeps its promise. -/
namespace G
open PySem PySem.Spec PyProof.Rows L2
/-- the names that a def stores -/
def defSt (scope : Scope) : Str → Bool := fun x => match scope.names.lookup x with | some .local => true | some .cell => true | _ => false
/-- the whole heap at the entry -/
def fmOf (H Z : Hp) : Fm := ⟨H, fun b => H b ≠ none ∧ Z b = none⟩
theorem rd_start {ns : Nat} {g : Gh} {ds : List D} {i : Nat} {s : Slot} (h : rd (startE ns ds g) i = s) (n : s ≠ .un) : ∃ d, ds[i]? = some d ∧ s = .fz d := by
  unfold rd startE at h
  dsimp only at h
  rw [List.getD_eq_getElem?_getD] at h
  by_cases hi : i < ds.length
  · rw [List.getElem?_append_left (by simpa using hi), List.getElem?_map, List.getElem?_eq_getElem hi] at h
    exact ⟨ds[i], List.getElem?_eq_getElem hi, h.symm⟩
  · rw [List.getElem?_append_right (by simpa using hi), List.getElem?_replicate] at h
    split at h <;> exact absurd h.symm n
theorem rel_start {K : PySem.W.Frag} {J : Jar} {H Z : Hp} {N : List Str} {vs : List V} {ds : List D} {g : Gh} (I : Inn J g H Z) (l : RepL K J Z vs ds) (hl : vs.length ≤ N.length) : Rel K J (fmOf H Z) (L2.start N vs) H Z (startE N.length ds g) := by
  refine ⟨I.sub, fun b o e _ => e, I.jar, I.jz, ?_, fun i d e => ?_, fun i es e => ?_, fun i j es fs a e => ?_, I.zs, I.zo, fun b hb => hb.2, fun b hb => hb.1, fun i k e => ?_⟩
  · unfold L2.start startE En.length
    dsimp only
    rw [List.length_append, List.length_append, List.length_map, List.length_map, List.length_replicate, List.length_replicate, l.length]
  · obtain ⟨d', e1, e2⟩ := rd_start e (fun z => by cases z)
    cases e2
    obtain ⟨v, h1, h2⟩ := l.get e1
    refine ⟨v, ?_, h2⟩
    unfold L2.start
    have : i < vs.length := (List.getElem?_eq_some_iff.mp h1).1
    rw [List.getElem?_append_left (by simpa using this), List.getElem?_map, h1]
    rfl
  · obtain ⟨_, _, e2⟩ := rd_start e (fun z => by cases z)
    cases e2
  · obtain ⟨_, _, e2⟩ := rd_start e (fun z => by cases z)
    cases e2
  · obtain ⟨_, _, e2⟩ := rd_start e (fun z => by cases z)
    cases e2
theorem out_of {K : PySem.W.Frag} {J : Jar} {H Z H' Z' : Hp} {σ : L2.St} {r : En} (s : Same Z Z') (R : Rel K J (fmOf H Z) σ H' Z' r) : Out J H Z r.g H' Z' :=
  ⟨s, R.inn, fun b o e n => R.frame b o e n, fun b h1 h2 => R.ng b ⟨h1, h2⟩⟩
section
variable {P : Program} {w : World} {K : PySem.W.Frag} {mg : Str → Option Value} {base : Heap} {cf : Cfg} {J : Jar} {XR : XRT} {T : Tb} {ad : Nat → Addr} {lv n f : Nat}
theorem fn_df {fa : Addr} {name qual : Str} {params : Arguments} {body : List Stmt} {scope : Scope} {dV kV doc pm cdv ct oc : Value} {an od : Option Addr} {osl : Array (Option Value)} {N ps : List Str} {b : Sts}
    (ok : T.Ok) (lk : K.lookup fa = some ⟨oc, od, .func (PySem.W.fnOf name qual params body scope dV kV doc pm an cdv ct), osl⟩) (hcd : PySem.W.codeIn K cdv qual = true) (FS : FnScope N ps scope)
    (ht : T.fn f = some (.df ps.length N.length b)) (hb : chkSs cf N ⟨scope, defSt scope⟩ b body = true) (facts : Facts cf mg) (jf : ∀ dk, cf.jk = some dk → ∃ a, JFacts J a dk) (sf : cf.js = true → ∃ a, SFacts K J a)
    (EF : ExcF P K mg cf.excs T.sub ad) (hXR : XR = xrt K J cf.excs ad) (fns : ∀ g p, cf.fns[g]? = some p → FnAt P w K mg base J XR (callW T n) lv g p.1 p.2 (cf.dfl.getD g [])) :
    FnG P w K mg base J XR (callW T (n + 1)) (lv + 1) f fa (PySem.W.fnOf name qual params body scope dV kV doc pm an cdv ct) ps := by
  constructor
  intro A outer s H args us vs Q E hr gd e0 bt rv hl ⟨Z, ds, g, inn, rl, hc⟩
  unfold callW at hc
  rw [ht] at hc
  obtain ⟨dl, hc⟩ := hc
  have KX : K.In s.heap := e0.mod.kin.keeps fun b o e => (e0.bs b o e).1
  have lim : s.heap.NoLimit := e0.mod.nolimit.keeps fun b o e => (e0.bs b o e).1
  have hkind : ∀ y ∈ ps.zip us, scope.names.lookup y.1 = some .local ∨ (scope.names.lookup y.1 = some .cell ∧ ((cellsFrom (s.heap.objs.size + 1) scope.names []).lookup y.1).isSome = true) := by
    rintro ⟨m, v⟩ hy
    rcases FS.par m (List.of_mem_zip hy).1 with q | q
    · exact .inl q
    · exact .inr ⟨q, PySem.W.cellsFrom_some _ _ _ (.inl q)⟩
  refine codeAny_call_function hr.depth (KX _ _ lk) rfl FS.co FS.gen rfl (PySem.W.codeRec_of KX hcd) (bt _ _ _ _ ?_)
  refine wpAny_newFunctionEnv_cells FS.kind hkind fun env he s1 x => ?_
  subst he
  refine ⟨lim.keeps x.toInCall.keep, codeAny_func ?_⟩
  have hpl : ps.length ≤ N.length := by
    have := congrArg List.length FS.pre
    rw [List.length_take] at this
    omega
  generalize hX : cxOf (L2.CX P w) P w K mg base N qual scope fa cdv A outer s H E = X
  have I : Inv X [] (L2.start N vs) H s1 := by rw [← hX]; exact inv_start FS hr.hd e0 hl rv x
  have GX : Good cf J XR (callW T n) lv X ⟨scope, defSt scope⟩ := by
    subst hX
    refine ⟨rfl, hr.deeper _, gd, FS.nd, rfl, FS.kind, fun y hy => ⟨?_, .inl rfl⟩, facts, jf, sf, fns⟩
    have hy' : (match scope.names.lookup y with | some .local => true | some .cell => true | _ => false) = true := hy
    show scope.names.lookup y = some .local ∨ scope.names.lookup y = some .cell
    split at hy'
    · exact .inl (by assumption)
    · exact .inr (by assumption)
    · cases hy'
  have tk : Takes X (fun cls d _ H => E cls d H) := by subst hX; exact takes_of rfl rfl rfl rfl
  have po : PassesOwn (model X.prog X.w) X.A X.env X.xe := by subst hX; exact passes_of rfl
  have B : Bod cf J XR ad T.sub X ⟨scope, defSt scope⟩ := by subst hX; exact ⟨rfl, rfl, EF, hXR⟩
  have hN : X.N = N := by subst hX; rfl
  have hprog : X.prog = P ∧ X.w = w ∧ X.A = A.deeper (envOfC qual scope s.heap.objs.size fa cdv) ∧ X.env = envOfC qual scope s.heap.objs.size fa cdv ∧ X.K = K := by subst hX; exact ⟨rfl, rfl, rfl, rfl, rfl⟩
  have hS := snd_Ss (T := T.sub) (callW_mono ok n) b GX tk po B (e := body) (by rw [hN]; exact hb)
  have hq : lSs X.K J XR (callW T n) T.sub (fun cls d _ H => E cls d H) b { nx := fun _ H' => Q .non H', rt := Q } (L2.start N vs) H := by
    rw [hprog.2.2.2.2]
    refine ⟨fmOf H Z, Z, startE N.length ds g, _, rel_start inn rl (by omega), ?_, hc⟩
    refine ⟨fun r q σ H' Z' s2 R => ?_, fun d r q v σ H' Z' s2 R hv => ?_, fun r q => q.elim, fun r q => q.elim, fun e r q σ H' Z' cls dd s2 R xr => ?_⟩
    · exact q .non H' Z' (out_of s2 R) .non
    · exact q v H' Z' (out_of s2 R) hv
    · exact q cls dd H' Z' (out_of s2 R) xr
  have run := hS.run [] s1 (L2.start N vs) H _ I hq
  rw [hprog.1, hprog.2.1, hprog.2.2.1, hprog.2.2.2.1] at run
  refine wpAny_mono run (fun fl s' hs => ?_) fun e s' hs => by subst hX; exact hs
  have fin : ∀ {σ' : L2.St} {H' : Hp} {v : V} {u : Value}, Inv X [] σ' H' s' → RelV v u → Q v H' → CE outer P w H s Q u s' := fun {σ' H' v u} Jv rv q => by
    subst hX
    exact ⟨v, H', Jv.os, Jv.bare, Jv.base, Jv.hok, rv, q⟩
  cases fl with
  | ret u =>
    obtain ⟨v, σ', H', Jv, rv, q⟩ := hs
    exact fin Jv rv q
  | next =>
    obtain ⟨σ', H', Jv, q⟩ := hs
    exact fin (v := V.non) (u := Value.none) Jv rfl q
  | brk =>
    obtain ⟨_, _, _, q⟩ := hs
    exact q.elim
  | cont =>
    obtain ⟨_, _, _, q⟩ := hs
    exact q.elim
end
end G

set_option linter.all false
set_option maxRecDepth 100000
set_option Elab.async false
/-! Sq: all defs of a text at once. -/
namespace G
open PySem PySem.Spec PyProof.Rows L2

/-- a def: its name, its parameters, its slots' names, its core body -/
structure Df where
  nm : Str
  ps : List Str
  N : List Str
  b : Sts
  dv : List Int := []
def scB (N P : List Str) (sc : Scope) : Bool :=
  (match sc.kind with | .function => true | _ => false) && (!sc.isCoroutine && (!sc.isGenerator && (decide N.Nodup && (decide (N.take P.length = P) && (P.all (fun x => match sc.names.lookup x with | some .local => true | some .cell => true | _ => false) && sc.names.all (fun y => match y.2 with | .free => false | _ => true))))))
theorem scB_of {N P : List Str} {sc : Scope} (h : scB N P sc = true) : FnScope N P sc := by
  unfold scB at h
  obtain ⟨h1, h⟩ := and2 h
  obtain ⟨h2, h⟩ := and2 h
  obtain ⟨h3, h⟩ := and2 h
  obtain ⟨h4, h⟩ := and2 h
  obtain ⟨h5, h⟩ := and2 h
  obtain ⟨h6, h7⟩ := and2 h
  refine ⟨?_, by simpa using h2, by simpa using h3, of_decide_eq_true h4, of_decide_eq_true h5, fun x hx => ?_, fun y hy e => ?_⟩
  · split at h1 <;> first | assumption | cases h1
  · have q := List.all_eq_true.mp h6 x hx
    split at q
    · exact .inl (by assumption)
    · exact .inr (by assumption)
    · cases q
  · have q := List.all_eq_true.mp h7 y hy
    rw [e] at q
    cases q
def plainB (a : Arguments) (ps : List Str) : Bool :=
  a.posonlyargs.isEmpty && (a.kwonlyargs.isEmpty && (a.vararg.isNone && (a.kwarg.isNone && decide (a.args.map (·.arg) = ps))))
/-- a def of the text is what its core term says -/
def chkDf (cf : Cfg) (d : Df) (st : Stmt) : Bool := (decide (d.dv = []) || (decide (d.dv.length = 1) && decide (d.ps.length = 2))) && (scB d.N d.ps (defScope st) && (plainB (defArgs st) d.ps && chkSs cf d.N ⟨defScope st, defSt (defScope st)⟩ d.b (defBody st)))
/-- the default of a def's last parameter -/
def DfV (K : PySem.W.Frag) (dV : Value) (dv : List Int) : Prop := (dv = [] ∧ dV = .none) ∨ ∃ (n : Int) (T : Addr) (o : Obj) (k : Nat) (t : Tok), dv = [n] ∧ dV = .ref T ∧ K.lookup T = some o ∧ o.data = .seq #[.int n t] k
/-- where the top has put a def -/
structure DefAt (K : PySem.W.Frag) (nm : Str) (st : Stmt) (dv : List Int) (f : Addr) : Prop where
  ex : ∃ (oc : Value) (od : Option Addr) (dV kV doc pm : Value) (an : Option Addr) (cdv ct : Value) (osl : Array (Option Value)), PySem.W.nsIn K mainGlobals nm = some (some (.ref f)) ∧
    K.lookup f = some ⟨oc, od, .func (PySem.W.fnOf nm nm (defArgs st) (defBody st) (defScope st) dV kV doc pm an cdv ct), osl⟩ ∧ PySem.W.codeIn K cdv nm = true ∧ PySem.W.keepIn K (.ref f) = true ∧ DfV K dV dv
/-- two parameters, the last one with a default -/
theorem bind_two {fd : FuncData} {a b : Str} (h1 : fd.params.posonlyargs = []) (h2 : fd.params.kwonlyargs = []) (h3 : fd.params.vararg = none) (h4 : fd.params.kwarg = none) (h6 : fd.params.args.map (·.arg) = [a, b]) (ne : a ≠ b) (us : List Value) (d : Value) (hu : us.length = 1 ∨ us.length = 2) :
    ∃ k, bindArgs fd ⟨us, []⟩ = seqItems? fd.defaults >>= k ∧ k (some #[d]) = pure ([a, b].zip (us ++ if us.length = 1 then [d] else [])) := by
  have nab : (b == a) = false := beq_eq_false_iff_ne.mpr (Ne.symm ne)
  unfold bindArgs
  dsimp only
  rw [h1, h2, h3, h4, h6]
  refine ⟨_, rfl, ?_⟩
  rcases hu with hu | hu
  · obtain ⟨u, rfl⟩ := List.length_eq_one_iff.mp hu
    simp [List.lookup, nab, List.filter]
  · match us, hu with
    | [u, v], _ => simp [List.lookup, nab, List.filter]
theorem binds_two {K : PySem.W.Frag} {fd : FuncData} {a b : Str} {T : Addr} {o : Obj} {d : Value} {k : Nat} (h1 : fd.params.posonlyargs = []) (h2 : fd.params.kwonlyargs = []) (h3 : fd.params.vararg = none) (h4 : fd.params.kwarg = none) (h6 : fd.params.args.map (·.arg) = [a, b]) (ne : a ≠ b) (h5 : fd.defaults = .ref T) (lT : K.lookup T = some o) (oT : o.data = .seq #[d] k) :
    Binds K fd [a, b] [] ∧ Binds K fd [a, b] [d] := by
  refine ⟨fun s us X hl => ?_, fun s us X hl => ?_⟩
  · have hu : us.length = 2 := by simpa using hl
    obtain ⟨q, e1, e2⟩ := bind_two h1 h2 h3 h4 h6 ne us d (.inr hu)
    refine BindsTo.of_looks fun M => ?_
    rw [e1, h5]
    refine looks_items X lT oT (.of_pure ?_)
    rw [e2, if_neg (by omega)]
  · have hu : us.length = 1 := by simpa using hl
    obtain ⟨q, e1, e2⟩ := bind_two h1 h2 h3 h4 h6 ne us d (.inl hu)
    refine BindsTo.of_looks fun M => ?_
    rw [e1, h5]
    refine looks_items X lT oT (.of_pure ?_)
    rw [e2, if_pos hu]
theorem plain_of {nm qual : Str} {a : Arguments} {ps : List Str} {body : List Stmt} {scope : Scope} {kV doc pm cdv ct : Value} {an : Option Addr} (h : plainB a ps = true) : Plain (PySem.W.fnOf nm qual a body scope .none kV doc pm an cdv ct) ps := by
  unfold plainB at h
  obtain ⟨h1, h⟩ := and2 h
  obtain ⟨h2, h⟩ := and2 h
  obtain ⟨h3, h⟩ := and2 h
  obtain ⟨h4, h5⟩ := and2 h
  exact ⟨List.isEmpty_iff.mp h1, List.isEmpty_iff.mp h2, Option.isNone_iff_eq_none.mp h3, Option.isNone_iff_eq_none.mp h4, rfl, of_decide_eq_true h5⟩
theorem kperm_nil {ps : List Str} {n : Nat} (h : ps.length ≤ n) (us : List Value) (hu : us.length = ps.length) : (kperm ps n []).map (fun p => (us ++ ([] : List Value)).getD p .none) = us := by
  apply List.ext_getElem?
  intro i
  unfold kperm
  rw [List.getElem?_map, List.getElem?_mapIdx, List.append_nil]
  by_cases hi : i < ps.length
  · rw [List.getElem?_eq_getElem hi]
    have hu' : i < us.length := by omega
    simp [show i < n by omega, List.getD_eq_getElem?_getD, List.getElem?_eq_getElem hu']
  · rw [List.getElem?_eq_none (by omega), List.getElem?_eq_none (by omega)]
    rfl
theorem binds_of {K : PySem.W.Frag} {fd : FuncData} {ps : List Str} (h : Plain fd ps) (nd : ps.Nodup) : Binds K fd ps [] := .all fun us hu => by
  have hk : kOk ps us.length [] = true := by
    unfold kOk
    rw [hu, List.drop_length]
    simp [nd]
  have := kbind h (us := us) (ws := []) hk rfl
  rw [kperm_nil (by omega) us hu] at this
  exact this
section
variable {P : Program} {w : World} {K : PySem.W.Frag} {mg : Str → Option Value} {base : Heap} {cf : Cfg} {J : Jar} {XR : XRT} {T : Tb} {ad : Nat → Addr}
/-- every def of the text, at every room -/
theorem fn_at {C : Calls} {lv : Nat} (KX : K.In base) (Gm : base.Ns mainGlobals mg) {d : Df} {st : Stmt} {f g : Nat} (at_ : DefAt K d.nm st d.dv f) (hc : chkDf cf d st = true)
    (hF : ∀ (oc : Value) (od : Option Addr) (dV kV doc pm : Value) (an : Option Addr) (cdv ct : Value) (osl : Array (Option Value)), K.lookup f = some ⟨oc, od, .func (PySem.W.fnOf d.nm d.nm (defArgs st) (defBody st) (defScope st) dV kV doc pm an cdv ct), osl⟩ → PySem.W.codeIn K cdv d.nm = true →
      FnG P w K mg base J XR C lv g f (PySem.W.fnOf d.nm d.nm (defArgs st) (defBody st) (defScope st) dV kV doc pm an cdv ct) d.ps) : FnAt P w K mg base J XR C lv g d.nm d.ps d.dv := by
  obtain ⟨oc, od, dV, kV, doc, pm, an, cdv, ct, osl, a1, l1, c1, k1, v1⟩ := at_
  have F := hF _ _ _ _ _ _ _ _ _ _ l1 c1
  unfold chkDf at hc
  obtain ⟨h0, hc⟩ := and2 hc
  obtain ⟨h1, hc⟩ := and2 hc
  obtain ⟨h2, h3⟩ := and2 hc
  have nd : d.ps.Nodup := by rw [← (scB_of h1).pre]; exact (scB_of h1).nd.sublist (List.take_sublist _ _)
  rcases v1 with ⟨e1, e2⟩ | ⟨n, T, o, k, t, e1, e2, lT, oT⟩
  · subst e2
    have pl := plain_of (nm := d.nm) (qual := d.nm) (body := defBody st) (scope := defScope st) (kV := kV) (doc := doc) (pm := pm) (cdv := cdv) (ct := ct) (an := an) h2
    exact ⟨f, _, PySem.W.mg_of KX Gm a1, k1, binds_of pl nd, F, fun _ => pl, fun z => absurd e1 z⟩
  · subst e2
    have p2 : d.ps.length = 2 := by
      rcases Bool.or_eq_true _ _ ▸ h0 with z | z
      · rw [e1] at z; cases of_decide_eq_true z
      · exact of_decide_eq_true (and2 z).2
    generalize hps : d.ps = ps at *
    match ps, p2 with
    | [a, b], _ =>
      have ne : a ≠ b := by
        intro z
        subst z
        simp at nd
      unfold plainB at h2
      obtain ⟨q1, h2⟩ := and2 h2
      obtain ⟨q2, h2⟩ := and2 h2
      obtain ⟨q3, h2⟩ := and2 h2
      obtain ⟨q4, q5⟩ := and2 h2
      obtain ⟨b1, b2⟩ := binds_two (K := K) (fd := PySem.W.fnOf d.nm d.nm (defArgs st) (defBody st) (defScope st) (.ref T) kV doc pm an cdv ct) (List.isEmpty_iff.mp q1) (List.isEmpty_iff.mp q2) (Option.isNone_iff_eq_none.mp q3) (Option.isNone_iff_eq_none.mp q4) (of_decide_eq_true q5) ne rfl lT oT
      exact ⟨f, _, PySem.W.mg_of KX Gm a1, k1, b1, F, fun z => (by rw [e1] at z; cases z), fun _ => ⟨[.int n t], by rw [e1]; exact .cons ⟨t, rfl⟩ .nil, b2⟩⟩
/-- every def of the text, at every room -/
theorem all_fns (ok : T.Ok) (KX : K.In base) (Gm : base.Ns mainGlobals mg) (facts : Facts cf mg) (jf : ∀ dk, cf.jk = some dk → ∃ a, JFacts J a dk) (sf : cf.js = true → ∃ a, SFacts K J a) (EF : ExcF P K mg cf.excs T.sub ad) (hXR : XR = xrt K J cf.excs ad)
    (ds : Nat → Option (Df × Stmt × Addr)) (hd : ∀ g p, cf.fns[g]? = some p → ∃ d st f, ds g = some (d, st, f) ∧ p = (d.nm, d.ps) ∧ cf.dfl.getD g [] = d.dv ∧ T.fn g = some (.df d.ps.length d.N.length d.b) ∧ DefAt K d.nm st d.dv f ∧ chkDf cf d st = true) :
    ∀ n g p, cf.fns[g]? = some p → FnAt P w K mg base J XR (callW T n) n g p.1 p.2 (cf.dfl.getD g [])
  | 0, g, p, hp => by
    obtain ⟨d, st, f, _, rfl, hv, ht, at_, hc⟩ := hd g p hp
    rw [hv]
    exact fn_at KX Gm at_ hc fun oc od dV kV doc pm an cdv ct osl l1 c1 => ⟨fun A outer s H args us vs Q E hr gd e0 bt rv hl ⟨Z, es, g, inn, rl, q⟩ => (show False from q).elim⟩
  | n + 1, g, p, hp => by
    obtain ⟨d, st, f, _, rfl, hv, ht, at_, hc⟩ := hd g p hp
    rw [hv]
    have hc' := hc
    unfold chkDf at hc'
    obtain ⟨h0, hc'⟩ := and2 hc'
    obtain ⟨h1, hc'⟩ := and2 hc'
    obtain ⟨h2, h3⟩ := and2 hc'
    exact fn_at KX Gm at_ hc fun oc od dV kV doc pm an cdv ct osl l1 c1 => fn_df ok l1 c1 (scB_of h1) ht h3 facts jf sf EF hXR (all_fns ok KX Gm facts jf sf EF hXR ds hd n)
end
end G

set_option linter.all false
set_option maxRecDepth 100000
set_option Elab.async false
/-! Sr: the law's random state as a dict, as a list. -/
namespace G
open PySem PySem.Spec PyProof.Rows L2

/-- a field: what stands in the object, what it holds -/
def jv (L : Sum Int Str → Option Addr) (H : Hp) (k : Sum Int Str) (v : V) (d : D) : Prop :=
  (∃ n, d = .int n ∧ v = .int n) ∨ ∃ (ns : List Int) (l : Addr), d = .list (ns.map .int) ∧ v = .ref l ∧ L k = some l ∧ H l = some (.lst (ns.map V.int)) ∧ ns.length ≤ sizeLine
inductive JRel (L : Sum Int Str → Option Addr) (H : Hp) : List (Sum Int Str × V) → Gh → Prop
  | nil : JRel L H [] []
  | cons {k : Sum Int Str} {v : V} {d : D} {vs : List (Sum Int Str × V)} {g : Gh} : jv L H k v d → JRel L H vs g → JRel L H ((k, v) :: vs) ((k, d) :: g)
section
variable {L : Sum Int Str → Option Addr} {H H' : Hp}
theorem JRel.mono {vs : List (Sum Int Str × V)} {g : Gh} (h : JRel L H vs g) (e : ∀ k l, L k = some l → H' l = H l) : JRel L H' vs g := by
  induction h with
  | nil => exact .nil
  | cons h1 _ ih =>
    refine .cons ?_ ih
    rcases h1 with h1 | ⟨ns, l, e1, e2, e3, e4, e5⟩
    · exact .inl h1
    · exact .inr ⟨ns, l, e1, e2, e3, by rw [e _ _ e3]; exact e4, e5⟩
theorem JRel.get {vs : List (Sum Int Str × V)} {g : Gh} (h : JRel L H vs g) {k : Sum Int Str} {d : D} (e : gget g k = some d) : ∃ (v : V) (i : Nat), vs[i]? = some (k, v) ∧ valV vs k = some v ∧ jv L H k v d := by
  induction h with
  | nil => cases e
  | @cons k0 v0 d0 vs g h1 h2 ih =>
    unfold gget at e
    by_cases q : k0 = k
    · subst q
      rw [List.find?_cons_of_pos (by simp)] at e
      cases e
      exact ⟨v0, 0, rfl, valV_pos rfl, h1⟩
    · rw [List.find?_cons_of_neg (by simpa using q)] at e
      obtain ⟨v, i, e1, e2, e3⟩ := ih e
      exact ⟨v, i + 1, by simpa using e1, by rw [valV_neg q]; exact e2, e3⟩
theorem JRel.keys {vs : List (Sum Int Str × V)} {g : Gh} (h : JRel L H vs g) : vs.map (·.1) = g.map (·.1) := by
  induction h with
  | nil => rfl
  | cons _ _ ih => rw [List.map_cons, List.map_cons, ih]
/-- one list of it is changed -/
theorem JRel.putL {vs : List (Sum Int Str × V)} {g : Gh} (h : JRel L H vs g) {k : Sum Int Str} {l : Addr} {ns : List Int} (inj : ∀ k1 k2 l, L k1 = some l → L k2 = some l → k1 = k2) (hl : L k = some l) (hz : ns.length ≤ sizeLine) (ty : ∀ d, (k, d) ∈ g → ∃ ds, d = .list ds) :
    JRel L (upd H l (.lst (ns.map V.int))) vs (gput g k (.list (ns.map .int))) := by
  induction h with
  | nil => exact .nil
  | @cons k0 v0 d0 vs g h1 h2 ih =>
    have ih := ih fun d hd => ty d (List.mem_cons_of_mem _ hd)
    unfold gput
    rw [List.map_cons]
    by_cases q : k0 = k
    · subst q
      rw [if_pos rfl]
      refine .cons (.inr ⟨ns, l, rfl, ?_, hl, upd_same, hz⟩) ih
      obtain ⟨ds, e⟩ := ty d0 List.mem_cons_self
      subst e
      rcases h1 with ⟨n, e, _⟩ | ⟨ms, l2, e1, e2, e3, _⟩
      · cases e
      · rw [hl] at e3
        cases e3
        exact e2
    · rw [if_neg q]
      refine .cons ?_ ih
      rcases h1 with h1 | ⟨ms, l2, e1, e2, e3, e4, e5⟩
      · exact .inl h1
      · have nl : l2 ≠ l := by
          rintro rfl
          exact q (inj _ _ _ e3 hl)
        exact .inr ⟨ms, l2, e1, e2, e3, by rw [upd_ne nl]; exact e4, e5⟩
theorem JRel.putI {vs : List (Sum Int Str × V)} {g : Gh} (h : JRel L H vs g) {k : Sum Int Str} {n : Int} : JRel L H (vs.map fun kv => if kv.1 = k then (kv.1, V.int n) else kv) (gput g k (.int n)) := by
  induction h with
  | nil => exact .nil
  | @cons k0 v0 d0 vs g h1 h2 ih =>
    unfold gput
    rw [List.map_cons, List.map_cons]
    by_cases q : k0 = k
    · subst q
      rw [if_pos rfl, if_pos rfl]
      exact .cons (.inl ⟨n, rfl, rfl⟩) ih
    · rw [if_neg q, if_neg q]
      exact .cons h1 ih
end
theorem gget_mem {g : Gh} {k : Sum Int Str} {d : D} (e : gget g k = some d) : (k, d) ∈ g := by
  unfold gget at e
  cases q : g.find? fun p => decide (p.1 = k) with
  | none => rw [q] at e; cases e
  | some p =>
    rw [q] at e
    cases e
    have h1 := List.find?_some q
    have h2 := List.mem_of_find?_eq_some q
    have h3 : p.1 = k := by simpa using h1
    subst h3
    exact h2
/-- distinct keys -/
def KeysOk (g : Gh) : Prop := (g.map (·.1)).Nodup
theorem keys_one {g : Gh} (h : KeysOk g) {k : Sum Int Str} {d d' : D} (h1 : (k, d) ∈ g) (h2 : (k, d') ∈ g) : d = d' := by
  unfold KeysOk at h
  induction g with
  | nil => cases h1
  | cons p g ih =>
    rw [List.map_cons, List.nodup_cons] at h
    rcases List.mem_cons.mp h1 with e1 | e1 <;> rcases List.mem_cons.mp h2 with e2 | e2
    · rw [← e1] at e2; cases e2; rfl
    · have q := List.mem_map_of_mem (f := (·.1)) e2
      rw [← e1] at h
      exact absurd q h.1
    · have q := List.mem_map_of_mem (f := (·.1)) e1
      rw [← e2] at h
      exact absurd q h.1
    · exact ih h.2 e1 e2
theorem keys_put {g : Gh} {k : Sum Int Str} {d : D} (h : KeysOk g) : KeysOk (gput g k d) := by
  unfold KeysOk gput at *
  rw [List.map_map]
  have : ((fun p : Sum Int Str × D => p.1) ∘ fun p => if p.1 = k then (p.1, d) else p) = (·.1) := by
    funext p
    show (if p.1 = k then (p.1, d) else p).1 = p.1
    split <;> rfl
  rw [this]
  exact h
/-- the random state: a dict at a -/
def jarD (a : Addr) (L : Sum Int Str → Option Addr) : Jar where
  at_ := some a
  L := L
  A := fun b => b = a ∨ ∃ k, L k = some b
  P := fun g H => KeysOk g ∧ (∃ kvs, H a = some (.dK kvs) ∧ kvs.length < sizeLine ∧ JRel L H kvs g ∧ ∀ p ∈ kvs, ∃ x, p.1 = Sum.inr x) ∧ (∀ k l, L k = some l → H l ≠ none) ∧ (∀ k1 k2 l, L k1 = some l → L k2 = some l → k1 = k2) ∧ ∀ k, L k ≠ some a
  there := fun g H b ⟨_, ⟨kvs, e, _⟩, h, _⟩ hb => by
    rcases hb with rfl | ⟨k, hk⟩
    · rw [e]; exact fun z => by cases z
    · exact h k b hk
  stable := fun g H H' ⟨h0, ⟨kvs, e, e2, r, t⟩, h, i, n⟩ s => by
    refine ⟨h0, ⟨kvs, by rw [s a (.inl rfl)]; exact e, e2, r.mono fun k l hl => s l (.inr ⟨k, hl⟩), t⟩, fun k l hl => ?_, i, n⟩
    rw [s l (.inr ⟨k, hl⟩)]
    exact h k l hl
theorem jarD_ok (a : Addr) (L : Sum Int Str → Option Addr) : JFacts (jarD a L) a true where
  at_ := rfl
  ja := .inl rfl
  get := fun g H k d ⟨_, ⟨kvs, e, _, r, t⟩, _⟩ hg => by
    obtain ⟨v, i, h1, h2, h3⟩ := r.get hg
    obtain ⟨x, hx⟩ := t _ (List.mem_of_getElem? h1)
    refine ⟨v, ⟨kvs, x, hx, e, h2⟩, ?_⟩
    rcases h3 with h3 | ⟨ns, l, e1, e2, e3, e4, e5⟩
    · exact .inl h3
    · exact .inr ⟨ns, l, e1, e2, e3, .inr ⟨k, e3⟩, e4, e5⟩
  putL := fun g H k ds l ns ⟨h0, ⟨kvs, e, e2, r, t⟩, h, i, n⟩ hg hl hz => by
    have na : a ≠ l := fun q => n k (q ▸ hl)
    refine ⟨keys_put h0, ⟨kvs, by rw [upd_ne na]; exact e, e2, r.putL i hl hz fun d hd => ⟨ds, keys_one h0 hd (gget_mem hg)⟩, t⟩, fun k2 l2 hl2 => ?_, i, n⟩
    by_cases q : l2 = l
    · subst q; rw [upd_same]; exact fun z => by cases z
    · rw [upd_ne q]; exact h k2 l2 hl2
  putI := fun g H k m n ⟨h0, ⟨kvs, e, e2, r, t⟩, h, i, na⟩ hg => by
    obtain ⟨v, j, h1, h2, h3⟩ := r.get hg
    obtain ⟨x, hx⟩ := t _ (List.mem_of_getElem? h1)
    have hx' : k = Sum.inr x := hx
    have ex : putK kvs k (V.int n) = kvs.map fun kv => if kv.1 = k then (kv.1, V.int n) else kv := by
      unfold putK
      rw [if_pos]
      rw [List.any_eq_true]
      exact ⟨_, List.mem_of_getElem? h1, by simp⟩
    have nl : ∀ k2 l, L k2 = some l → l ≠ a := fun k2 l hl q => na k2 (q ▸ hl)
    refine ⟨.dK (putK kvs k (.int n)), ⟨kvs, x, hx', e, e2, rfl⟩, keys_put h0, ⟨_, upd_same, by rw [ex, List.length_map]; exact e2, ?_, ?_⟩, fun k2 l2 hl2 => ?_, i, na⟩
    · rw [ex]
      exact (r.putI).mono fun k2 l hl => upd_ne (nl k2 l hl)
    · rw [ex]
      intro p hp
      obtain ⟨p0, hp0, rfl⟩ := List.mem_map.mp hp
      obtain ⟨y, hy⟩ := t p0 hp0
      split
      · exact ⟨y, hy⟩
      · exact ⟨y, hy⟩
    · rw [upd_ne (nl k2 l2 hl2)]; exact h k2 l2 hl2
end G

set_option linter.all false
set_option maxRecDepth 100000
set_option Elab.async false
/-! Srl: the law's random state as a list. -/
namespace G
open PySem PySem.Spec PyProof.Rows L2
/-- the places of a list, as keys -/
def keysL (n : Nat) : List (Sum Int Str) := (List.range n).map fun (i : Nat) => Sum.inl (i : Int)
theorem keysL_at {kvs : List (Sum Int Str × V)} (h : kvs.map (·.1) = keysL kvs.length) {i : Nat} {kv : Sum Int Str × V} (e : kvs[i]? = some kv) : kv.1 = .inl (i : Int) := by
  have h1 : (kvs.map (·.1))[i]? = some kv.1 := by rw [List.getElem?_map, e]; rfl
  rw [h] at h1
  unfold keysL at h1
  rw [List.getElem?_map, List.getElem?_range (List.getElem?_eq_some_iff.mp e).1] at h1
  exact (Option.some.inj h1).symm
theorem put_set {kvs : List (Sum Int Str × V)} (h : kvs.map (·.1) = keysL kvs.length) {i : Nat} {n : Int} :
    (kvs.map fun kv => if kv.1 = Sum.inl (i : Int) then (kv.1, V.int n) else kv).map (·.2) = (kvs.map (·.2)).set i (.int n) := by
  apply List.ext_getElem?
  intro j
  rw [List.getElem?_map, List.getElem?_map, List.getElem?_set, List.getElem?_map, List.length_map]
  cases e : kvs[j]? with
  | none =>
    have : kvs.length ≤ j := List.getElem?_eq_none_iff.mp e
    show none = _
    by_cases q : i = j
    · rw [if_pos q, if_neg (by omega)]
    · rw [if_neg q]; rfl
  | some kv =>
    have hk := keysL_at h e
    have hj := (List.getElem?_eq_some_iff.mp e).1
    show some (if kv.1 = Sum.inl (i : Int) then (kv.1, V.int n) else kv).2 = _
    by_cases q : i = j
    · subst q
      rw [if_pos hk, if_pos rfl, if_pos hj]
    · rw [if_neg (by rw [hk]; intro z; cases z; exact q rfl), if_neg q]
      rfl
/-- the random state: a list at a -/
def jarL (a : Addr) (L : Sum Int Str → Option Addr) : Jar where
  at_ := some a
  L := L
  A := fun b => b = a ∨ ∃ k, L k = some b
  P := fun g H => KeysOk g ∧ (∃ kvs : List (Sum Int Str × V), H a = some (.lst (kvs.map (·.2))) ∧ JRel L H kvs g ∧ kvs.map (·.1) = keysL kvs.length) ∧ (∀ k l, L k = some l → H l ≠ none) ∧ (∀ k1 k2 l, L k1 = some l → L k2 = some l → k1 = k2) ∧ ∀ k, L k ≠ some a
  there := fun g H b ⟨_, ⟨kvs, e, _⟩, h, _⟩ hb => by
    rcases hb with rfl | ⟨k, hk⟩
    · rw [e]; exact fun z => by cases z
    · exact h k b hk
  stable := fun g H H' ⟨h0, ⟨kvs, e, r, t⟩, h, i, n⟩ s => by
    refine ⟨h0, ⟨kvs, by rw [s a (.inl rfl)]; exact e, r.mono fun k l hl => s l (.inr ⟨k, hl⟩), t⟩, fun k l hl => ?_, i, n⟩
    rw [s l (.inr ⟨k, hl⟩)]
    exact h k l hl
theorem jarL_ok (a : Addr) (L : Sum Int Str → Option Addr) : JFacts (jarL a L) a false where
  at_ := rfl
  ja := .inl rfl
  get := fun g H k d ⟨_, ⟨kvs, e, r, t⟩, _⟩ hg => by
    obtain ⟨v, i, h1, h2, h3⟩ := r.get hg
    have hk : k = .inl (i : Int) := keysL_at t h1
    refine ⟨v, ⟨kvs.map (·.2), (i : Int), hk, e, L2.atI_nat (by rw [List.getElem?_map, h1]; rfl)⟩, ?_⟩
    rcases h3 with h3 | ⟨ns, l, e1, e2, e3, e4, e5⟩
    · exact .inl h3
    · exact .inr ⟨ns, l, e1, e2, e3, .inr ⟨k, e3⟩, e4, e5⟩
  putL := fun g H k ds l ns ⟨h0, ⟨kvs, e, r, t⟩, h, i, n⟩ hg hl hz => by
    have na : a ≠ l := fun q => n k (q ▸ hl)
    refine ⟨keys_put h0, ⟨kvs, by rw [upd_ne na]; exact e, r.putL i hl hz fun d hd => ⟨ds, keys_one h0 hd (gget_mem hg)⟩, t⟩, fun k2 l2 hl2 => ?_, i, n⟩
    by_cases q : l2 = l
    · subst q; rw [upd_same]; exact fun z => by cases z
    · rw [upd_ne q]; exact h k2 l2 hl2
  putI := fun g H k m n ⟨h0, ⟨kvs, e, r, t⟩, h, i, na⟩ hg => by
    obtain ⟨v, j, h1, h2, h3⟩ := r.get hg
    have hk : k = .inl (j : Int) := keysL_at t h1
    have hj := (List.getElem?_eq_some_iff.mp h1).1
    have nl : ∀ k2 l, L k2 = some l → l ≠ a := fun k2 l hl q => na k2 (q ▸ hl)
    have ix : L2.ixN (kvs.map (·.2)).length (j : Int) = some j := by
      rw [List.length_map]
      unfold L2.ixN
      rw [if_pos (by omega), if_pos (by omega), Int.toNat_natCast]
    refine ⟨.lst ((kvs.map (·.2)).set j (.int n)), ⟨kvs.map (·.2), (j : Int), j, hk, e, ix, rfl⟩, keys_put h0, ⟨kvs.map fun kv => if kv.1 = k then (kv.1, V.int n) else kv, ?_, ?_, ?_⟩, fun k2 l2 hl2 => ?_, i, na⟩
    · rw [upd_same, hk, put_set t]
    · exact (r.putI).mono fun k2 l hl => upd_ne (nl k2 l hl)
    · rw [List.length_map, List.map_map, ← t]
      congr 1
      funext kv
      show (if kv.1 = k then (kv.1, V.int n) else kv).1 = kv.1
      split <;> rfl
    · rw [upd_ne (nl k2 l2 hl2)]; exact h k2 l2 hl2
end G

set_option linter.all false
set_option maxRecDepth 100000
set_option Elab.async false
/-! Ss: the def that makes the law's random state, a dict. -/
namespace G
open PySem PySem.Spec PyProof.Rows L2

def jarW (C : Calls) : List (Sum Int Str × Ex) → En → (Gh → Prop) → Prop
  | [], _, K => K []
  | (k, e) :: es, r, K => exW C e r (fun x r1 => match x with
      | .val (.int n) => jarW C es r1 fun g => K ((k, .int n) :: g)
      | .new ds => (asInts ds).isSome = true ∧ jarW C es r1 fun g => K ((k, .list ds) :: g)
      | .sl i => (match rd r1 i with
        | .ow ds => (asInts ds).isSome = true ∧ jarW C es (r1.set i .un) fun g => K ((k, .list ds) :: g)
        | _ => False)
      | _ => False) noX
theorem jarW_mono {C C' : Calls} (hC : CLe C C') : ∀ (es : List (Sum Int Str × Ex)) {r : En} {K K' : Gh → Prop}, (∀ g, K g → K' g) → jarW C es r K → jarW C' es r K'
  | [], r, K, K', h => h _
  | (k, e) :: es, r, K, K', h => by
    unfold jarW
    refine exW_mono hC e (fun x r1 => ?_) fun _ _ z => z
    split
    · exact jarW_mono hC es fun g => h _
    · exact fun q => ⟨q.1, jarW_mono hC es (fun g => h _) q.2⟩
    · split
      · exact fun q => ⟨q.1, jarW_mono hC es (fun g => h _) q.2⟩
      · exact id
    · exact id
theorem asInts_of {ds : List D} (h : (asInts ds).isSome = true) : ∃ ns : List Int, asInts ds = some ns ∧ ds = ns.map .int := by
  induction ds with
  | nil => exact ⟨[], rfl, rfl⟩
  | cons d ds ih =>
    cases d with
    | int n =>
      unfold asInts at h ⊢
      rw [Option.isSome_map] at h
      obtain ⟨ns, e1, e2⟩ := ih h
      exact ⟨n :: ns, by rw [e1]; rfl, by rw [e2]; rfl⟩
    | _ => cases h
section
variable {K : PySem.W.Frag} {J : Jar} {F : Fm} {σ : L2.St} {H Z : Hp} {r : En}
theorem Rel.drop (R : Rel K J F σ H Z r) {i : Nat} : Rel K J F σ H Z (r.set i .un) := by
  have out : ∀ {j : Nat} {s : Slot}, rd (r.set i .un) j = s → s ≠ .un → rd r j = s := fun {j s} e n => by
    by_cases ij : i = j
    · subst ij
      by_cases il : i < r.length
      · rw [rd_same il] at e; exact absurd e.symm n
      · have := rd_lt (r := r.set i .un) (i := i) (by rw [e]; exact n)
        rw [En.length_set] at this
        exact absurd this il
    · rwa [rd_ne ij] at e
  exact ⟨R.sub, R.frame, R.jar, R.jz, by rw [En.length_set]; exact R.len, fun j d e => R.fz j d (out e fun z => by cases z), fun j ds e => R.ow j ds (out e fun z => by cases z), fun j k ds es a e e2 => R.sep j k ds es a (out e fun z => by cases z) (out e2 fun z => by cases z), R.zs, R.zo, R.ng, R.gf, fun j k e => R.al j k (out e fun z => by cases z)⟩
end
/-- the fields, laid -/
inductive JsOk (J : Jar) (H Z : Hp) : Fm → List (Sum Int Str × V) → Gh → Prop
  | nil {F : Fm} : JsOk J H Z F [] []
  | int {F : Fm} {k : Sum Int Str} {n : Int} {vs : List (Sum Int Str × V)} {g : Gh} : JsOk J H Z F vs g → JsOk J H Z F ((k, .int n) :: vs) ((k, .int n) :: g)
  | lst {F : Fm} {k : Sum Int Str} {l : Addr} {ns : List Int} {vs : List (Sum Int Str × V)} {g : Gh} : H l = some (.lst (ns.map V.int)) → ns.length ≤ sizeLine → Z l = none → F.o l = none → ¬ J.A l → JsOk J H Z (F.add l (.lst (ns.map V.int))) vs g →
      JsOk J H Z F ((k, .ref l) :: vs) ((k, .list (ns.map .int)) :: g)
section
variable {cf : Cfg} {J : Jar} {XR : XRT} {C : Calls} {lv : Nat} {X : Cx} {S : Sc} (G : Good cf J XR C lv X S) (hC : CMono C)
include hC
theorem jar_pairs {K : PySem.W.Frag} {σ : L2.St} : ∀ (es : List (Sum Int Str × Ex)) {F : Fm} {H Z : Hp} {r : En} {k : Gh → Prop} {Q : List (V × V) → Hp → Prop}, Rel K J F σ H Z r → jarW C es r k →
    (∀ g kvs H2 Z2 r2, k g → Same Z Z2 → Rel K J F σ H2 Z2 r2 → JsOk J H2 Z2 F kvs g → kvs.map (·.1) = es.map (fun p => p.1) → Q (kvs.map fun kv => (kV kv.1, kv.2)) H2) →
    tPairs (es.map fun p => (tC (kV p.1), lE K J XR C noW p.2)) σ H Q
  | [], F, H, Z, r, k, Q, R, h, q => by
    unfold jarW at h
    exact q [] [] H Z r h (.refl _) R .nil rfl
  | (s, e) :: es, F, H, Z, r, k, Q, R, h, q => by
    unfold jarW at h
    refine use_E hC R (Y := noX) XC.no h fun x r1 h1 v H1 Z1 s1 R1 p1 => ?_
    have list : ∀ {ns : List Int} {l : Addr} {r2 : En}, Rel K J F σ H1 Z1 r2 → v = .ref l → H1 l = some (.lst (ns.map V.int)) → ns.length ≤ sizeLine → Z1 l = none → F.o l = none → ¬ J.A l → (∀ i es, rd r2 i = .ow es → σ[i]? ≠ some (some (.ref l))) →
        jarW C es r2 (fun g => k ((s, .list (ns.map .int)) :: g)) → tPairs (es.map fun p => (tC (kV p.1), lE K J XR C noW p.2)) σ H1 fun ps H2 => Q ((kV s, v) :: ps) H2 := by
      intro ns l r2 R2 ev f1 f2 f3 f4 f5 f6 w
      subst ev
      refine jar_pairs es (R2.guard f1 f3 f6) w fun g kvs H3 Z3 r3 hk s3 R3 ok hm => ?_
      obtain ⟨R4, y1, y2, y3⟩ := R3.unguard f4 f5 R2.nog
      exact q _ ((s, .ref l) :: kvs) H3 Z3 r3 hk (s1.trans s3) R4 (.lst y1 f2 y2 f4 f5 ok) (by rw [List.map_cons, List.map_cons, hm])
    split at h1
    · rename_i n
      cases rep_int p1
      refine jar_pairs es R1 h1 fun g kvs H3 Z3 r3 hk s3 R3 ok hm => ?_
      exact q _ ((s, .int n) :: kvs) H3 Z3 r3 hk (s1.trans s3) R3 (.int ok) (by rw [List.map_cons, List.map_cons, hm])
    · rename_i ds
      obtain ⟨hi, w⟩ := h1
      obtain ⟨ns, en, rfl⟩ := asInts_of hi
      obtain ⟨l, ws, rfl, e1, e2, e3, e4, e5, e6, e7⟩ := p1
      obtain ⟨ew, _⟩ := e3.ints en
      subst ew
      exact list R1 rfl e1 (by rw [List.length_map] at e2; exact e2) e4 e5 e6 e7 w
    · rename_i i
      split at h1
      · rename_i ds eo
        obtain ⟨hi, w⟩ := h1
        obtain ⟨ns, en, rfl⟩ := asInts_of hi
        obtain ⟨l, ws, y1, y2, y3, y4, y5, y6, y7⟩ := R1.ow i _ eo
        obtain ⟨p2, _⟩ := p1
        rw [p2] at y1
        cases y1
        obtain ⟨ew, _⟩ := y4.ints en
        subst ew
        refine list (R1.drop (i := i)) rfl y2 (by rw [List.length_map] at y3; exact y3) y5 y6 y7 (fun j es2 ej z => ?_) w
        by_cases ij : i = j
        · subst ij
          rw [rd_same (rd_ow_len eo)] at ej
          cases ej
        · rw [rd_ne ij] at ej
          exact ij (R1.sep i j _ es2 l eo ej p2 z)
      · exact h1.elim
    · exact h1.elim
theorem jar_args {K : PySem.W.Frag} {σ : L2.St} : ∀ (es : List (Sum Int Str × Ex)) {F : Fm} {H Z : Hp} {r : En} {k : Gh → Prop} {Q : List V → Hp → Prop}, Rel K J F σ H Z r → jarW C es r k →
    (∀ g kvs H2 Z2 r2, k g → Same Z Z2 → Rel K J F σ H2 Z2 r2 → JsOk J H2 Z2 F kvs g → kvs.map (·.1) = es.map (fun p => p.1) → Q (kvs.map (·.2)) H2) →
    (es.foldr (fun p t => tCons (lE K J XR C noW p.2) t) tNil) σ H Q
  | [], F, H, Z, r, k, Q, R, h, q => by
    unfold jarW at h
    exact q [] [] H Z r h (.refl _) R .nil rfl
  | (s, e) :: es, F, H, Z, r, k, Q, R, h, q => by
    unfold jarW at h
    refine use_E hC R (Y := noX) XC.no h fun x r1 h1 v H1 Z1 s1 R1 p1 => ?_
    have list : ∀ {ns : List Int} {l : Addr} {r2 : En}, Rel K J F σ H1 Z1 r2 → v = .ref l → H1 l = some (.lst (ns.map V.int)) → ns.length ≤ sizeLine → Z1 l = none → F.o l = none → ¬ J.A l → (∀ i es, rd r2 i = .ow es → σ[i]? ≠ some (some (.ref l))) →
        jarW C es r2 (fun g => k ((s, .list (ns.map .int)) :: g)) → (es.foldr (fun p t => tCons (lE K J XR C noW p.2) t) tNil) σ H1 fun ps H2 => Q (v :: ps) H2 := by
      intro ns l r2 R2 ev f1 f2 f3 f4 f5 f6 w
      subst ev
      refine jar_args es (R2.guard f1 f3 f6) w fun g kvs H3 Z3 r3 hk s3 R3 ok hm => ?_
      obtain ⟨R4, y1, y2, y3⟩ := R3.unguard f4 f5 R2.nog
      exact q _ ((s, .ref l) :: kvs) H3 Z3 r3 hk (s1.trans s3) R4 (.lst y1 f2 y2 f4 f5 ok) (by rw [List.map_cons, List.map_cons, hm])
    split at h1
    · rename_i n
      cases rep_int p1
      refine jar_args es R1 h1 fun g kvs H3 Z3 r3 hk s3 R3 ok hm => ?_
      exact q _ ((s, .int n) :: kvs) H3 Z3 r3 hk (s1.trans s3) R3 (.int ok) (by rw [List.map_cons, List.map_cons, hm])
    · rename_i ds
      obtain ⟨hi, w⟩ := h1
      obtain ⟨ns, en, rfl⟩ := asInts_of hi
      obtain ⟨l, ws, rfl, e1, e2, e3, e4, e5, e6, e7⟩ := p1
      obtain ⟨ew, _⟩ := e3.ints en
      subst ew
      exact list R1 rfl e1 (by rw [List.length_map] at e2; exact e2) e4 e5 e6 e7 w
    · rename_i i
      split at h1
      · rename_i ds eo
        obtain ⟨hi, w⟩ := h1
        obtain ⟨ns, en, rfl⟩ := asInts_of hi
        obtain ⟨l, ws, y1, y2, y3, y4, y5, y6, y7⟩ := R1.ow i _ eo
        obtain ⟨p2, _⟩ := p1
        rw [p2] at y1
        cases y1
        obtain ⟨ew, _⟩ := y4.ints en
        subst ew
        refine list (R1.drop (i := i)) rfl y2 (by rw [List.length_map] at y3; exact y3) y5 y6 y7 (fun j es2 ej z => ?_) w
        by_cases ij : i = j
        · subst ij
          rw [rd_same (rd_ow_len eo)] at ej
          cases ej
        · rw [rd_ne ij] at ej
          exact ij (R1.sep i j _ es2 l eo ej p2 z)
      · exact h1.elim
    · exact h1.elim
end
theorem js_lists {J : Jar} {H Z : Hp} {F : Fm} {kvs : List (Sum Int Str × V)} {g : Gh} (h : JsOk J H Z F kvs g) : ∀ k l, (k, V.ref l) ∈ kvs → F.o l = none ∧ Z l = none ∧ H l ≠ none ∧ ¬ J.A l := by
  induction h with
  | nil => intro k l h; cases h
  | int _ ih =>
    intro k l h
    rcases List.mem_cons.mp h with e | e
    · cases e
    · exact ih k l e
  | @lst F k0 l0 ns vs g h1 h2 h3 h4 h5 _ ih =>
    intro k l h
    rcases List.mem_cons.mp h with e | e
    · cases e
      exact ⟨h4, h3, (by rw [h1]; exact fun z => (by cases z)), h5⟩
    · obtain ⟨y1, y2⟩ := ih k l e
      refine ⟨?_, y2⟩
      have y1' : upd F.o l0 (.lst (ns.map V.int)) l = none := y1
      by_cases q : l = l0
      · subst q; rw [upd_same] at y1'; cases y1'
      · rwa [upd_ne q] at y1'
theorem js_inj {J : Jar} {H Z : Hp} {F : Fm} {kvs : List (Sum Int Str × V)} {g : Gh} (h : JsOk J H Z F kvs g) (nd : (kvs.map (·.1)).Nodup) : ∀ k1 k2 l, (k1, V.ref l) ∈ kvs → (k2, V.ref l) ∈ kvs → k1 = k2 := by
  induction h with
  | nil => intro k1 k2 l h; cases h
  | int _ ih =>
    intro k1 k2 l h1 h2
    rw [List.map_cons, List.nodup_cons] at nd
    rcases List.mem_cons.mp h1 with e1 | e1
    · cases e1
    · rcases List.mem_cons.mp h2 with e2 | e2
      · cases e2
      · exact ih nd.2 k1 k2 l e1 e2
  | @lst F k0 l0 ns vs g h1 h2 h3 h4 h5 t ih =>
    intro k1 k2 l m1 m2
    rw [List.map_cons, List.nodup_cons] at nd
    have no : ∀ k, (k, V.ref l0) ∉ vs := fun k hk => by
      have := (js_lists t k l0 hk).1
      have z : upd F.o l0 (.lst (ns.map V.int)) l0 = none := this
      rw [upd_same] at z
      cases z
    rcases List.mem_cons.mp m1 with e1 | e1 <;> rcases List.mem_cons.mp m2 with e2 | e2
    · cases e1; cases e2; rfl
    · cases e1; exact absurd e2 (no k2)
    · cases e2; exact absurd e1 (no k1)
    · exact ih nd.2 k1 k2 l e1 e2
/-- where the lists stand -/
def listsAt (kvs : List (Sum Int Str × V)) (k : Sum Int Str) : Option Addr := (valV kvs k).bind fun v => match v with | .ref l => some l | _ => none
theorem listsAt_mem {kvs : List (Sum Int Str × V)} {k : Sum Int Str} {l : Addr} (h : listsAt kvs k = some l) : (k, V.ref l) ∈ kvs := by
  unfold listsAt valV at h
  cases q : kvs.find? fun kv => decide (kv.1 = k) with
  | none => rw [q] at h; cases h
  | some p =>
    rw [q] at h
    have h1 := List.find?_some q
    have h2 := List.mem_of_find?_eq_some q
    have h3 : p.1 = k := by simpa using h1
    subst h3
    obtain ⟨k0, v⟩ := p
    cases v <;> first | (cases h; exact h2) | cases h
theorem listsAt_cons {kvs : List (Sum Int Str × V)} {k0 k : Sum Int Str} {v : V} {l : Addr} (n : k0 ∉ kvs.map (·.1)) (h : listsAt kvs k = some l) : listsAt ((k0, v) :: kvs) k = some l := by
  have hm := listsAt_mem h
  have ne : ¬ k0 = k := fun e => n (e ▸ List.mem_map_of_mem (f := (·.1)) hm)
  unfold listsAt at h ⊢
  rw [valV_neg (show ¬ (k0, v).1 = k from ne)]
  exact h
theorem js_rel {J : Jar} {H Z : Hp} {F : Fm} {kvs : List (Sum Int Str × V)} {g : Gh} (h : JsOk J H Z F kvs g) (nd : (kvs.map (·.1)).Nodup) : ∀ L : Sum Int Str → Option Addr, (∀ k l, listsAt kvs k = some l → L k = some l) → JRel L H kvs g := by
  induction h with
  | nil => exact fun _ _ => .nil
  | int _ ih =>
    intro L hL
    rw [List.map_cons, List.nodup_cons] at nd
    exact .cons (.inl ⟨_, rfl, rfl⟩) (ih nd.2 L fun k l hk => hL k l (listsAt_cons nd.1 hk))
  | @lst F k0 l0 ns vs g h1 h2 h3 h4 h5 t ih =>
    intro L hL
    rw [List.map_cons, List.nodup_cons] at nd
    refine .cons (.inr ⟨ns, l0, rfl, rfl, hL k0 l0 ?_, h1, h2⟩) (ih nd.2 L fun k l hk => hL k l (listsAt_cons nd.1 hk))
    unfold listsAt
    rw [valV_pos (show (k0, V.ref l0).1 = k0 from rfl)]
    rfl
theorem merge_new : ∀ (kvs acc : List (Sum Int Str × V)), ((acc ++ kvs).map (·.1)).Nodup → mergeK acc kvs = acc ++ kvs
  | [], acc, _ => by simp [mergeK]
  | p :: r, acc, nd => by
    show mergeK (putK acc p.1 p.2) r = _
    have e : putK acc p.1 p.2 = acc ++ [p] := by
      unfold putK
      rw [if_neg]
      intro z
      obtain ⟨q, hq, e⟩ := List.any_eq_true.mp z
      have e' : q.1 = p.1 := by simpa using e
      rw [List.map_append, List.map_cons] at nd
      exact (List.nodup_append.mp nd).2.2 q.1 (List.mem_map_of_mem hq) p.1 List.mem_cons_self e'
    rw [e, merge_new r (acc ++ [p]) (by rw [List.append_assoc]; exact nd), List.append_assoc]
    rfl
end G

set_option linter.all false
set_option maxRecDepth 100000
set_option Elab.async false
/-! St: the def that makes the random state keeps its promise. -/
namespace G
open PySem PySem.Spec PyProof.Rows L2

def jarK (dk : Bool) (a : Addr) (L : Sum Int Str → Option Addr) : Jar := match dk with | true => jarD a L | false => jarL a L
theorem jarK_ok (dk : Bool) (a : Addr) (L : Sum Int Str → Option Addr) : JFacts (jarK dk a L) a dk := by cases dk with | true => exact jarD_ok a L | false => exact jarL_ok a L
/-- what making the random state leaves -/
structure MkOut (J : Jar) (dk : Bool) (H Z : Hp) (p : Addr) (L : Sum Int Str → Option Addr) (g : Gh) (H' Z' : Hp) : Prop where
  same : Same Z Z'
  sub : Same Z' H'
  zs : ∀ a xs, Z' a = some (.lst xs) ∨ Z' a = some (.tup xs) → xs.length ≤ sizeLine
  zo : ∀ a o, Z' a = some o → (∃ xs, o = .lst xs) ∨ (∃ xs, o = .tup xs) ∨ o = .dK []
  frame : ∀ b o, H b = some o → ¬ J.A b → H' b = some o
  jp : ∃ g', J.P g' H'
  ng : ∀ b, H b ≠ none → Z b = none → Z' b = none
  new : (jarK dk p L).P g H'
  fresh : ∀ b, (jarK dk p L).A b → H b = none ∧ Z' b = none
section
variable {cf : Cfg} {J : Jar} {XR : XRT} {C : Calls} {lv : Nat} {X : Cx} {S : Sc} {W : WX} {T : Nat → Nat → Bool} (G : Good cf J XR C lv X S) (hC : CMono C) (tk : Takes X W) (po : PassesOwn (model X.prog X.w) X.A X.env X.xe) {ad : Nat → Addr} (B : Bod cf J XR ad T X S)
include G hC tk po B
/-- checked statements, then further ones -/
theorem snd_app : ∀ (pre : Sts) {xs ys : List Stmt} {t : TS}, chkSs cf X.N S pre xs = true → PSs X ys t →
    PSs X (xs ++ ys) (fun D σ H => ∃ F Z r k, Rel X.K J F σ H Z r ∧ EndsOk X.K J XR F { D with nx := t D } Z W k ∧ stsW C T pre r k)
  | .nil, [], ys, t, h, hy => hy.imp fun pins s D σ H I ⟨F, Z, r, k, R, e, q⟩ => by
    unfold stsW at q
    exact e.nx r q σ H Z (.refl _) R
  | .cons a as, x :: xs, ys, t, h, hy => by
    unfold chkSs at h
    refine (pss_cons (snd_S (T := T) hC a G tk po B (and2 h).1) (snd_app as (and2 h).2 hy)).imp fun pins s D σ H I ⟨F, Z, r, k, R, e, q⟩ => ?_
    unfold stsW at q
    refine ⟨F, Z, r, { k with nx := fun r1 => stsW C T as r1 k }, R, ⟨fun r1 h1 σ1 H1 Z1 s1 R1 => ?_, e.rt, e.bk, e.ct, e.ex⟩, q⟩
    exact ⟨F, Z1, r1, k, R1, e.mono s1, h1⟩
  | .nil, _ :: _, _, _, h, _ => by unfold chkSs at h; cases h
  | .cons _ _, [], _, _, h, _ => by unfold chkSs at h; cases h
end
/-- the display of the fields -/
def chkDisp (cf : Cfg) (N : List Str) (S : Sc) : List (Sum Int Str × Ex) → List (Option Expr) → List Expr → Bool
  | [], [], [] => true
  | (.inr k, e) :: es, some (.Constant (.str x) _ _) :: ks, v :: vs => decide (k = x) && (chkE cf N S e v && chkDisp cf N S es ks vs)
  | _, _, _ => false
theorem chkDisp_len {cf : Cfg} {N : List Str} {S : Sc} : ∀ {es : List (Sum Int Str × Ex)} {ks : List (Option Expr)} {vs : List Expr}, chkDisp cf N S es ks vs = true → ks.length = es.length ∧ vs.length = es.length ∧ ks.all (·.isSome) = true
  | [], [], [], _ => ⟨rfl, rfl, rfl⟩
  | (.inr k, e) :: es, some (.Constant (.str x) n p) :: ks, v :: vs, h => by
    unfold chkDisp at h
    obtain ⟨h1, h2, h3⟩ := chkDisp_len (and2 (and2 h).2).2
    exact ⟨by rw [List.length_cons, h1]; rfl, by rw [List.length_cons, h2]; rfl, by rw [List.all_cons, h3]; rfl⟩
theorem chkDisp_keys {cf : Cfg} {N : List Str} {S : Sc} : ∀ {es : List (Sum Int Str × Ex)} {ks : List (Option Expr)} {vs : List Expr}, chkDisp cf N S es ks vs = true → ∀ y ∈ es, ∃ x, y.1 = Sum.inr x
  | [], [], [], _ => fun y hy => (List.not_mem_nil hy).elim
  | (.inr k, e) :: es, some (.Constant (.str x) n p) :: ks, v :: vs, h => by
    unfold chkDisp at h
    intro y hy
    rcases List.mem_cons.mp hy with rfl | hy
    · exact ⟨k, rfl⟩
    · exact chkDisp_keys (and2 (and2 h).2).2 y hy
section
variable {cf : Cfg} {J : Jar} {XR : XRT} {C : Calls} {lv : Nat} {X : Cx} {S : Sc} {W : WX} (G : Good cf J XR C lv X S) (hC : CMono C)
include G hC
theorem pps_disp (tk : Takes X noW) {pos : Pos} : ∀ {es : List (Sum Int Str × Ex)} {ks : List (Option Expr)} {vs : List Expr}, chkDisp cf X.N S es ks vs = true → PPs X pos ks vs (es.map fun p => (tC (L2.kV p.1), lE X.K J XR C noW p.2))
  | [], [], [], _ => pps_nil
  | (.inr k, e) :: es, some (.Constant (.str x) n p) :: ks, v :: vs, h => by
    unfold chkDisp at h
    cases of_decide_eq_true (and2 h).1
    exact pps_cons pe_str (snd_E hC e G tk (and2 (and2 h).2).1).1 (pps_disp tk (and2 (and2 h).2).2)
end
/-- the items of a list display -/
def chkDispL (cf : Cfg) (N : List Str) (S : Sc) : Nat → List (Sum Int Str × Ex) → List Expr → Bool
  | _, [], [] => true
  | i, (k, e) :: es, v :: vs => decide (k = .inl (i : Int)) && (notStar v && (chkE cf N S e v && chkDispL cf N S (i + 1) es vs))
  | _, _, _ => false
theorem chkDispL_keys {cf : Cfg} {N : List Str} {S : Sc} : ∀ {i : Nat} {es : List (Sum Int Str × Ex)} {vs : List Expr}, chkDispL cf N S i es vs = true → es.map (·.1) = (List.range es.length).map fun (j : Nat) => (Sum.inl ((i + j : Nat) : Int) : Sum Int Str)
  | i, [], [], _ => rfl
  | i, (k, e) :: es, v :: vs, h => by
    unfold chkDispL at h
    have e1 := of_decide_eq_true (and2 h).1
    have ih := chkDispL_keys (and2 (and2 (and2 h).2).2).2
    rw [List.map_cons, ih, List.length_cons, List.range_succ_eq_map, List.map_cons, List.map_map]
    subst e1
    congr 1
    apply List.map_congr_left
    intro j _
    show (Sum.inl ((i + 1 + j : Nat) : Int) : Sum Int Str) = Sum.inl ((i + (j + 1) : Nat) : Int)
    congr 2
    omega
section
variable {cf : Cfg} {J : Jar} {XR : XRT} {C : Calls} {lv : Nat} {X : Cx} {S : Sc} {W : WX} (G : Good cf J XR C lv X S) (hC : CMono C)
include G hC
theorem pa_disp (tk : Takes X noW) : ∀ {i : Nat} {es : List (Sum Int Str × Ex)} {vs : List Expr}, chkDispL cf X.N S i es vs = true → PA X vs (es.foldr (fun p t => tCons (lE X.K J XR C noW p.2) t) tNil)
  | _, [], [], _ => pa_nil
  | i, (k, e) :: es, v :: vs, h => by
    unfold chkDispL at h
    have h := (and2 h).2
    exact pa_cons (snd_E hC e G tk (and2 (and2 h).2).1).1 (pa_disp tk (and2 (and2 h).2).2) (star_of (and2 h).1)
end
section
variable {P : Program} {w : World} {K : PySem.W.Frag} {mg : Str → Option Value} {base : Heap} {cf : Cfg} {J : Jar} {C : Calls} {T : Nat → Nat → Bool}
/-- the making of the random state -/
structure FnM (P : Program) (w : World) (K : PySem.W.Frag) (mg : Str → Option Value) (base : Heap) (J : Jar) (C : Calls) (T : Nat → Nat → Bool) (dk : Bool) (lv : Nat) (a : Addr) (fd : FuncData) (ps : List Str) (nl : Nat) (pre : Sts) (es : List (Sum Int Str × Ex)) : Prop where
  run : ∀ (A : Around) (outer : List Env) (s : Shared) (H : Hp) (args : Args) (us : List Value) (vs : List V) (Q : VK) (E : XK), Room lv A → A.guards = some [] → Env0 P w K mg base A outer s H → BindsTo s fd args (ps.zip us) → Vals vs us → vs.length = ps.length →
    (∃ Z ds g, Inn J g H Z ∧ RepL K J Z vs ds ∧ stsW C T pre (startE nl ds g) { nx := fun r => jarW C es r fun g' => ∀ p L H' Z', MkOut J dk H Z p L g' H' Z' → Q (.ref p) H', rt := fun _ _ => False, bk := fun _ => False, ct := fun _ => False, ex := noX }) →
    codeAny (model P w) A (.call (.ref a) args) (CR (L2.CX P w) outer P w H s Q E) s
theorem fn_mk {lv : Nat} {fa : Addr} {name qual : Str} {params : Arguments} {scope : Scope} {dV kV doc pm cdv ct oc : Value} {an od : Option Addr} {osl : Array (Option Value)} {N ps : List Str} {pre : Sts} {es : List (Sum Int Str × Ex)} {xs : List Stmt} {ks : List (Option Expr)} {vals : List Expr} {p1 p2 : Pos}
    (hC : CMono C) (lk : K.lookup fa = some ⟨oc, od, .func (PySem.W.fnOf name qual params (xs ++ [.Return (some (.Dict ks vals p1)) p2]) scope dV kV doc pm an cdv ct), osl⟩) (hcd : PySem.W.codeIn K cdv qual = true) (FS : FnScope N ps scope)
    (hb : chkSs cf N ⟨scope, defSt scope⟩ pre xs = true) (hd : chkDisp cf N ⟨scope, defSt scope⟩ es ks vals = true) (h0 : es ≠ []) (h15 : es.length ≤ 15) (nd : (es.map (·.1)).Nodup) (facts : Facts cf mg) (jk : cf.jk = none) (sf : cf.js = true → ∃ a, SFacts K J a) (fns : cf.fns = []) (hex : cf.excs = []) :
    FnM P w K mg base J C T true (lv + 1) fa (PySem.W.fnOf name qual params (xs ++ [.Return (some (.Dict ks vals p1)) p2]) scope dV kV doc pm an cdv ct) ps N.length pre es := by
  constructor
  intro A outer s H args us vs Q E hr gd e0 bt rv hl ⟨Z, ds, g, inn, rl, hc⟩
  have KX : K.In s.heap := e0.mod.kin.keeps fun b o e => (e0.bs b o e).1
  have lim : s.heap.NoLimit := e0.mod.nolimit.keeps fun b o e => (e0.bs b o e).1
  have hkind : ∀ y ∈ ps.zip us, scope.names.lookup y.1 = some .local ∨ (scope.names.lookup y.1 = some .cell ∧ ((cellsFrom (s.heap.objs.size + 1) scope.names []).lookup y.1).isSome = true) := by
    rintro ⟨m, v⟩ hy
    rcases FS.par m (List.of_mem_zip hy).1 with q | q
    · exact .inl q
    · exact .inr ⟨q, PySem.W.cellsFrom_some _ _ _ (.inl q)⟩
  refine codeAny_call_function hr.depth (KX _ _ lk) rfl FS.co FS.gen rfl (PySem.W.codeRec_of KX hcd) (bt _ _ _ _ ?_)
  refine wpAny_newFunctionEnv_cells FS.kind hkind fun env he s1 x => ?_
  subst he
  refine ⟨lim.keeps x.toInCall.keep, codeAny_func ?_⟩
  have hpl : ps.length ≤ N.length := by
    have := congrArg List.length FS.pre
    rw [List.length_take] at this
    omega
  generalize hX : cxOf (L2.CX P w) P w K mg base N qual scope fa cdv A outer s H E = X
  have I : Inv X [] (L2.start N vs) H s1 := by rw [← hX]; exact inv_start FS hr.hd e0 hl rv x
  have GX : Good cf J (xrt K J cf.excs fun _ => 0) C lv X ⟨scope, defSt scope⟩ := by
    subst hX
    refine ⟨rfl, hr.deeper _, gd, FS.nd, rfl, FS.kind, fun y hy => ⟨?_, .inl rfl⟩, facts, fun dk h => (by rw [jk] at h; cases h), sf, fun f p hp => (by rw [fns] at hp; simp at hp)⟩
    have hy' : (match scope.names.lookup y with | some .local => true | some .cell => true | _ => false) = true := hy
    show scope.names.lookup y = some .local ∨ scope.names.lookup y = some .cell
    split at hy'
    · exact .inl (by assumption)
    · exact .inr (by assumption)
    · cases hy'
  have po : PassesOwn (model X.prog X.w) X.A X.env X.xe := by subst hX; exact passes_of rfl
  have B : Bod cf J (xrt K J cf.excs fun _ => 0) (fun _ => 0) T X ⟨scope, defSt scope⟩ := by
    subst hX
    exact ⟨rfl, rfl, ⟨fun c x h => (by rw [hex] at h; simp at h), fun c x c' x' h => (by rw [hex] at h; simp at h), fun c x c' x' h => (by rw [hex] at h; simp at h)⟩, rfl⟩
  have hN : X.N = N := by subst hX; rfl
  have hprog : X.prog = P ∧ X.w = w ∧ X.A = A.deeper (envOfC qual scope s.heap.objs.size fa cdv) ∧ X.env = envOfC qual scope s.heap.objs.size fa cdv ∧ X.K = K := by subst hX; exact ⟨rfl, rfl, rfl, rfl, rfl⟩
  obtain ⟨l1, l2, l3⟩ := chkDisp_len hd
  have hlast : PSs X [.Return (some (.Dict ks vals p1)) p2] (tRet (tDisp (es.map fun p => (tC (L2.kV p.1), lE X.K J (xrt K J cf.excs fun _ => 0) C noW p.2)))) :=
    pss_one (ps_ret (pe_disp (pps_disp GX hC noTakes (by rw [hN]; exact hd)) l3 (by rw [l1, l2]) (by intro z; rw [z] at l1; cases es with | nil => exact h0 rfl | cons _ _ => cases l1) (by rw [l1]; exact h15)))
  have hS := snd_app (T := T) GX hC (W := noW) noTakes po B pre (xs := xs) (by rw [hN]; exact hb) hlast
  have run := hS.run [] s1 (L2.start N vs) H { nx := fun _ H' => Q .non H', rt := Q } I ?_
  · rw [hprog.1, hprog.2.1, hprog.2.2.1, hprog.2.2.2.1] at run
    refine wpAny_mono run (fun fl s' hs => ?_) fun e s' hs => by subst hX; exact hs
    have fin : ∀ {σ' : L2.St} {H' : Hp} {v : V} {u : Value}, Inv X [] σ' H' s' → RelV v u → Q v H' → CE outer P w H s Q u s' := fun {σ' H' v u} Jv rv q => by
      subst hX
      exact ⟨v, H', Jv.os, Jv.bare, Jv.base, Jv.hok, rv, q⟩
    cases fl with
    | ret u =>
      obtain ⟨v, σ', H', Jv, rv, q⟩ := hs
      exact fin Jv rv q
    | next =>
      obtain ⟨σ', H', Jv, q⟩ := hs
      exact fin (v := V.non) (u := Value.none) Jv rfl q
    | brk =>
      obtain ⟨_, _, _, q⟩ := hs
      exact q.elim
    | cont =>
      obtain ⟨_, _, _, q⟩ := hs
      exact q.elim
  · rw [hprog.2.2.2.2]
    refine ⟨fmOf H Z, Z, startE N.length ds g, _, rel_start inn rl (by omega), ?_, hc⟩
    refine ⟨fun r q σ H1 Z1 s1 R1 => ?_, fun _ _ q => q.elim, fun _ q => q.elim, fun _ q => q.elim, fun _ _ q => q.elim⟩
    intro p hp
    obtain ⟨zp, fp, np, hs⟩ := R1.fresh hp
    have Rg := (R1.grow (o := .dK []) hp).guard (F := fmOf H Z) upd_same zp hs
    refine jar_pairs hC es Rg q fun g2 kvs H2 Z2 r2 hk s2 R2 ok hm => ?_
    have e1 : H2 p = some (.dK []) := R2.frame p (.dK []) (show upd H p (.dK []) p = _ from upd_same) np
    have ndk : (kvs.map (·.1)).Nodup := by
      rw [hm]
      exact nd
    have hlen : kvs.length ≤ 15 := by
      have := congrArg List.length hm
      rw [List.length_map, List.length_map] at this
      omega
    refine ⟨e1, kvs, rfl, hlen, ?_⟩
    rw [merge_new kvs [] ndk, List.nil_append]
    have zp2 : Z2 p = none := R2.ng p (.inr rfl)
    have hl := js_lists ok
    have lp : ∀ k l, listsAt kvs k = some l → l ≠ p ∧ H l = none ∧ Z2 l = none ∧ H2 l ≠ none := fun k l hk2 => by
      obtain ⟨y1, y2, y3, y4⟩ := hl k l (listsAt_mem hk2)
      have y1' : upd H p (.dK []) l = none := y1
      have ne : l ≠ p := by rintro rfl; rw [upd_same] at y1'; cases y1'
      rw [upd_ne ne] at y1'
      exact ⟨ne, y1', y2, y3⟩
    have jr := (js_rel ok ndk (listsAt kvs) fun _ _ h => h)
    refine hk p (listsAt kvs) _ Z2 ⟨s1.trans s2, fun b o e => ?_, R2.zs, R2.zo, fun b o e n => ?_, ⟨r2.g, J.stable _ H2 _ R2.jar fun b hb => ?_⟩, fun b h1 h2 => R2.ng b (.inl ⟨h1, h2⟩), ?_, fun b hb => ?_⟩
    · have ne : b ≠ p := by rintro rfl; rw [zp2] at e; cases e
      rw [upd_ne ne]
      exact R2.sub b o e
    · have ne : b ≠ p := by
        rintro rfl
        have fp' : H b = none := fp
        rw [fp'] at e
        cases e
      rw [upd_ne ne]
      exact R2.frame b o (show upd H p (.dK []) b = some o by rw [upd_ne ne]; exact e) n
    · rw [upd_ne (by rintro rfl; exact np hb)]
    · refine ⟨?_, ⟨kvs, upd_same, by rw [szl]; omega, jr.mono fun k l hk2 => upd_ne (lp k l hk2).1, fun q hq => ?_⟩, fun k l hk2 => ?_, fun k1 k2 l h1 h2 => js_inj ok ndk k1 k2 l (listsAt_mem h1) (listsAt_mem h2), fun k hk2 => (lp k p hk2).1 rfl⟩
      · unfold KeysOk
        rw [← jr.keys]
        exact ndk
      · have := List.mem_map_of_mem (f := (·.1)) hq
        rw [hm] at this
        obtain ⟨y, hy0, hy⟩ := List.mem_map.mp this
        obtain ⟨x, hx⟩ := chkDisp_keys hd y hy0
        exact ⟨x, hy.symm.trans hx⟩
      · rw [upd_ne (lp k l hk2).1]
        exact (lp k l hk2).2.2.2
    · rcases hb with rfl | ⟨k, hk2⟩
      · exact ⟨fp, zp2⟩
      · exact ⟨(lp k b hk2).2.1, (lp k b hk2).2.2.1⟩
theorem fn_mkL {lv : Nat} {fa : Addr} {name qual : Str} {params : Arguments} {scope : Scope} {dV kV doc pm cdv ct oc : Value} {an od : Option Addr} {osl : Array (Option Value)} {N ps : List Str} {pre : Sts} {es : List (Sum Int Str × Ex)} {xs : List Stmt} {ks : List (Option Expr)} {vals : List Expr} {p1 p2 : Pos}
    (hC : CMono C) (lk : K.lookup fa = some ⟨oc, od, .func (PySem.W.fnOf name qual params (xs ++ [.Return (some (.List vals p1)) p2]) scope dV kV doc pm an cdv ct), osl⟩) (hcd : PySem.W.codeIn K cdv qual = true) (FS : FnScope N ps scope)
    (hb : chkSs cf N ⟨scope, defSt scope⟩ pre xs = true) (hd : chkDispL cf N ⟨scope, defSt scope⟩ 0 es vals = true) (h0 : es ≠ []) (h15 : es.length ≤ 15) (nd : (es.map (·.1)).Nodup) (facts : Facts cf mg) (jk : cf.jk = none) (sf : cf.js = true → ∃ a, SFacts K J a) (fns : cf.fns = []) (hex : cf.excs = []) :
    FnM P w K mg base J C T false (lv + 1) fa (PySem.W.fnOf name qual params (xs ++ [.Return (some (.List vals p1)) p2]) scope dV kV doc pm an cdv ct) ps N.length pre es := by
  constructor
  intro A outer s H args us vs Q E hr gd e0 bt rv hl ⟨Z, ds, g, inn, rl, hc⟩
  have KX : K.In s.heap := e0.mod.kin.keeps fun b o e => (e0.bs b o e).1
  have lim : s.heap.NoLimit := e0.mod.nolimit.keeps fun b o e => (e0.bs b o e).1
  have hkind : ∀ y ∈ ps.zip us, scope.names.lookup y.1 = some .local ∨ (scope.names.lookup y.1 = some .cell ∧ ((cellsFrom (s.heap.objs.size + 1) scope.names []).lookup y.1).isSome = true) := by
    rintro ⟨m, v⟩ hy
    rcases FS.par m (List.of_mem_zip hy).1 with q | q
    · exact .inl q
    · exact .inr ⟨q, PySem.W.cellsFrom_some _ _ _ (.inl q)⟩
  refine codeAny_call_function hr.depth (KX _ _ lk) rfl FS.co FS.gen rfl (PySem.W.codeRec_of KX hcd) (bt _ _ _ _ ?_)
  refine wpAny_newFunctionEnv_cells FS.kind hkind fun env he s1 x => ?_
  subst he
  refine ⟨lim.keeps x.toInCall.keep, codeAny_func ?_⟩
  have hpl : ps.length ≤ N.length := by
    have := congrArg List.length FS.pre
    rw [List.length_take] at this
    omega
  generalize hX : cxOf (L2.CX P w) P w K mg base N qual scope fa cdv A outer s H E = X
  have I : Inv X [] (L2.start N vs) H s1 := by rw [← hX]; exact inv_start FS hr.hd e0 hl rv x
  have GX : Good cf J (xrt K J cf.excs fun _ => 0) C lv X ⟨scope, defSt scope⟩ := by
    subst hX
    refine ⟨rfl, hr.deeper _, gd, FS.nd, rfl, FS.kind, fun y hy => ⟨?_, .inl rfl⟩, facts, fun dk h => (by rw [jk] at h; cases h), sf, fun f p hp => (by rw [fns] at hp; simp at hp)⟩
    have hy' : (match scope.names.lookup y with | some .local => true | some .cell => true | _ => false) = true := hy
    show scope.names.lookup y = some .local ∨ scope.names.lookup y = some .cell
    split at hy'
    · exact .inl (by assumption)
    · exact .inr (by assumption)
    · cases hy'
  have po : PassesOwn (model X.prog X.w) X.A X.env X.xe := by subst hX; exact passes_of rfl
  have B : Bod cf J (xrt K J cf.excs fun _ => 0) (fun _ => 0) T X ⟨scope, defSt scope⟩ := by
    subst hX
    exact ⟨rfl, rfl, ⟨fun c x h => (by rw [hex] at h; simp at h), fun c x c' x' h => (by rw [hex] at h; simp at h), fun c x c' x' h => (by rw [hex] at h; simp at h)⟩, rfl⟩
  have hN : X.N = N := by subst hX; rfl
  have hprog : X.prog = P ∧ X.w = w ∧ X.A = A.deeper (envOfC qual scope s.heap.objs.size fa cdv) ∧ X.env = envOfC qual scope s.heap.objs.size fa cdv ∧ X.K = K := by subst hX; exact ⟨rfl, rfl, rfl, rfl, rfl⟩
  have hlast : PSs X [.Return (some (.List vals p1)) p2] (tRet (tLst (es.foldr (fun p t => tCons (lE X.K J (xrt K J cf.excs fun _ => 0) C noW p.2) t) tNil))) :=
    pss_one (ps_ret (pe_lst (pa_disp GX hC noTakes (by rw [hN]; exact hd))))
  have hS := snd_app (T := T) GX hC (W := noW) noTakes po B pre (xs := xs) (by rw [hN]; exact hb) hlast
  have run := hS.run [] s1 (L2.start N vs) H { nx := fun _ H' => Q .non H', rt := Q } I ?_
  · rw [hprog.1, hprog.2.1, hprog.2.2.1, hprog.2.2.2.1] at run
    refine wpAny_mono run (fun fl s' hs => ?_) fun e s' hs => by subst hX; exact hs
    have fin : ∀ {σ' : L2.St} {H' : Hp} {v : V} {u : Value}, Inv X [] σ' H' s' → RelV v u → Q v H' → CE outer P w H s Q u s' := fun {σ' H' v u} Jv rv q => by
      subst hX
      exact ⟨v, H', Jv.os, Jv.bare, Jv.base, Jv.hok, rv, q⟩
    cases fl with
    | ret u =>
      obtain ⟨v, σ', H', Jv, rv, q⟩ := hs
      exact fin Jv rv q
    | next =>
      obtain ⟨σ', H', Jv, q⟩ := hs
      exact fin (v := V.non) (u := Value.none) Jv rfl q
    | brk =>
      obtain ⟨_, _, _, q⟩ := hs
      exact q.elim
    | cont =>
      obtain ⟨_, _, _, q⟩ := hs
      exact q.elim
  · rw [hprog.2.2.2.2]
    refine ⟨fmOf H Z, Z, startE N.length ds g, _, rel_start inn rl (by omega), ?_, hc⟩
    refine ⟨fun r q σ H1 Z1 s1 R1 => ?_, fun _ _ q => q.elim, fun _ q => q.elim, fun _ q => q.elim, fun _ _ q => q.elim⟩
    refine jar_args hC es R1 q fun g2 kvs H2 Z2 r2 hk s2 R2 ok hm => ?_
    have ndk : (kvs.map (·.1)).Nodup := by
      rw [hm]
      exact nd
    have hlen : kvs.length ≤ 15 := by
      have := congrArg List.length hm
      rw [List.length_map, List.length_map] at this
      omega
    refine ⟨by rw [List.length_map, szl]; omega, fun p hp => ?_⟩
    obtain ⟨zp2, fp, np, hs⟩ := R2.fresh hp
    have fp' : H p = none := fp
    have hl := js_lists ok
    have lp : ∀ k l, listsAt kvs k = some l → l ≠ p ∧ H l = none ∧ Z2 l = none ∧ H2 l ≠ none := fun k l hk2 => by
      obtain ⟨y1, y2, y3, y4⟩ := hl k l (listsAt_mem hk2)
      have y1' : H l = none := y1
      have ne : l ≠ p := by rintro rfl; exact y3 hp
      exact ⟨ne, y1', y2, y3⟩
    have jr := (js_rel ok ndk (listsAt kvs) fun _ _ h => h)
    refine hk p (listsAt kvs) _ Z2 ⟨s1.trans s2, fun b o e => ?_, R2.zs, R2.zo, fun b o e n => ?_, ⟨r2.g, J.stable _ H2 _ R2.jar fun b hb => ?_⟩, fun b h1 h2 => R2.ng b ⟨h1, h2⟩, ?_, fun b hb => ?_⟩
    · have ne : b ≠ p := by rintro rfl; rw [zp2] at e; cases e
      rw [upd_ne ne]
      exact R2.sub b o e
    · have ne : b ≠ p := by
        rintro rfl
        rw [fp'] at e
        cases e
      rw [upd_ne ne]
      exact R2.frame b o e n
    · rw [upd_ne (by rintro rfl; exact np hb)]
    · refine ⟨?_, ⟨kvs, upd_same, jr.mono fun k l hk2 => upd_ne (lp k l hk2).1, ?_⟩, fun k l hk2 => ?_, fun k1 k2 l h1 h2 => js_inj ok ndk k1 k2 l (listsAt_mem h1) (listsAt_mem h2), fun k hk2 => (lp k p hk2).1 rfl⟩
      · unfold KeysOk
        rw [← jr.keys]
        exact ndk
      · have e1 := chkDispL_keys hd
        have e2 : kvs.length = es.length := by
          have := congrArg List.length hm
          simpa using this
        rw [hm, e1, e2]
        unfold keysL
        apply List.map_congr_left
        intro j _
        rw [Nat.zero_add]
      · rw [upd_ne (lp k l hk2).1]
        exact (lp k l hk2).2.2.2
    · rcases hb with rfl | ⟨k, hk2⟩
      · exact ⟨fp', zp2⟩
      · exact ⟨(lp k b hk2).2.1, (lp k b hk2).2.2.1⟩
end
end G

set_option linter.all false
set_option maxRecDepth 100000
set_option Elab.async false
/-! Su: the law's own call. -/
namespace G
open PySem PySem.Spec PyProof.Rows L2
/-- the law's def, handed a list of whole numbers -/
structure LawG (P : Program) (w : World) (K : PySem.W.Frag) (mg : Str → Option Value) (base : Heap) (k : Nat) (fa : Addr) (fd : FuncData) (x : Str) (n : Nat) : Prop where
  run : ∀ (A : Around) (s : Shared) (H : Hp) (a : Addr) (ns : List Int), A.guards = some [] → Room k A → Env0 P w K mg base A [] s H → BindsTo s fd ⟨[.ref a], []⟩ [(x, .ref a)] → ns.length ≤ n → SqL K H a (ns.map V.int) →
    codeAny (model P w) A (.call (.ref fa) ⟨[.ref a], []⟩) (CR (L2.CX P w) [] P w H s (fun v _ => v = .bl true) fun _ _ _ => False) s
theorem cx_false {P : Program} {w : World} {H : Hp} {s : Shared} {e : Value} {s' : Shared} (h : L2.CX P w [] H s (fun _ _ _ => False) e s') : False := by
  obtain ⟨_, _, _, _, _, h⟩ := h
  exact h.2.2.2.2.2.2.2
theorem guards_caller : callerA.guards = some [] := rfl
theorem law_g {P : Program} {w : World} {K : PySem.W.Frag} {mg mb : Str → Option Value} {k n : Nat} {fa a : Addr} {fd : FuncData} {x : Str} {st : Shared} {us : List Value} {ns : List Int}
    (hK : K.In st.heap) (hG : st.heap.Ns mainGlobals mg) (hB : st.heap.Ns builtinsNs mb) (hBB : ∀ y : Str, y ≠ "__name__" → mb y = bootBuiltins y) (hL : st.heap.NoLimit) (hgen : st.gens = #[])
    (hA : st.heap.get? a = some { cls := .type "list", data := .seq us.toArray }) (hI : IntsAre us ns) (hn : ns.length ≤ n) (hz : ns.length ≤ sizeLine) (hR : Room k callerA)
    (hF : ∀ b0 : Heap, K.In b0 → b0.Ns mainGlobals mg → LawG P w K mg b0 k fa fd x n) (hBd : ∀ (s0 : Shared) (u : Value), BindsTo s0 fd ⟨[u], []⟩ [(x, u)]) :
    codeAny (model P w) callerA (.call (.ref fa) ⟨[.ref a], []⟩) (fun z s' => z = .ok (.ret (.bool true)) ∧ OldK st.heap s'.heap ∧ s'.os = st.os ∧ AllBare s'.gens) st := by
  have vi := vals_ints hI
  have main : ∀ H : Hp, Only H → SqL K H a (ns.map V.int) → HOk P w H st.heap → (∀ b, H b ≠ none → b = a) → (H a ≠ none → K.lookup a = none) →
      codeAny (model P w) callerA (.call (.ref fa) ⟨[.ref a], []⟩) (fun z s' => z = .ok (.ret (.bool true)) ∧ OldK st.heap s'.heap ∧ s'.os = st.os ∧ AllBare s'.gens) st := by
    intro H only sq hok own notK
    have keepD : ∀ {b : Addr} {o : Obj} {es : Array DictEntry} {ep : Nat}, st.heap.get? b = some o → o.data = .dict es ep → H b = none := by
      intro b o es ep e d
      cases hb : H b with
      | none => rfl
      | some u0 =>
        obtain rfl : b = a := own b (by rw [hb]; exact fun z => by cases z)
        rw [hA] at e
        cases e
        exact absurd (show Data.seq us.toArray _ = Data.dict es ep from d) (fun z => by cases z)
    have ns_of : ∀ {b : Addr} {m : Str → Option Value}, st.heap.Ns b m → (hidT st.heap H).Ns b m := by
      rintro b m ⟨o, es, ep, e, d, r⟩
      exact ⟨o, es, ep, hidT_get e (keepD e d), d, r⟩
    have kb : K.In (hidT st.heap H) := by
      intro b o e
      refine hidT_get (hK b o e) ?_
      cases hb : H b with
      | none => rfl
      | some u0 =>
        obtain rfl : b = a := own b (by rw [hb]; exact fun z => by cases z)
        rw [notK (by rw [hb]; exact fun z => by cases z)] at e
        cases e
    have md : Mod K mg (hidT st.heap H) := by
      obtain ⟨mc, y1, y2⟩ := hL
      exact ⟨kb, ns_of hG, ⟨mb, ns_of hB, hBB⟩, ⟨mc, ns_of y1, y2⟩⟩
    have env : Env0 P w K mg (hidT st.heap H) callerA [] st H :=
      ⟨rfl, md, fun b o e => of_hidT e, Nat.le_of_eq (hidT_size _ _), trivial, fun b hb => (by cases hb), hok, .of_eq hgen⟩
    refine codeAny_mono ((hF _ kb (ns_of hG)).run callerA st H a ns guards_caller hR env (hBd st (.ref a)) hn sq) fun z s' hz' => ?_
    cases z with
    | error e => exact (cx_false hz').elim
    | ok fl =>
      cases fl with
      | next => exact hz'.elim
      | brk => exact hz'.elim
      | cont => exact hz'.elim
      | ret u =>
        obtain ⟨v, H2, os, bare, un, hok2, rel, (rfl : v = .bl true)⟩ := hz'
        obtain rfl : u = Value.bool true := rel
        refine ⟨rfl, OldK.of_keep fun b o e => ?_, os, bare⟩
        cases hb : H b with
        | none => exact un.keep b o e hb (by intro z; cases z) (by simp)
        | some u0 =>
          rcases only b with z | ⟨ob, xs, z⟩
          · rw [hb] at z
            cases z
          · obtain ⟨y1, _⟩ := hok b _ z
            obtain ⟨y2, _⟩ := hok2 b _ (un.frzs b ob _ z)
            rw [e] at y1
            cases y1
            exact y2
  cases hk : K.lookup a with
  | some o =>
    have e := hK a o hk
    rw [hA] at e
    cases e
    exact main (fun _ => none) (fun _ => .inl rfl) (.inr ⟨_, us.toArray, _, hk, rfl, rfl, rfl, by rw [List.size_toArray, hI.length]; exact hz, by simpa using vi⟩) (fun b u0 z => by cases z) (fun b z => absurd rfl z) fun z => absurd rfl z
  | none =>
    refine main (fun b => if b = a then some (.frz { cls := .type "list", data := .seq us.toArray } (.lst (ns.map V.int))) else none) (fun b => ?_) (.inl (.inr ⟨_, if_pos rfl⟩)) (fun b u0 z => ?_) (fun b z => ?_) fun _ => hk
    · by_cases hb : b = a
      · exact .inr ⟨_, _, if_pos hb⟩
      · exact .inl (if_neg hb)
    · by_cases hb : b = a
      · have z2 := (if_pos hb).symm.trans z
        cases z2
        subst hb
        exact ⟨hA, by rw [List.length_map]; exact hz, us, _, vi, hA⟩
      · have z2 := (if_neg hb).symm.trans z
        cases z2
    · by_cases hb : b = a
      · exact hb
      · exact absurd (if_neg hb) z
theorem walk_g {l : PySem.W.OpenLaw} {n k : Nat} {q : Program} {loose : List Str} {XP : (Str → Option Value) → Heap → Prop} {YP : World → Heap → Prop} {d : DefRec} {K : Params → PySem.W.Frag} {x : Str}
    (hn : l.most = some n) (hn2 : n ≤ sizeLine) (hdf : d.params.defaults = []) (hr : Room k callerA) (hY : ∀ (w : World) (h : Heap), YP w h → (K w.params).In h)
    (hF : ∀ (w : World) (mg : Str → Option Value) (fa : Addr) (h : Heap), (K w.params).In h → h.Ns mainGlobals mg → mg d.name = some (.ref fa) →
      ∃ fd : FuncData, (∀ (s : Shared) (u : Value), BindsTo s fd ⟨[u], []⟩ [(x, u)]) ∧ ∀ b0 : Heap, (K w.params).In b0 → b0.Ns mainGlobals mg → LawG l.prog w (K w.params) mg b0 k fa fd x n) :
    PySem.W.WalkO q loose XP YP l.row.toRowW d [] (fun f vs => PySem.call f vs) := by
  refine Att.attach_call hn hdf fun w s0 s1 mg mb fa o pm cd doc a us ns G0 Y ho hd hcd hmg hobj hints hlen hg => ?_
  have hk := hY w _ Y
  obtain ⟨fd, hb, hf⟩ := hF w mg fa _ hk G0.T.g hmg
  exact law_g hk G0.T.g G0.T.b G0.T.builtins G0.T.nolimit hg hobj hints hlen (Nat.le_trans hlen hn2) hr hf hb
end G

set_option linter.all false
set_option maxRecDepth 100000
set_option Elab.async false
/-! Sv: the law's def from its core term. -/
namespace G
open PySem PySem.Spec PyProof.Rows L2

theorem sqL_keep {K : PySem.W.Frag} {H H' : Hp} {a : Addr} {xs : List V} (h : SqL K H a xs) (e : H a ≠ none → H' a = H a) : SqL K H' a xs := by
  rcases h with (h | ⟨o, h⟩) | h
  · exact .inl (.inl (by rw [e (by rw [h]; exact fun z => by cases z)]; exact h))
  · exact .inl (.inr ⟨o, by rw [e (by rw [h]; exact fun z => by cases z)]; exact h⟩)
  · exact .inr h
/-- the script, handed to the def that makes the random state -/
def jarS (K : PySem.W.Frag) (H : Hp) (a : Addr) (ns : List Int) : Jar where
  at_ := some a
  L := fun _ => none
  A := fun b => b = a ∧ H a ≠ none
  P := fun g H' => g = [(.inl 0, .list (ns.map .int))] ∧ (H a ≠ none → H' a = H a)
  there := fun g H' b ⟨_, h⟩ ⟨e, n⟩ => by subst e; rw [h n]; exact n
  stable := fun g H1 H2 ⟨h0, h⟩ s => ⟨h0, fun n => (s a ⟨rfl, n⟩).trans (h n)⟩
theorem jarS_ok {K : PySem.W.Frag} {H : Hp} {a : Addr} {ns : List Int} (h : SqL K H a (ns.map V.int)) (hz : ns.length ≤ sizeLine) : SFacts K (jarS K H a ns) a where
  at_ := rfl
  get := fun g H' ds ⟨e, k⟩ hg => by
    subst e
    have : gget [((.inl 0 : Sum Int Str), PyData.list (ns.map .int))] (.inl 0) = some (.list (ns.map .int)) := rfl
    rw [this] at hg
    cases hg
    exact ⟨ns, rfl, sqL_keep h k, hz⟩
def lawE (nl : Nat) (g : Gh) : En := ⟨.un :: .fz JAR :: List.replicate (nl - 2) .un, g⟩
theorem rd_law {nl : Nat} {g : Gh} {i : Nat} : rd (lawE nl g) i = if i = 1 then .fz JAR else .un := by
  unfold rd lawE
  match i with
  | 0 => rfl
  | 1 => rfl
  | i + 2 =>
    rw [if_neg (by omega)]
    show (List.replicate (nl - 2) Slot.un).getD i .un = .un
    rw [List.getD_eq_getElem?_getD, List.getElem?_replicate]
    split <;> rfl
theorem rel_law {dk : Bool} {K : PySem.W.Frag} {H H' Z' : Hp} {a p : Addr} {L : Sum Int Str → Option Addr} {g : Gh} {ns : List Int} {N : List Str} (hN : 2 ≤ N.length) (m : MkOut (jarS K H a ns) dk H (fun _ => none) p L g H' Z') :
    Rel K (jarK dk p L) (fmOf H fun _ => none) ((L2.start N [V.ref a]).set 1 (some (.ref p))) H' Z' (lawE N.length g) := by
  have hl : (L2.start N [V.ref a]).length = N.length := by
    unfold L2.start
    rw [List.length_append, List.length_map, List.length_replicate]
    show 1 + (N.length - 1) = N.length
    omega
  refine ⟨m.sub, fun b o e n => ?_, m.new, fun b hb => (m.fresh b hb).2, ?_, fun i d e => ?_, fun i ds e => ?_, fun i j ds es x e => ?_, m.zs, m.zo, fun b hb => m.ng b hb.1 hb.2, fun b hb => hb.1, fun i k e => ?_⟩
  · have e' : H b = some o := e
    by_cases q : (jarS K H a ns).A b
    · obtain ⟨rfl, q⟩ := q
      obtain ⟨g', _, h⟩ := m.jp
      rw [h q]
      exact e'
    · exact m.frame b o e' q
  · rw [List.length_set, hl]
    unfold lawE En.length
    simp only [List.length_cons, List.length_replicate]
    omega
  · rw [rd_law] at e
    split at e
    · rename_i hi
      subst hi
      cases e
      exact ⟨_, List.getElem?_set_self (by rw [hl]; omega), .jar (jarK_ok dk p L).at_⟩
    · cases e
  · rw [rd_law] at e
    split at e <;> cases e
  · rw [rd_law] at e
    split at e <;> cases e
  · rw [rd_law] at e
    split at e <;> cases e
/-- the law's def: its first statement makes the random state -/
def chkLaw (cf : Cfg) (N : List Str) (mk : Str) (b : Sts) (st : Stmt) : Bool :=
  scB N ["script"] (defScope st) && (plainB (defArgs st) ["script"] && (match defBody st with
    | .Assign [.Name j _] (.Call (.Name m _) [.Name sc _] [] _) _ :: rest => decide (N[0]? = some sc) && (decide (N[1]? = some j) && (decide (m = mk) && (glB ⟨defScope st, defSt (defScope st)⟩ m && (okName m && (visB ⟨defScope st, defSt (defScope st)⟩ sc && (okName sc && (defSt (defScope st) j && chkSs cf N ⟨defScope st, defSt (defScope st)⟩ b rest)))))))
    | _ => false))
def chkMk (cf : Cfg) (N : List Str) (dk : Bool) (pre : Sts) (es : List (Sum Int Str × Ex)) (st : Stmt) : Bool :=
  scB N ["script"] (defScope st) && (plainB (defArgs st) ["script"] && ((match (defBody st).getLast? with
    | some (.Return (some (.Dict ks vals _)) _) => dk && (chkSs cf N ⟨defScope st, defSt (defScope st)⟩ pre (defBody st).dropLast && chkDisp cf N ⟨defScope st, defSt (defScope st)⟩ es ks vals)
    | some (.Return (some (.List vals _)) _) => !dk && (chkSs cf N ⟨defScope st, defSt (defScope st)⟩ pre (defBody st).dropLast && chkDispL cf N ⟨defScope st, defSt (defScope st)⟩ 0 es vals)
    | _ => false) && (decide (es ≠ []) && (decide (es.length ≤ 15) && (decide (es.map (·.1)).Nodup && (decide (cf.jk = none) && (cf.excs.isEmpty && (cf.fns.isEmpty && cf.js))))))))
section
variable {P : Program} {w : World} {K : PySem.W.Frag} {mg : Str → Option Value} {base : Heap}
theorem mk_at {cf : Cfg} {N : List Str} {dk : Bool} {pre : Sts} {es : List (Sum Int Str × Ex)} {st : Stmt} {nm : Str} {f : Addr} {J : Jar} {C : Calls} {T : Nat → Nat → Bool} {lv : Nat} (hC : CMono C) (KX : K.In base) (Gm : base.Ns mainGlobals mg) (at_ : DefAt K nm st [] f) (hc : chkMk cf N dk pre es st = true) (facts : Facts cf mg) (sf : ∃ a, SFacts K J a) :
    ∃ fd, mg nm = some (.ref f) ∧ PySem.W.keepIn K (.ref f) = true ∧ Binds K fd ["script"] [] ∧ FnM P w K mg base J C T dk (lv + 1) f fd ["script"] N.length pre es := by
  obtain ⟨oc, od, dV, kV, doc, pm, an, cdv, ct, osl, a1, l1, c1, k1, v1⟩ := at_
  obtain rfl : dV = .none := by
    rcases v1 with ⟨_, e⟩ | ⟨n, T, o, k, t, e, _⟩
    · exact e
    · cases e
  unfold chkMk at hc
  obtain ⟨h1, hc⟩ := and2 hc
  obtain ⟨h2, hc⟩ := and2 hc
  obtain ⟨h3, hc⟩ := and2 hc
  obtain ⟨h4, hc⟩ := and2 hc
  obtain ⟨h5, hc⟩ := and2 hc
  obtain ⟨h6, hc⟩ := and2 hc
  obtain ⟨h7, hc⟩ := and2 hc
  obtain ⟨hex, hc⟩ := and2 hc
  obtain ⟨h8, h9⟩ := and2 hc
  split at h3
  · rename_i ks vals p1 p2 hl
    obtain ⟨hdk, g3⟩ := and2 h3
    clear h3
    subst hdk
    obtain ⟨h3, h10⟩ := and2 g3
    obtain ⟨xs, eb⟩ := List.getLast?_eq_some_iff.mp hl
    rw [eb, List.dropLast_concat] at h3
    rw [eb] at l1
    have pl := plain_of (nm := nm) (qual := nm) (body := xs ++ [.Return (some (.Dict ks vals p1)) p2]) (scope := defScope st) (kV := kV) (doc := doc) (pm := pm) (cdv := cdv) (ct := ct) (an := an) h2
    exact ⟨_, PySem.W.mg_of KX Gm a1, k1, binds_of pl (by decide), fn_mk hC l1 c1 (scB_of h1) h3 h10 (of_decide_eq_true h4) (of_decide_eq_true h5) (of_decide_eq_true h6) facts (of_decide_eq_true h7) (fun _ => sf) (List.isEmpty_iff.mp h8) (List.isEmpty_iff.mp hex)⟩
  · rename_i vals p1 p2 hl
    obtain ⟨hdk, g3⟩ := and2 h3
    clear h3
    have hdk : dk = false := by simpa using hdk
    subst hdk
    obtain ⟨h3, h10⟩ := and2 g3
    obtain ⟨xs, eb⟩ := List.getLast?_eq_some_iff.mp hl
    rw [eb, List.dropLast_concat] at h3
    rw [eb] at l1
    have pl := plain_of (nm := nm) (qual := nm) (body := xs ++ [.Return (some (.List vals p1)) p2]) (scope := defScope st) (kV := kV) (doc := doc) (pm := pm) (cdv := cdv) (ct := ct) (an := an) h2
    exact ⟨_, PySem.W.mg_of KX Gm a1, k1, binds_of pl (by decide), fn_mkL (ks := []) hC l1 c1 (scB_of h1) h3 h10 (of_decide_eq_true h4) (of_decide_eq_true h5) (of_decide_eq_true h6) facts (of_decide_eq_true h7) (fun _ => sf) (List.isEmpty_iff.mp h8) (List.isEmpty_iff.mp hex)⟩
  · cases h3
/-- the law's def -/
theorem law_df {cf cf0 : Cfg} {N N0 : List Str} {mk : Str} {dk : Bool} {b pre : Sts} {es : List (Sum Int Str × Ex)} {st st0 : Stmt} {fa f0 : Addr} {T : Tb} {T0 : Nat → Nat → Bool} {ad : Nat → Addr} {m n : Nat} (ok : T.Ok) (hz : n ≤ sizeLine)
    (at_ : DefAt K "law" st [] fa) (hc : chkLaw cf N mk b st = true) (facts : Facts cf mg) (js : cf.js = false) (jk : ∀ dk', cf.jk = some dk' → dk' = dk)
    (at0 : DefAt K mk st0 [] f0) (hc0 : chkMk cf0 N0 dk pre es st0 = true) (facts0 : Facts cf0 mg)
    (EF : ExcF P K mg cf.excs T.sub ad) (ds : Nat → Option (Df × Stmt × Addr)) (hd : ∀ g p, cf.fns[g]? = some p → ∃ d st f, ds g = some (d, st, f) ∧ p = (d.nm, d.ps) ∧ cf.dfl.getD g [] = d.dv ∧ T.fn g = some (.df d.ps.length d.N.length d.b) ∧ DefAt K d.nm st d.dv f ∧ chkDf cf d st = true)
    (core : ∀ ns : List Int, ns.length ≤ n → stsW (fun _ _ _ _ _ => False) T0 pre (startE N0.length [JAR] [(.inl 0, .list (ns.map .int))])
      { nx := fun r => jarW (fun _ _ _ _ _ => False) es r fun g => stsW (callW T m) T.sub b (lawE N.length g) { nx := fun _ => False, rt := fun d _ => d = .bool true, bk := fun _ => False, ct := fun _ => False, ex := noX }, rt := fun _ _ => False, bk := fun _ => False, ct := fun _ => False, ex := noX }) :
    ∃ fd, (∀ (s : Shared) (u : Value), BindsTo s fd ⟨[u], []⟩ [("script", u)]) ∧ ∀ base : Heap, K.In base → base.Ns mainGlobals mg → LawG P w K mg base (m + 2) fa fd "script" n := by
  obtain ⟨oc, od, dV, kV, doc, pm, an, cdv, ct, osl, a1, l1, c1, k1, v1⟩ := at_
  obtain rfl : dV = .none := by
    rcases v1 with ⟨_, e⟩ | ⟨n, T, o, k, t, e, _⟩
    · exact e
    · cases e
  unfold chkLaw at hc
  obtain ⟨h1, hc⟩ := and2 hc
  obtain ⟨h2, h3⟩ := and2 hc
  have FS := scB_of h1
  split at h3
  · rename_i j pj mm pmm sc psc pc pa rest eb
    obtain ⟨h4, h3⟩ := and2 h3
    obtain ⟨h5, h3⟩ := and2 h3
    obtain ⟨h6, h3⟩ := and2 h3
    obtain ⟨h7, h3⟩ := and2 h3
    obtain ⟨h8, h3⟩ := and2 h3
    obtain ⟨h9, h3⟩ := and2 h3
    obtain ⟨h10, h3⟩ := and2 h3
    obtain ⟨h11, h12⟩ := and2 h3
    have em : mm = mk := of_decide_eq_true h6
    subst em
    rw [eb] at l1
    have pl := plain_of (nm := "law") (qual := "law") (body := .Assign [.Name j pj] (.Call (.Name mm pmm) [.Name sc psc] [] pc) pa :: rest) (scope := defScope st) (kV := kV) (doc := doc) (pm := pm) (cdv := cdv) (ct := ct) (an := an) h2
    refine ⟨_, fun s u => .of_eq (by have := kbind pl (us := [u]) (ws := []) (ks := []) (show kOk ["script"] 1 [] = true by decide) rfl; exact this), fun base KX Gm => ⟨fun A s H a ns gd hr e0 bt hn sq => ?_⟩⟩
    have hC0 : CMono (fun _ _ _ _ _ => False) := fun _ _ _ _ _ _ _ _ _ q => q
    obtain ⟨fd0, g0, kp0, b0, M⟩ := mk_at (J := jarS K H a ns) (C := fun _ _ _ _ _ => False) (T := T0) (P := P) (w := w) (lv := m) hC0 KX Gm at0 hc0 facts0 ⟨a, jarS_ok sq (Nat.le_trans hn hz)⟩
    have KH : K.In s.heap := e0.mod.kin.keeps fun b o e => (e0.bs b o e).1
    have lim : s.heap.NoLimit := e0.mod.nolimit.keeps fun b o e => (e0.bs b o e).1
    have hkind : ∀ y ∈ (["script"] : List Str).zip [Value.ref a], (defScope st).names.lookup y.1 = some .local ∨ ((defScope st).names.lookup y.1 = some .cell ∧ ((cellsFrom (s.heap.objs.size + 1) (defScope st).names []).lookup y.1).isSome = true) := by
      rintro ⟨x, v⟩ hy
      rcases FS.par x (List.of_mem_zip hy).1 with q | q
      · exact .inl q
      · exact .inr ⟨q, PySem.W.cellsFrom_some _ _ _ (.inl q)⟩
    refine codeAny_call_function hr.depth (KH _ _ l1) rfl FS.co FS.gen rfl (PySem.W.codeRec_of KH c1) (bt _ _ _ _ ?_)
    refine wpAny_newFunctionEnv_cells FS.kind hkind fun env he s1 x => ?_
    subst he
    refine ⟨lim.keeps x.toInCall.keep, codeAny_func ?_⟩
    have hN2 : 2 ≤ N.length := by
      have := (List.getElem?_eq_some_iff.mp (of_decide_eq_true h5)).1
      omega
    generalize hX : cxOf (L2.CX P w) P w K mg base N "law" (defScope st) fa cdv A [] s H (fun _ _ _ => False) = X
    have rv : Vals [V.ref a] [Value.ref a] := .cons rfl .nil
    have I : Inv X [] (L2.start N [V.ref a]) H s1 := by rw [← hX]; exact inv_start FS hr.hd e0 rfl rv x
    have GX : ∀ p L, Good cf (jarK dk p L) (xrt K (jarK dk p L) cf.excs ad) (callW T m) (m + 1) X ⟨defScope st, defSt (defScope st)⟩ := by
      intro p L
      have fns := all_fns (P := P) (w := w) (XR := xrt K (jarK dk p L) cf.excs ad) (J := jarK dk p L) ok KX Gm facts (fun dk' h => ⟨p, by rw [jk dk' h]; exact jarK_ok dk p L⟩) (fun h => by rw [js] at h; cases h) EF rfl ds hd m
      subst hX
      refine ⟨rfl, hr.deeper _, gd, FS.nd, rfl, FS.kind, fun y hy => ⟨?_, .inl rfl⟩, facts, fun dk' h => ⟨p, by rw [jk dk' h]; exact jarK_ok dk p L⟩, fun h => (by rw [js] at h; cases h), fun g q hq => ?_⟩
      · have hy' : (match (defScope st).names.lookup y with | some .local => true | some .cell => true | _ => false) = true := hy
        show (defScope st).names.lookup y = some .local ∨ (defScope st).names.lookup y = some .cell
        split at hy'
        · exact .inl (by assumption)
        · exact .inr (by assumption)
        · cases hy'
      · obtain ⟨f, fd, y1, y2, y3, y4, y5⟩ := (fns g q hq).ex
        exact ⟨f, fd, y1, y2, y3, ⟨fun A' o' s' H' ar us vs Q' E' hr' => y4.run A' o' s' H' ar us vs Q' E' (hr'.mono (by omega))⟩, y5⟩
    have po : PassesOwn (model X.prog X.w) X.A X.env X.xe := by subst hX; exact passes_of rfl
    have BX : ∀ p L, Bod cf (jarK dk p L) (xrt K (jarK dk p L) cf.excs ad) ad T.sub X ⟨defScope st, defSt (defScope st)⟩ := fun p L => by subst hX; exact ⟨rfl, rfl, EF, rfl⟩
    have hN : X.N = N := by subst hX; rfl
    have hpr : X.prog = P ∧ X.w = w ∧ X.A = A.deeper (envOfC "law" (defScope st) s.heap.objs.size fa cdv) ∧ X.env = envOfC "law" (defScope st) s.heap.objs.size fa cdv ∧ X.K = K ∧ X.mg = mg ∧ X.base = base := by subst hX; exact ⟨rfl, rfl, rfl, rfl, rfl, rfl, rfl⟩
    obtain ⟨d1, d2⟩ := okName_of (GX 0 fun _ => none) h8
    obtain ⟨d3, d4⟩ := okName_of (GX 0 fun _ => none) h10
    have G0 := GX 0 fun _ => none
    -- the first statement
    have first : PE X (.Call (.Name mm pmm) [.Name sc psc] [] pc) (fun σ H' Q => σ[0]? = some (some (.ref a)) ∧ H' = H ∧ ∀ g p L H2 Z2, MkOut (jarS K H a ns) dk H (fun _ => none) p L g H2 Z2 → stsW (callW T m) T.sub b (lawE N.length g) { nx := fun _ => False, rt := fun d _ => d = .bool true, bk := fun _ => False, ct := fun _ => False, ex := noX } → Q (.ref p) H2) := by
      refine ⟨fun pins s2 σ H' Q I2 hq => ?_⟩
      obtain ⟨e1, rfl, hq⟩ := hq
      refine wpAny_Call_Name_kw (ld_glob I2 (G0.gl h7) (by rw [hpr.2.2.2.2.2.1]; exact g0) ?_ d1)
      refine PySem.W.callWith_K (h₀ := X.base) I2.ok.mod.kin (by rw [hpr.2.2.2.2.1]; exact kp0) (thn ((pa_cons (pe_var (by rw [hN]; exact of_decide_eq_true h4) (G0.vis h9) d3 d4) pa_nil).run pc pins s2 σ H' (fun vs H3 => vs = [.ref a] ∧ H3 = H') I2 ⟨_, e1, rfl, rfl⟩) fun us s3 hh => ?_) rfl rfl
      obtain ⟨vs, H3, I3, r3, rfl, rfl⟩ := hh
      refine ⟨I3.kIn, ?_⟩
      have hu : (us ++ []).length = 1 := by rw [List.append_nil, ← r3.length]; rfl
      have bt0 := b0 s3 us (by rw [← hpr.2.2.2.2.1]; exact I3.kIn) hu
      rw [List.append_nil] at bt0
      show wpAny (model X.prog X.w) X.A (call (.ref f0) ([] ++ us)) _ _ _
      rw [List.nil_append]
      have e3 := I3.env0
      rw [hpr.1, hpr.2.1, hpr.2.2.2.2.1, hpr.2.2.2.2.2.1, hpr.2.2.2.2.2.2] at e3
      have hrX : Room (m + 1) X.A := by rw [hpr.2.2.1]; exact hr.deeper _
      have gdX : X.A.guards = some [] := by rw [hpr.2.2.1]; exact gd
      have inn : Inn (jarS K H3 a ns) [(.inl 0, .list (ns.map .int))] H3 fun _ => none := ⟨fun _ _ z => (by cases z), ⟨rfl, fun _ => rfl⟩, fun _ _ => rfl, fun _ _ z => (by rcases z with z | z <;> cases z), fun _ _ z => by cases z⟩
      have cr := M.run X.A X.stack s3 H3 ⟨us, []⟩ us [.ref a] Q (fun _ _ _ => False) hrX gdX e3 bt0 r3 rfl ⟨fun _ => none, [JAR], _, inn, .cons (.jar rfl) .nil, (by refine stsW_mono hC0 pre ?_ (core ns hn); exact ⟨fun r q => jarW_mono hC0 es (fun g w p L H2 Z2 mo => hq g p L H2 Z2 mo w) q, fun _ _ => id, fun _ => id, fun _ => id, fun _ _ => id⟩)⟩
      refine wpAny_call (codeAny_mono (by rw [hpr.1, hpr.2.1]; exact cr) fun z s' hz' => ?_)
      cases z with
      | error e =>
        obtain ⟨_, _, _, _, _, y⟩ := hz'
        exact y.2.2.2.2.2.2.2.elim
      | ok fl =>
        cases fl with
        | ret u => exact I3.after (by rw [hpr.1, hpr.2.1]; exact hz')
        | next => exact hz'.elim
        | brk => exact hz'.elim
        | cont => exact hz'.elim
    have hrest : PSs X rest (fun D σ H' => ∃ p L, lSs X.K (jarK dk p L) (xrt K (jarK dk p L) cf.excs ad) (callW T m) T.sub noW b D σ H') :=
      ⟨fun pins s2 σ H' D I2 ⟨p, L, q⟩ => (snd_Ss (T := T.sub) (callW_mono ok m) b (GX p L) noTakes po (BX p L) (e := rest) (by rw [hN]; exact h12)).run pins s2 σ H' D I2 q⟩
    obtain ⟨g3, g4⟩ := G0.st j h11
    have whole := pss_cons (ps_set (pos := pa) (pos' := pj) G0.nd (by rw [hN]; exact of_decide_eq_true h5) g3 first rfl g4) hrest
    have run := whole.run [] s1 (L2.start N [V.ref a]) H { nx := fun _ H' => False, rt := fun v _ => v = .bl true } I ?_
    · rw [hpr.1, hpr.2.1, hpr.2.2.1, hpr.2.2.2.1] at run
      refine wpAny_mono run (fun fl s' hs => ?_) fun e s' hs => by subst hX; exact hs
      cases fl with
      | ret u =>
        obtain ⟨v, σ', H', Jv, rv2, q⟩ := hs
        subst hX
        exact ⟨v, H', Jv.os, Jv.bare, Jv.base, Jv.hok, rv2, q⟩
      | next =>
        obtain ⟨σ', H', Jv, q⟩ := hs
        exact q.elim
      | brk =>
        obtain ⟨_, _, _, q⟩ := hs
        exact q.elim
      | cont =>
        obtain ⟨_, _, _, q⟩ := hs
        exact q.elim
    · refine ⟨by rfl, rfl, fun g p L H2 Z2 mo hw => ⟨p, L, fmOf H fun _ => none, Z2, lawE N.length g, _, by rw [hpr.2.2.2.2.1]; exact rel_law hN2 mo, ?_, hw⟩⟩
      refine ⟨fun _ q => q.elim, fun d r q v σ H3 Z3 s3 R3 hv => ?_, fun _ q => q.elim, fun _ q => q.elim, fun _ _ q => q.elim⟩
      have q' : d = .bool true := q
      subst q'
      exact rep_bool hv
  · cases h3
end
end G

set_option linter.all false
set_option maxRecDepth 100000
set_option Elab.async false
/-! Sw: what the top has left, in lists. -/
namespace G
open PySem PySem.Spec PyProof.Rows L2
inductive FreeAt (K : PySem.W.Frag) : List Str → Prop
  | nil : FreeAt K []
  | cons {x : Str} {xs : List Str} : PySem.W.nsIn K mainGlobals x = some none → FreeAt K xs → FreeAt K (x :: xs)
inductive IntsAt (K : PySem.W.Frag) : List (Str × Int) → Prop
  | nil : IntsAt K []
  | cons {x : Str} {n : Int} {t : Tok} {xs : List (Str × Int)} : PySem.W.nsIn K mainGlobals x = some (some (.int n t)) → IntsAt K xs → IntsAt K ((x, n) :: xs)
inductive DefsAt (K : PySem.W.Frag) (cf : Cfg) : List (Df × Stmt × Addr) → Prop
  | nil : DefsAt K cf []
  | cons {d : Df} {st : Stmt} {f : Addr} {L : List (Df × Stmt × Addr)} : DefAt K d.nm st d.dv f → chkDf cf d st = true → DefsAt K cf L → DefsAt K cf ((d, st, f) :: L)
theorem FreeAt.at {K : PySem.W.Frag} {xs : List Str} (h : FreeAt K xs) : ∀ x ∈ xs, PySem.W.nsIn K mainGlobals x = some none := by
  induction h with
  | nil => intro x hx; cases hx
  | cons h _ ih =>
    intro x hx
    rcases List.mem_cons.mp hx with rfl | hx
    · exact h
    · exact ih x hx
theorem IntsAt.at {K : PySem.W.Frag} {xs : List (Str × Int)} (h : IntsAt K xs) : ∀ p ∈ xs, ∃ t, PySem.W.nsIn K mainGlobals p.1 = some (some (.int p.2 t)) := by
  induction h with
  | nil => intro x hx; cases hx
  | cons h _ ih =>
    intro x hx
    rcases List.mem_cons.mp hx with rfl | hx
    · exact ⟨_, h⟩
    · exact ih x hx
theorem DefsAt.at {K : PySem.W.Frag} {cf : Cfg} {L : List (Df × Stmt × Addr)} (h : DefsAt K cf L) : ∀ (g : Nat) (p : Df × Stmt × Addr), L[g]? = some p → DefAt K p.1.nm p.2.1 p.1.dv p.2.2 ∧ chkDf cf p.1 p.2.1 = true := by
  induction h with
  | nil => intro g p hp; simp at hp
  | cons h1 h2 _ ih =>
    intro g p hp
    cases g with
    | zero => cases hp; exact ⟨h1, h2⟩
    | succ g => exact ih g p (by simpa using hp)
theorem facts_of {K : PySem.W.Frag} {h : Heap} {mg : Str → Option Value} {cf : Cfg} (KX : K.In h) (G : h.Ns mainGlobals mg) (hf : FreeAt K cf.free) (hg : cf.gcd = true → mg "gcd" = some (.builtin "math.gcd")) (hc : IntsAt K cf.consts) : Facts cf mg where
  free := fun x hx => PySem.W.mg_none_of KX G (hf.at x (List.contains_iff_mem.mp hx))
  gcd := hg
  consts := fun p hp => by
    obtain ⟨t, e⟩ := hc.at p hp
    exact ⟨t, PySem.W.mg_of KX G e⟩
/-- the calls' table of a list of defs -/
def tbOf (L : List (Df × Stmt)) (sub : Nat → Nat → Bool) : Tb := ⟨fun g => (L[g]?).map fun p => .df p.1.ps.length p.1.N.length p.1.b, sub⟩
theorem tbOf_ok {L : List (Df × Stmt)} {sub : Nat → Nat → Bool} : (tbOf L sub).Ok := by
  intro f P h
  unfold tbOf at h
  dsimp only at h
  cases q : L[f]? with
  | none => rw [q] at h; cases h
  | some p => rw [q] at h; cases h
theorem hd_of {K : PySem.W.Frag} {cf : Cfg} {L : List (Df × Stmt × Addr)} {M : List (Df × Stmt)} {sub : Nat → Nat → Bool} (h : DefsAt K cf L) (hm : L.map (fun p => (p.1, p.2.1)) = M) (hf : cf.fns = M.map fun p => (p.1.nm, p.1.ps)) (hv : cf.dfl = M.map fun p => p.1.dv) :
    ∀ g p, cf.fns[g]? = some p → ∃ d st f, (fun i => L[i]?) g = some (d, st, f) ∧ p = (d.nm, d.ps) ∧ cf.dfl.getD g [] = d.dv ∧ (tbOf M sub).fn g = some (.df d.ps.length d.N.length d.b) ∧ DefAt K d.nm st d.dv f ∧ chkDf cf d st = true := by
  intro g p hp
  subst hm
  rw [hf, List.map_map, List.getElem?_map] at hp
  cases q : L[g]? with
  | none => rw [q] at hp; cases hp
  | some t =>
    rw [q] at hp
    cases hp
    obtain ⟨h1, h2⟩ := h.at g t q
    refine ⟨t.1, t.2.1, t.2.2, q, rfl, by rw [hv, List.map_map, List.getD_eq_getElem?_getD, List.getElem?_map, q]; rfl, ?_, h1, h2⟩
    unfold tbOf
    dsimp only
    rw [List.getElem?_map, q]
    rfl
/-! ### the error classes -/
open PySem.W in
/-- what the written part says of an own error class -/
structure ExcK (P : Program) (K : Frag) (x : Str × Option Str) (C : Addr) : Prop where
  ns : nsIn K mainGlobals x.1 = some (some (.ref C))
  kC : keepIn K (.ref C) = true
  sub : subIn K (.ref C) (.type "BaseException") = some true
  ty : typeIn K (.ref C) = some (.type "type")
  hd : hasDictIn K C = true
  hga : findIn K (.ref C) "__getattribute__" = some (some (.builtin "BaseException.__getattribute__"))
  hgt : findIn K (.ref C) "__getattr__" = some none
  ha : findIn K (.ref C) "__class__" = some (some (.builtin "object.__class__"))
  hn : specialIn K (.builtin "object.__class__") "__get__" = some (some (.builtin "getset_descriptor.__get__"))
  ht : takesIn K (.builtin "object.__class__") = some true
  hm : mroIn K C (.type "object") = some true
  m0 : x.2 = none → excIn K C veB "ValueError.__new__" = true
  mf : ∀ f, x.2 = some f → FldC P K f C
inductive ExcsK (P : Program) (K : PySem.W.Frag) : List (Str × Option Str) → List Addr → Prop
  | nil : ExcsK P K [] []
  | cons {x : Str × Option Str} {C : Addr} {xs : List (Str × Option Str)} {cs : List Addr} : ExcK P K x C → ExcsK P K xs cs → ExcsK P K (x :: xs) (C :: cs)
inductive SubR (K : PySem.W.Frag) (T : Nat → Nat → Bool) (a : Addr) (i : Nat) : Nat → List Addr → Prop
  | nil {j : Nat} : SubR K T a i j []
  | cons {j : Nat} {b : Addr} {bs : List Addr} : PySem.W.subIn K (.ref a) (.ref b) = some (T i j) → SubR K T a i (j + 1) bs → SubR K T a i j (b :: bs)
inductive SubM (K : PySem.W.Frag) (T : Nat → Nat → Bool) (all : List Addr) : Nat → List Addr → Prop
  | nil {i : Nat} : SubM K T all i []
  | cons {i : Nat} {a : Addr} {as : List Addr} : SubR K T a i 0 all → SubM K T all (i + 1) as → SubM K T all i (a :: as)
theorem ExcsK.at {P : Program} {K : PySem.W.Frag} {xs : List (Str × Option Str)} {cs : List Addr} (h : ExcsK P K xs cs) : ∀ (c : Nat) (x : Str × Option Str), xs[c]? = some x → ∃ C, cs[c]? = some C ∧ ExcK P K x C := by
  induction h with
  | nil => intro c x h; simp at h
  | cons h1 _ ih =>
    intro c x hx
    cases c with
    | zero => cases hx; exact ⟨_, rfl, h1⟩
    | succ c => obtain ⟨C, e1, e2⟩ := ih c x (by simpa using hx); exact ⟨C, by simpa using e1, e2⟩
theorem SubR.at {K : PySem.W.Frag} {T : Nat → Nat → Bool} {a : Addr} {i j : Nat} {bs : List Addr} (h : SubR K T a i j bs) : ∀ (k : Nat) (b : Addr), bs[k]? = some b → PySem.W.subIn K (.ref a) (.ref b) = some (T i (j + k)) := by
  induction h with
  | nil => intro k b h; simp at h
  | cons h1 _ ih =>
    intro k b hb
    cases k with
    | zero => cases hb; exact h1
    | succ k =>
      rw [ih k b (by simpa using hb)]
      congr 2
      omega
theorem SubM.at {K : PySem.W.Frag} {T : Nat → Nat → Bool} {all as : List Addr} {i : Nat} (h : SubM K T all i as) : ∀ (k : Nat) (a : Addr), as[k]? = some a → SubR K T a (i + k) 0 all := by
  induction h with
  | nil => intro k b h; simp at h
  | cons h1 _ ih =>
    intro k b hb
    cases k with
    | zero => cases hb; exact h1
    | succ k =>
      have := ih k b (by simpa using hb)
      rw [show ∀ x : Nat, x + (k + 1) = x + 1 + k by omega]
      exact this
theorem excF_of {P : Program} {K : PySem.W.Frag} {h : Heap} {mg : Str → Option Value} (KX : K.In h) (G : h.Ns mainGlobals mg) {xs : List (Str × Option Str)} {cs : List Addr} {T : Nat → Nat → Bool} (hx : ExcsK P K xs cs) (hs : SubM K T cs 0 cs) (hd : (List.range cs.length).all (fun i => T i i) = true) : ExcF P K mg xs T fun c => cs.getD c 0 := by
  have at_ : ∀ c x, xs[c]? = some x → cs[c]? = some (cs.getD c 0) ∧ ExcK P K x (cs.getD c 0) := fun c x e => by
    obtain ⟨C, e1, e2⟩ := hx.at c x e
    have : cs.getD c 0 = C := by rw [List.getD_eq_getElem?_getD, e1]; rfl
    rw [this]
    exact ⟨e1, e2⟩
  have sub : ∀ c x c' x', xs[c]? = some x → xs[c']? = some x' → PySem.W.subIn K (.ref (cs.getD c 0)) (.ref (cs.getD c' 0)) = some (T c c') := fun c x c' x' e e' => by
    have := (hs.at c _ (at_ c x e).1).at c' _ (at_ c' x' e').1
    rwa [Nat.zero_add, Nat.zero_add] at this
  refine ⟨fun c x e => ?_, fun c x c' x' e e' => ?_, fun c x c' x' e e' => ?_⟩
  · have A := (at_ c x e).2
    exact ⟨PySem.W.mg_of KX G A.ns, A.kC, A.sub, A.ty, A.hd, A.hga, A.hgt, A.ha, A.hn, A.ht, A.hm, A.m0, A.mf⟩
  · have A := (at_ c' x' e').2
    exact PySem.W.exm_ref A.sub A.hd A.ty (sub c x c' x' e e')
  · have A := (at_ c' x' e').2
    unfold PySem.W.kitOne
    by_cases q : (Value.ref (cs.getD c 0) == Value.ref (cs.getD c' 0)) = true
    · rw [if_pos q]
      have e1 : cs.getD c 0 = cs.getD c' 0 := Value.ref.inj (beq_iff_eq.mp q)
      have s1 := sub c x c' x' e e'
      have s2 := sub c x c x e e
      rw [← e1] at s1
      rw [s1] at s2
      have lt : c < cs.length := (List.getElem?_eq_some_iff.mp (at_ c x e).1).1
      have := List.all_eq_true.mp hd c (List.mem_range.mpr lt)
      rw [Option.some.inj s2, this]
    · rw [if_neg q]
      obtain ⟨cd, hc, _⟩ := PySem.W.any_some A.hd
      unfold PySem.W.kitCls
      have e2 : ((PySem.W.clsIn K (cs.getD c' 0)).isSome && PySem.W.typeIn K (.ref (cs.getD c' 0)) == some (.type "type")) = true := by rw [hc, A.ty] <;> rfl
      show (if ((PySem.W.clsIn K (cs.getD c' 0)).isSome && PySem.W.typeIn K (.ref (cs.getD c' 0)) == some (.type "type")) = true then PySem.W.subIn K (.ref (cs.getD c 0)) (.ref (cs.getD c' 0)) else none) = _
      rw [if_pos e2]
      exact sub c x c' x' e e'
/-- the words of a class with a field -/
theorem fldC_mk {P : Program} {K : PySem.W.Frag} {fld : Str} {C : Addr} {fI cc cda : Addr} {nm q : Str} {N : Addr} {bs bm : List Value} {sn : List Str} {sub : List Value} {ab : Bool} {col : Option Bool} {dd : Option Addr} {k0 k1 k2 k3 k5 : Option Value} {oc doc pm ct ccl cl : Value} {od an cdd cld : Option Addr} {osl ccs csl : Array (Option Value)} {qual : Str} {st : Stmt} {vs : Array Value} {file : Str} {tf : Tok}
    (e1 : K.lookup C = some (excClassObj nm q C N bs bm true sn sub ab col dd k0 k1 k2 k3 k5 "ValueError.__new__")) (e2 : HandSPX.refsVE bm = true) (e3 : PySem.W.findIn K (.ref C) "__setattr__" = some (some (.builtin "object.__setattr__"))) (e4 : PySem.W.findIn K (.ref C) fld = some none) (e5 : PySem.W.findIn K (.ref C) "__init__" = some (some (.ref fI))) (e6 : PySem.W.typeIn K (.ref fI) = some (.type "function"))
    (e7 : PySem.W.ks_superIn K C C "__init__" = some (some (.builtin "ValueError.__init__"))) (e8 : PySem.W.subIn K (.ref C) (.type "ValueError") = some true) (e9 : PySem.W.mroIn K C (.ref C) = some true) (e10 : PySem.W.nsIn K cStatics "thirdparty.any" = some none) (e11 : PySem.W.nsIn K mainGlobals "super" = some none)
    (e17 : K.lookup fI = some ⟨oc, od, .func (PySem.W.ksFn "__init__" qual (defArgs st) (defBody st) (defScope st) .none .none doc pm an (.ref cda) ct cc), osl⟩) (e18 : PySem.W.codeIn K (.ref cda) qual = true)
    (e12 : K.lookup cc = some ⟨cl, cld, .cell (some (.ref C)), csl⟩) (e13 : K.lookup cda = some ⟨ccl, cdd, .fields vs, ccs⟩) (e14 : vs[2]? = some (.str file tf)) (e15 : ((P.main.file : Str) == file) = true) (e16 : (P.main.scope.names.lookup ("super" : Str)).isSome = false)
    (e19 : chkInit (defArgs st) (defBody st) (defScope st) fld = true) : FldC P K fld C :=
  ⟨_, _, _, _, _, _, _, _, _, _, _, _, _, _, _, _, _, _, _, _, _, _, _, _, _, _, _, _, _, _, _, _, _, _, _, _, _, _, e1, e2, e3, e4, e5, e6, e7, e8, e9, e10, e11, e12, e13, e14, e15, e16, e17, e18, e19⟩
/-- a def in a class's text -/
def inCls (st : Stmt) (i : Nat) : Stmt := match st with | .ClassDef _ _ _ body .. => body.getD i (.Pass ⟨0, 0, 0, 0⟩) | s => s
end G

set_option linter.all false
set_option maxRecDepth 100000
set_option Elab.async false
/-! Pl: words for plain laws. -/
namespace G
open PySem
theorem call_df {T : Tb} {n f np ns : Nat} {b : Sts} {ds : List D} {g : Gh} {K : D → Gh → Prop} {X : Exn → Gh → Prop} (h : T.fn f = some (.df np ns b)) (hl : ds.length = np)
    (q : stsW (callW T n) T.sub b (startE ns ds g) { nx := fun r => K .none r.g, rt := fun d r => K d r.g, bk := fun _ => False, ct := fun _ => False, ex := fun e r => X e r.g }) : callW T (n + 1) f ds g K X := by
  unfold callW
  rw [h]
  exact ⟨hl, q⟩
theorem rd_z {s : Slot} {ss : List Slot} {g : Gh} : rd ⟨s :: ss, g⟩ 0 = s := rfl
theorem rd_s {s : Slot} {ss : List Slot} {g : Gh} {i : Nat} : rd ⟨s :: ss, g⟩ (i + 1) = rd ⟨ss, g⟩ i := rfl
theorem set_z {s x : Slot} {ss : List Slot} {g : Gh} : En.set ⟨s :: ss, g⟩ 0 x = ⟨x :: ss, g⟩ := rfl
theorem set_s {s x : Slot} {ss : List Slot} {g : Gh} {i : Nat} : En.set ⟨s :: ss, g⟩ (i + 1) x = ⟨s :: (En.set ⟨ss, g⟩ i x).s, g⟩ := rfl
theorem at_mk {s : List Slot} {g g' : Gh} : En.at ⟨s, g⟩ g' = ⟨s, g'⟩ := rfl
theorem isJar_j : isJar (.fz JAR) = true := rfl
theorem der_v {r : En} {d : D} {K : D → Prop} : der r (.val d) K = K d := rfl
theorem der_n {r : En} {ds : List D} {K : D → Prop} : der r (.new ds) K = K (.list ds) := rfl
theorem frz_v {r : En} {d : D} {K : D → En → Prop} : frz r (.val d) K = K d r := rfl
theorem frz_n {r : En} {ds : List D} {K : D → En → Prop} : frz r (.new ds) K = K (.list ds) r := rfl
theorem asg_v {r : En} {i : Nat} {d : D} {K : En → Prop} : asg i r (.val d) K = K (r.set i (.fz d)) := rfl
theorem asg_n {r : En} {i : Nat} {ds : List D} {K : En → Prop} : asg i r (.new ds) K = K (r.set i (.ow ds)) := rfl
/-- a loop with an invariant -/
theorem for_inv {f : D → En → (En → Prop) → Prop} {nx : En → Prop} (P : Nat → En → Prop) : ∀ {ds : List D} {r : En}, P 0 r → (∀ i d r, ds[i]? = some d → P i r → ∀ k : En → Prop, (∀ r', P (i + 1) r' → k r') → f d r k) → (∀ r, P ds.length r → nx r) → forL f nx ds r := by
  have main : ∀ (rest pre : List D) (r : En), P pre.length r → (∀ i d r, (pre ++ rest)[i]? = some d → P i r → ∀ k : En → Prop, (∀ r', P (i + 1) r' → k r') → f d r k) → (∀ r, P (pre ++ rest).length r → nx r) → forL f nx rest r := by
    intro rest
    induction rest with
    | nil =>
      intro pre r h0 _ hd
      rw [List.append_nil] at hd
      exact hd r h0
    | cons d rest ih =>
      intro pre r h0 hs hd
      unfold forL
      refine hs pre.length d r (by rw [List.getElem?_append_right (Nat.le_refl _), Nat.sub_self]; rfl) h0 _ fun r' h' => ?_
      refine ih (pre ++ [d]) r' (by rw [List.length_append]; exact h') ?_ ?_
      · rw [List.append_assoc]; exact hs
      · rw [List.append_assoc]; exact hd
  intro ds r h0 hs hd
  exact main ds [] r h0 hs hd
/-- a comprehension whose turns leave the slots as they were -/
theorem turns_map {f : D → En → (Option D → En → Prop) → Prop} {r : En} (m : D → Option D) : ∀ {ds acc : List D} {K : List D → En → Prop}, (∀ d ∈ ds, ∀ k : Option D → En → Prop, k (m d) r → f d r k) → K (acc ++ ds.filterMap m) r → turns f ds acc r K
  | [], acc, K, _, h => by
    unfold turns
    simpa using h
  | d :: ds, acc, K, hs, h => by
    unfold turns
    refine hs d List.mem_cons_self _ ?_
    cases e : m d with
    | none =>
      rw [List.filterMap_cons_none e] at h
      exact turns_map m (fun d' hd => hs d' (List.mem_cons_of_mem _ hd)) h
    | some x =>
      rw [List.filterMap_cons_some e] at h
      refine turns_map m (fun d' hd => hs d' (List.mem_cons_of_mem _ hd)) ?_
      rw [List.append_assoc]
      exact h
/-- a comprehension with an invariant -/
theorem turns_inv {f : D → En → (Option D → En → Prop) → Prop} (P : Nat → List D → En → Prop) : ∀ {ds : List D} {r : En} {K : List D → En → Prop}, P 0 [] r →
    (∀ i d acc r, ds[i]? = some d → P i acc r → ∀ k : Option D → En → Prop, (∀ o r', P (i + 1) (acc ++ o.toList) r' → k o r') → f d r k) → (∀ acc r, P ds.length acc r → K acc r) → turns f ds [] r K := by
  have main : ∀ (f : D → En → (Option D → En → Prop) → Prop) (K : List D → En → Prop) (rest pre acc : List D) (r : En), P pre.length acc r → (∀ i d acc r, (pre ++ rest)[i]? = some d → P i acc r → ∀ k : Option D → En → Prop, (∀ o r', P (i + 1) (acc ++ o.toList) r' → k o r') → f d r k) → (∀ acc r, P (pre ++ rest).length acc r → K acc r) → turns f rest acc r K := by
    intro f K rest
    induction rest with
    | nil =>
      intro pre acc r h0 _ hd
      rw [List.append_nil] at hd
      exact hd acc r h0
    | cons d rest ih =>
      intro pre acc r h0 hs hd
      unfold turns
      refine hs pre.length d acc r (by rw [List.getElem?_append_right (Nat.le_refl _), Nat.sub_self]; rfl) h0 _ fun o r' h' => ?_
      have nxt : ∀ acc', P (pre.length + 1) acc' r' → turns f rest acc' r' K := fun acc' h2 => by
        refine ih (pre ++ [d]) acc' r' (by rw [List.length_append]; exact h2) ?_ ?_
        · rw [List.append_assoc]; exact hs
        · rw [List.append_assoc]; exact hd
      cases o with
      | none => exact nxt acc (by simpa using h')
      | some x => exact nxt _ h'
  intro ds r K h0 hs hd
  exact main f K ds [] [] r h0 hs hd
end G

set_option linter.all false
set_option maxRecDepth 100000
set_option Elab.async false
/-! Pm: slices, enumerate, ranges in plain laws. -/
namespace G
open PySem
theorem cut_take {xs : List D} {k : Int} (h : 0 ≤ k) : cutD xs none (some k) = xs.take k.toNat := by
  obtain ⟨j, rfl⟩ : ∃ j : Nat, k = j := ⟨k.toNat, by omega⟩
  unfold cutD
  rw [HT.sIx_none, HT.sIx_nat]
  simp only [List.drop_zero, Nat.sub_zero, Int.toNat_natCast]
  by_cases hj : j ≤ xs.length
  · rw [Nat.min_eq_left hj]
  · rw [Nat.min_eq_right (by omega), List.take_of_length_le (Nat.le_refl _), List.take_of_length_le (by omega)]
theorem cut_drop {xs : List D} {k : Int} (h : 0 ≤ k) : cutD xs (some k) none = xs.drop k.toNat := by
  obtain ⟨j, rfl⟩ : ∃ j : Nat, k = j := ⟨k.toNat, by omega⟩
  unfold cutD
  rw [HT.sIx_none, HT.sIx_nat]
  simp only [Int.toNat_natCast]
  by_cases hj : j ≤ xs.length
  · rw [Nat.min_eq_left hj, List.take_of_length_le (by rw [List.length_drop]; omega)]
  · rw [Nat.min_eq_right (by omega), List.drop_of_length_le (Nat.le_refl _), List.drop_of_length_le (by omega), List.take_nil]
theorem cut_both {xs : List D} {k l : Int} (h : 0 ≤ k) (h2 : 0 ≤ l) : cutD xs (some k) (some l) = (xs.take l.toNat).drop k.toNat := by
  obtain ⟨j, rfl⟩ : ∃ j : Nat, k = j := ⟨k.toNat, by omega⟩
  obtain ⟨m, rfl⟩ : ∃ j : Nat, l = j := ⟨l.toNat, by omega⟩
  unfold cutD
  rw [HT.sIx_nat, HT.sIx_nat]
  simp only [Int.toNat_natCast]
  apply List.ext_getElem?
  intro i
  rw [List.getElem?_take, List.getElem?_drop, List.getElem?_drop, List.getElem?_take]
  by_cases h1 : j + i < xs.length
  · by_cases h3 : j + i < m
    · rw [if_pos h3, if_pos (by omega), show min j xs.length = j by omega]
    · rw [if_neg h3, if_neg (by omega)]
  · rw [List.getElem?_eq_none (show xs.length ≤ j + i by omega)]
    split
    · rw [List.getElem?_eq_none (by omega)]; split <;> rfl
    · split <;> rfl
end G

set_option linter.all false
set_option maxRecDepth 100000
set_option Elab.async false
/-! Px: the core's meaning, row by row; comprehensions and loops stay folded. -/
namespace G
open PySem
/-- a comprehension's turn -/
def compF (C : Calls) (e : Ex) (t : Tg) (c : Ts) (own : List (Str × Nat)) : D → En → (Option D → En → Prop) → Prop :=
  fun d r2 k => tgW t d r2 fun r3 => tsW C c r3 (fun b r4 => if b = true then exW C e r4 (fun x r5 => frz r5 x fun y r6 => k (some y) (wipe own r6)) noX else k none (wipe own r4)) noX
/-- a loop's turn -/
def forF (C : Calls) (S : Nat → Nat → Bool) (t : Tg) (b : Sts) (K : Ks) : D → En → (En → Prop) → Prop := fun d r k => tgW t d r fun r2 => stsW C S b r2 { K with nx := k, ct := k, bk := K.nx }
section
variable {C : Calls} {S : Nat → Nat → Bool} {r : En} {K : Rz → En → Prop} {X : XW} {L : List D → En → Prop} {B : Bool → En → Prop} {KS : Ks}
theorem x_v {i : Nat} : exW C (.v i) r K X = (match rd r i with | .fz d => K (.val d) r | .ow _ => K (.sl i) r | _ => False) := rfl
theorem x_i {n : Int} : exW C (.i n) r K X = K (.val (.int n)) r := rfl
theorem x_b {n : Bool} : exW C (.b n) r K X = K (.val (.bool n)) r := rfl
theorem x_n : exW C .n r K X = K (.val .none) r := rfl
theorem x_st {n : Str} : exW C (.s n) r K X = K (.val (.str n)) r := rfl
theorem x_g {x : Str} {n : Int} : exW C (.g x n) r K X = K (.val (.int n)) r := rfl
theorem x_tup {es : Exs} : exW C (.tup es) r K X = exsW C es r (fun ds r1 => K (.val (.tuple ds)) r1) X := rfl
theorem x_lst {es : Exs} : exW C (.lst es) r K X = exsW C es r (fun ds r1 => K (.new ds) r1) X := rfl
theorem x_bin {o : BO} {a b : Ex} : exW C (.bin o a b) r K X = exW C a r (fun x r1 => exW C b r1 (fun y r2 => der r2 x fun d => der r2 y fun e => opW o d e fun z => K z r2) X) X := rfl
theorem x_neg {a : Ex} : exW C (.neg a) r K X = exW C a r (fun x r1 => der r1 x fun d => (match d with | .int i => K (.val (.int (-i))) r1 | _ => False)) X := rfl
theorem x_nt {a : Ex} : exW C (.nt a) r K X = exW C a r (fun x r1 => der r1 x fun d => truW d fun b => K (.val (.bool (!b))) r1) X := rfl
theorem x_cmp {o : CO} {a b : Ex} : exW C (.cmp o a b) r K X = exW C a r (fun x r1 => exW C b r1 (fun y r2 => der r2 x fun d => der r2 y fun e => cmpW o d e fun z => K (.val (.bool z)) r2) X) X := rfl
theorem x_chain {o p : CO} {a b c : Ex} : exW C (.chain o p a b c) r K X = exW C a r (fun x r1 => exW C b r1 (fun y r2 => der r2 x fun d => der r2 y fun e => cmpW o d e fun z =>
      if z = true then exW C c r2 (fun w r3 => der r3 y fun e' => der r3 w fun f => cmpW p e' f fun z' => K (.val (.bool z')) r3) X else K (.val (.bool false)) r2) X) X := rfl
theorem x_isN {a : Ex} : exW C (.isN a) r K X = exW C a r (fun x r1 => der r1 x fun d => K (.val (.bool (isNon d))) r1) X := rfl
theorem x_notN {a : Ex} : exW C (.notN a) r K X = exW C a r (fun x r1 => der r1 x fun d => K (.val (.bool (!isNon d))) r1) X := rfl
theorem x_and {a b : Ex} : exW C (.and a b) r K X = exW C a r (fun x r1 => der r1 x fun d => (match d with | .bool c => (if c = true then exW C b r1 K X else K (.val (.bool false)) r1) | _ => False)) X := rfl
theorem x_or {a b : Ex} : exW C (.or a b) r K X = exW C a r (fun x r1 => der r1 x fun d => (match d with | .bool c => (if c = true then K (.val (.bool true)) r1 else exW C b r1 K X) | _ => False)) X := rfl
theorem x_ite {t : Ts} {a b : Ex} : exW C (.ite t a b) r K X = tsW C t r (fun c r1 => if c = true then exW C a r1 K X else exW C b r1 K X) X := rfl
theorem x_ix {a i : Ex} : exW C (.ix a i) r K X = exW C a r (fun x r1 => exW C i r1 (fun y r2 => der r2 x fun d => der r2 y fun e => ixW d e fun z => K (.val z) r2) X) X := rfl
theorem x_cut {a : Ex} {lo hi : Op} : exW C (.cut a lo hi) r K X = exW C a r (fun x r1 => opwW C lo r1 (fun l r2 => opwW C hi r2 (fun h r3 => der r3 x fun d => (match d with
      | .list ds => K (.new (cutD ds l h)) r3
      | .tuple ds => K (.val (.tuple (cutD ds l h))) r3
      | _ => False)) X) X) X := rfl
theorem x_stp {a : Ex} {lo k : Nat} : exW C (.stp a lo k) r K X = exW C a r (fun x r1 => der r1 x fun d => (match d with | .list ds => (stpL ds lo k).length ≤ SZ ∧ K (.new (stpL ds lo k)) r1 | _ => False)) X := rfl
theorem x_rev {a : Ex} : exW C (.rev a) r K X = exW C a r (fun x r1 => der r1 x fun d => (match d with | .list ds => K (.new ds.reverse) r1 | .tuple ds => K (.val (.tuple ds.reverse)) r1 | _ => False)) X := rfl
theorem x_call {f : Nat} {es : Exs} : exW C (.call f es) r K X = exsW C es r (fun ds r1 => C f ds r1.g (fun d g => K (.val d) (r1.at g)) (fun e g => X e (r1.at g))) X := rfl
theorem x_callk {f : Nat} {es ks : Exs} {ps : List Nat} : exW C (.callk f es ks ps) r K X = exsW C es r (fun ds r1 => exsW C ks r1 (fun ws r2 => C f (ps.map fun p => (ds ++ ws).getD p .none) r2.g (fun d g => K (.val d) (r2.at g)) (fun e g => X e (r2.at g))) X) X := rfl
theorem x_bi {k : BI} {es : Exs} : exW C (.bi k es) r K X = argsW C es r (fun ds r1 => biW k ds fun z => K z r1) X := rfl
theorem x_comp {e : Ex} {t : Tg} {w : It} {c : Ts} {own : List (Str × Nat)} : exW C (.comp e t w c own) r K X = itW C w r (fun ds r1 => noOw own r1 = true ∧ turns (compF C e t c own) ds [] (wipe own r1) (fun ys r7 => K (.new ys) (unwipe own r1 r7))) X := rfl
theorem x_pop {i : Nat} : exW C (.pop i) r K X = (match rd r i with | .ow ds => (match ds.getLast? with | some d => K (.val d) (r.set i (.ow ds.dropLast)) | none => False) | _ => False) := rfl
theorem x_jg {i : Nat} {k : Sum Int Str} : exW C (.jg i k) r K X = (isJar (rd r i) = true ∧ (match gget r.g k with | some (.int n) => K (.val (.int n)) r | _ => False)) := rfl
theorem t_yes : tsW C .yes r B X = B true r := rfl
theorem t_and' {a b : Ts} : tsW C (.and a b) r B X = tsW C a r (fun c r1 => if c = true then tsW C b r1 B X else B false r1) X := rfl
theorem t_or' {a b : Ts} : tsW C (.or a b) r B X = tsW C a r (fun c r1 => if c = true then B true r1 else tsW C b r1 B X) X := rfl
theorem t_nt' {a : Ts} : tsW C (.nt a) r B X = tsW C a r (fun c r1 => B (!c) r1) X := rfl
theorem t_ex {a : Ex} : tsW C (.e a) r B X = exW C a r (fun x r1 => der r1 x fun d => truW d fun b => B b r1) X := rfl
theorem e_nil : exsW C .nil r L X = L [] r := rfl
theorem e_cons {e : Ex} {es : Exs} : exsW C (.cons e es) r L X = exW C e r (fun x r1 => frz r1 x fun d r2 => exsW C es r2 (fun ds r3 => L (d :: ds) r3) X) X := rfl
theorem a_nil' : argsW C .nil r L X = L [] r := rfl
theorem a_cons' {e : Ex} {es : Exs} : argsW C (.cons e es) r L X = exW C e r (fun x r1 => argsW C es r1 (fun ds r3 => der r3 x fun d => L (d :: ds) r3) X) X := rfl
theorem s_nil : stsW C S .nil r KS = KS.nx r := rfl
theorem s_cons {s : St} {ss : Sts} : stsW C S (.cons s ss) r KS = stW C S s r { KS with nx := fun r1 => stsW C S ss r1 KS } := rfl
theorem s_for {t : Tg} {w : It} {b : Sts} : stW C S (.fr t w b) r KS = itW C w r (fun ds r1 => forL (forF C S t b KS) KS.nx ds r1) KS.ex := rfl
theorem wipe_nil : wipe [] r = r := rfl
theorem wipe_cons {x : Str} {i : Nat} {o : List (Str × Nat)} : wipe ((x, i) :: o) r = (wipe o r).set i .un := rfl
theorem der_sl {i : Nat} {P : D → Prop} : der r (.sl i) P = (match rd r i with | .ow ds => P (.list ds) | .fz d => P d | _ => False) := rfl
theorem frz_sl {i : Nat} {P : D → En → Prop} : frz r (.sl i) P = (match rd r i with | .ow ds => P (.list ds) (r.set i (.fz (.list ds))) | .fz d => P d r | _ => False) := rfl
theorem asg_sl {i j : Nat} {P : En → Prop} : asg i r (.sl j) P = (match rd r j with | .ow ds => P ((r.set j (.fz (.list ds))).set i (.fz (.list ds))) | .fz d => P (r.set i (.fz d)) | _ => False) := rfl
theorem rs_nil {P : List Rz → En → Prop} : rsW C .nil r P X = P [] r := rfl
theorem rs_cons {e : Ex} {es : Exs} {P : List Rz → En → Prop} : rsW C (.cons e es) r P X = exW C e r (fun x r1 => frzS r1 x fun y r2 => rsW C es r2 (fun xs r3 => P (y :: xs) r3) X) X := rfl
theorem frzS_v {d : D} {P : Rz → En → Prop} : frzS r (.val d) P = P (.val d) r := rfl
theorem frzS_n {ds : List D} {P : Rz → En → Prop} : frzS r (.new ds) P = P (.new ds) r := rfl
theorem asgs_nil {P : En → Prop} : asgs [] [] r P = P r := rfl
theorem asgs_cons {i : Nat} {is : List Nat} {x : Rz} {xs : List Rz} {P : En → Prop} : asgs (i :: is) (x :: xs) r P = asg i r x fun r1 => asgs is xs r1 P := rfl
end
end G

set_option linter.all false
set_option maxRecDepth 100000
set_option Elab.async false
/-! Pn: values that repr shows. -/
namespace G
open PySem
/-- shown: at most that deep, at most that long -/
structure Val (dp m : Nat) (d : D) : Prop where
  sh : d.showable = true
  dp : d.depth ≤ dp
  nd : d.hasDict = false
  ln : d.shown.length ≤ m
structure Vals' (dp m : Nat) (ds : List D) : Prop where
  sh : PyData.showableAll ds = true
  dp : PyData.depthAll ds ≤ dp
  nd : PyData.hasDictAll ds = false
  ln : piled (PyData.shownAll ds) ≤ ds.length * (m + 2)
theorem Val.mono {dp m dp' m' : Nat} {d : D} (h : Val dp m d) (h1 : dp ≤ dp') (h2 : m ≤ m') : Val dp' m' d := ⟨h.sh, Nat.le_trans h.dp h1, h.nd, Nat.le_trans h.ln h2⟩
theorem vals_of {dp m : Nat} : ∀ {ds : List D}, (∀ d ∈ ds, Val dp m d) → Vals' dp m ds
  | [], _ => ⟨rfl, Nat.zero_le _, rfl, Nat.zero_le _⟩
  | d :: ds, h => by
    have h1 := h d List.mem_cons_self
    have h2 := vals_of (ds := ds) fun x hx => h x (List.mem_cons_of_mem _ hx)
    refine ⟨?_, ?_, ?_, ?_⟩
    · simp only [PyData.showableAll, h1.sh, h2.sh, Bool.and_self]
    · simp only [PyData.depthAll]
      exact Nat.max_le.mpr ⟨h1.dp, h2.dp⟩
    · simp only [PyData.hasDictAll, h1.nd, h2.nd, Bool.or_self]
    · simp only [PyData.shownAll]
      rw [piled_cons, List.length_cons, Nat.add_mul]
      have := h1.ln
      have := h2.ln
      omega
theorem shownAll_len : ∀ ds : List D, (PyData.shownAll ds).length = ds.length
  | [] => rfl
  | d :: ds => by simp only [PyData.shownAll, List.length_cons, shownAll_len ds]
theorem tupleText_le (ts : List Str) : (tupleText ts).length ≤ piled ts + 4 := by
  unfold tupleText
  rw [strLen_append, strLen_append]
  have e1 : ((("(" : String) : Str)).length = 1 := rfl
  have e3 : (((if ts.length == 1 then ",)" else ")" : String) : Str)).length ≤ 2 := by split <;> decide
  rw [e1]
  by_cases h : ts = []
  · subst h
    show 1 + (Str.join ", " []).length + _ ≤ _
    have : (Str.join ", " ([] : List Str)).length = 0 := rfl
    omega
  · have := join_length_add ts h
    omega
theorem listText_le : ∀ ts : List Str, (listText ts).length ≤ piled ts + 4
  | [] => by decide
  | t :: r => by
    unfold listText
    rw [strLen_append]
    show (textFrom 1 (("[" : Str) ++ (if (0 : Nat) > 0 then ", " else "" : String) ++ t) r).length + _ ≤ _
    rw [textFrom_length_pos r 1 _ (Nat.succ_pos 0), strLen_append, strLen_append, piled_cons]
    have e1 : ((("[" : String) : Str)).length = 1 := rfl
    have e2 : ((((if (0 : Nat) > 0 then ", " else "" : String)) : Str)).length = 0 := rfl
    have e3 : ((("]" : String) : Str)).length = 1 := rfl
    rw [e1, e2, e3]
    omega
theorem val_tup {dp m c : Nat} {ds : List D} (h : ∀ d ∈ ds, Val dp m d) (hl : ds.length ≤ c) : Val (dp + 1) (c * (m + 2) + 4) (.tuple ds) := by
  have v := vals_of h
  refine ⟨by simpa only [PyData.showable] using v.sh, ?_, by simpa only [PyData.hasDict] using v.nd, ?_⟩
  · simp only [PyData.depth]
    have := v.dp
    omega
  · simp only [PyData.shown]
    have h1 := tupleText_le (PyData.shownAll ds)
    have h2 := v.ln
    have h3 := Nat.mul_le_mul_right (m + 2) hl
    omega
theorem val_lst {dp m c : Nat} {ds : List D} (h : ∀ d ∈ ds, Val dp m d) (hl : ds.length ≤ c) : Val (dp + 1) (c * (m + 2) + 4) (.list ds) := by
  have v := vals_of h
  refine ⟨by simpa only [PyData.showable] using v.sh, ?_, by simpa only [PyData.hasDict] using v.nd, ?_⟩
  · simp only [PyData.depth]
    have := v.dp
    omega
  · simp only [PyData.shown]
    have h1 := listText_le (PyData.shownAll ds)
    have h2 := v.ln
    have h3 := Nat.mul_le_mul_right (m + 2) hl
    omega
theorem val_int {i : Int} {k : Nat} (hk : 0 < k) (h2 : k ≤ 500) (h : i.natAbs < 10 ^ k) : Val 0 (k + 1) (.int i) := by
  refine ⟨?_, Nat.le_refl _, rfl, ?_⟩
  · show decide (i.natAbs.log2 < 1920) = true
    rw [decide_eq_true_eq]
    by_cases h0 : i.natAbs = 0
    · rw [h0]; decide
    · rw [Nat.log2_lt h0]
      refine Nat.lt_of_lt_of_le h (Nat.le_trans (Nat.pow_le_pow_right (by decide) h2) ?_)
      decide +kernel
  · show (Str.ofString (toString i)).length ≤ k + 1
    have := int_text_length_le10 hk h
    rw [ofString_length]
    omega
theorem val_non : Val 0 4 .none := ⟨rfl, Nat.le_refl _, rfl, by decide⟩
theorem val_bool {b : Bool} : Val 0 5 (.bool b) := ⟨rfl, Nat.le_refl _, rfl, by cases b <;> decide⟩
end G

set_option linter.all false
set_option maxRecDepth 100000
set_option Elab.async false
/-! Py: the core's statements, row by row. -/
namespace G
open PySem
/-- what a call is followed by: simp does not look into it -/
class BK where
  run : D → Gh → Prop
def blk [b : BK] : D → Gh → Prop := b.run
theorem blk_ap {f : D → Gh → Prop} {d : D} {g : Gh} : @blk ⟨f⟩ d g = f d g := rfl
section
variable {C : Calls} {S : Nat → Nat → Bool} {r : En} {K : Ks}
theorem s_set {i : Nat} {e : Ex} : stW C S (.set i e) r K = exW C e r (fun x r1 => asg i r1 x K.nx) K.ex := rfl
theorem s_par {is : List Nat} {es : Exs} : stW C S (.par is es) r K = rsW C es r (fun xs r1 => asgs is xs r1 K.nx) K.ex := rfl
theorem s_unp {t : Tg} {e : Ex} : stW C S (.unp t e) r K = exW C e r (fun x r1 => frz r1 x fun d r2 => tgW t d r2 K.nx) K.ex := rfl
theorem s_ret {e : Ex} : stW C S (.ret e) r K = exW C e r (fun x r1 => frz r1 x fun d r2 => K.rt d r2) K.ex := rfl
theorem s_retN : stW C S .retN r K = K.rt .none r := rfl
theorem s_drop {e : Ex} : stW C S (.drop e) r K = exW C e r (fun _ r1 => K.nx r1) K.ex := rfl
theorem s_if {t : Ts} {a b : Sts} : stW C S (.ifs t a b) r K = tsW C t r (fun c r1 => if c = true then stsW C S a r1 K else stsW C S b r1 K) K.ex := rfl
theorem x_jn {s : Src} {K : Rz → En → Prop} {X : XW} : exW C (.jn s) r K X = (match srcK r s with | some k => (match gget r.g k with | some (.list ds) => K (.val (.bool (!ds.isEmpty))) r | _ => False) | none => False) := rfl
theorem x_jp {s : Src} {b : Bool} {K : Rz → En → Prop} {X : XW} : exW C (.jp s b) r K X = (match srcK r s with
    | some k => (match gget r.g k with
      | some (.list ds) => (match (if b = true then ds.head? else ds.getLast?) with
        | some d => K (.val d) (r.at (gput r.g k (.list (if b = true then ds.tail else ds.dropLast))))
        | none => False)
      | _ => False)
    | none => False) := rfl
theorem x_scut {i : Nat} {n : Int} {K : Rz → En → Prop} {X : XW} : exW C (.scut i n) r K X = (isJar (rd r i) = true ∧ (match gget r.g (.inl 0) with | some (.list ds) => K (.new (cutD ds none (some n))) r | _ => False)) := rfl
theorem x_slen {i : Nat} {K : Rz → En → Prop} {X : XW} : exW C (.slen i) r K X = (isJar (rd r i) = true ∧ (match gget r.g (.inl 0) with | some (.list ds) => K (.val (.int (ds.length : Int))) r | _ => False)) := rfl
theorem x_popA {i : Nat} {n : Int} {K : Rz → En → Prop} {X : XW} : exW C (.popA i n) r K X = (match rd r i with | .ow ds => (match L2.ixN ds.length n with | some j => (-(2 ^ 63) ≤ n ∧ n < 2 ^ 63) ∧ K (.val (ds.getD j .none)) (r.set i (.ow (ds.eraseIdx j))) | none => False) | _ => False) := rfl
theorem x_callB {f : Nat} {es : Exs} {K : Rz → En → Prop} {X : XW} : exW C (.call f es) r K X = exsW C es r (fun ds r1 => C f ds r1.g (@blk ⟨fun d g => K (.val d) (r1.at g)⟩) (fun e g => X e (r1.at g))) X := rfl
theorem x_callkB {f : Nat} {es ks : Exs} {ps : List Nat} {K : Rz → En → Prop} {X : XW} : exW C (.callk f es ks ps) r K X = exsW C es r (fun ds r1 => exsW C ks r1 (fun ws r2 => C f (ps.map fun p => (ds ++ ws).getD p .none) r2.g (@blk ⟨fun d g => K (.val d) (r2.at g)⟩) (fun e g => X e (r2.at g))) X) X := rfl
/-- what comes behind a statement -/
def nxS (C : Calls) (S : Nat → Nat → Bool) (ss : Sts) (K : Ks) : En → Prop := fun r => stsW C S ss r K
theorem s_cs {s : St} {ss : Sts} : stsW C S (.cons s ss) r K = stW C S s r { K with nx := nxS C S ss K } := rfl
theorem nx_ap {ss : Sts} {s : List Slot} {g : Gh} : nxS C S ss K ⟨s, g⟩ = stsW C S ss ⟨s, g⟩ K := rfl
/-- a while loop's turn -/
def whB (C : Calls) (S : Nat → Nat → Bool) (b : Sts) (K : Ks) : En → (En → Prop) → Prop := fun r k => stsW C S b r { K with nx := k, ct := k, bk := K.nx }
def whT (C : Calls) (t : Ts) (K : Ks) : En → (Bool → En → Prop) → Prop := fun r k => tsW C t r k K.ex
theorem s_whl {t : Ts} {b : Sts} : stW C S (.whl t b) r K = whlW (whT C t K) (whB C S b K) K.nx r := rfl
theorem s_app {i : Nat} {e : Ex} : stW C S (.app i e) r K = (isOw (rd r i) = true ∧ exW C e r (fun x r1 => frz r1 x fun d r2 => (match rd r2 i with | .ow ds => ds.length < SZ ∧ K.nx (r2.set i (.ow (ds ++ [d]))) | _ => False)) K.ex) := rfl
theorem s_ext {i : Nat} {e : Ex} : stW C S (.ext i e) r K = (isOw (rd r i) = true ∧ exW C e r (fun x r1 => frz r1 x fun d r2 => (match d with
      | .list xs => (match rd r2 i with | .ow ds => ds.length + xs.length ≤ SZ ∧ K.nx (r2.set i (.ow (ds ++ xs))) | _ => False)
      | _ => False)) K.ex) := rfl
theorem s_put {i : Nat} {a e : Ex} : stW C S (.put i a e) r K = (isOw (rd r i) = true ∧ exW C e r (fun y r1 => frz r1 y fun d r2 => exW C a r2 (fun x r3 => der r3 x fun k => (match k with
      | .int j => (match rd r3 i with
        | .ow ds => (match L2.ixN ds.length j with | some m => K.nx (r3.set i (.ow (ds.set m d))) | none => False)
        | _ => False)
      | _ => False)) K.ex) K.ex) := rfl
theorem s_ja {s : Src} {e : Ex} : stW C S (.ja s e) r K = (srcL r s = true ∧ exW C e r (fun x r1 => der r1 x fun d => (match d with
      | .int n => (match srcK r1 s with
        | some k => (match gget r1.g k with
          | some (.list ds) => ds.length < SZ ∧ K.nx (r1.at (gput r1.g k (.list (ds ++ [.int n]))))
          | _ => False)
        | none => False)
      | _ => False)) K.ex) := rfl
theorem s_ji {s : Src} {e : Ex} : stW C S (.ji s e) r K = (srcL r s = true ∧ exW C e r (fun x r1 => der r1 x fun d => (match d with
      | .int n => (match srcK r1 s with
        | some k => (match gget r1.g k with
          | some (.list ds) => ds.length < SZ ∧ K.nx (r1.at (gput r1.g k (.list (.int n :: ds))))
          | _ => False)
        | none => False)
      | _ => False)) K.ex) := rfl
theorem s_js {i : Nat} {k : Sum Int Str} {e : Ex} : stW C S (.js i k e) r K = exW C e r (fun x r1 => der r1 x fun d => (match d with
      | .int n => isJar (rd r1 i) = true ∧ (match gget r1.g k with
        | some (.int _) => K.nx (r1.at (gput r1.g k (.int n)))
        | _ => False)
      | _ => False)) K.ex := rfl
theorem s_jl {j i : Nat} {k : Sum Int Str} : stW C S (.jl j i k) r K = (isJar (rd r i) = true ∧ (match gget r.g k with | some (.list _) => K.nx (r.set j (.al k)) | _ => False)) := rfl
theorem s_rais {c : Nat} {f : Option Str} {es : Exs} : stW C S (.rais c f es) r K = exsW C es r (fun ds r1 => K.ex ⟨c, raisA f ds⟩ r1) K.ex := rfl
theorem x_calld {f : Nat} {es : Exs} {ns : List Int} {K : Rz → En → Prop} {X : XW} : exW C (.calld f es ns) r K X = exsW C es r (fun ds r1 => C f (ds ++ ns.map .int) r1.g (fun d g => K (.val d) (r1.at g)) (fun e g => X e (r1.at g))) X := rfl
theorem x_calldB {f : Nat} {es : Exs} {ns : List Int} {K : Rz → En → Prop} {X : XW} : exW C (.calld f es ns) r K X = exsW C es r (fun ds r1 => C f (ds ++ ns.map .int) r1.g (@blk ⟨fun d g => K (.val d) (r1.at g)⟩) (fun e g => X e (r1.at g))) X := rfl
theorem x_lw {w : It} {K : Rz → En → Prop} {X : XW} : exW C (.lw w) r K X = itW C w r (fun ds r1 => ds.length ≤ SZ ∧ K (.new ds) r1) X := rfl
theorem hd_nil {e : Exn} : hdW S K e r .nil = K.ex e r := rfl
theorem hd_cons {e : Exn} {c : Nat} {n : Option Nat} {u : Hu} {hs : Hds} : hdW S K e r (.cons c n u hs) = if S e.cls c = true then huW S K e (unN r n) u else hdW S K e r hs := rfl
theorem un_s {s : List Slot} {g : Gh} {i : Nat} : unN ⟨s, g⟩ (some i) = ⟨s.set i .un, g⟩ := rfl
theorem un_n : unN r none = r := rfl
theorem hu_ret {e : Exn} {h : Hx} : huW S K e r (.ret h) = hxW S e h (fun d => K.rt d r) := rfl
theorem hu_ifr {e : Exn} {t h : Hx} {u : Hu} : huW S K e r (.ifr t h u) = hxW S e t (fun d => (match d with | .bool b => (if b = true then hxW S e h (fun d => K.rt d r) else huW S K e r u) | _ => False)) := rfl
theorem hx_b {e : Exn} {x : Bool} {k : D → Prop} : hxW S e (.b x) k = k (.bool x) := rfl
theorem hx_s {e : Exn} {x : Str} {k : D → Prop} : hxW S e (.s x) k = k (.str x) := rfl
theorem hx_i {e : Exn} {x : Int} {k : D → Prop} : hxW S e (.i x) k = k (.int x) := rfl
theorem hx_n {e : Exn} {k : D → Prop} : hxW S e .n k = k .none := rfl
theorem hx_fld {f : Str} {c : Nat} {d : D} {g : Str} {k : D → Prop} : hxW S ⟨c, some (g, d)⟩ (.fld f) k = (g = f ∧ k d) := rfl
theorem hx_isA {e : Exn} {cs : List Nat} {k : D → Prop} : hxW S e (.isA cs) k = k (.bool (cs.any fun c => S e.cls c)) := rfl
theorem hx_nt {e : Exn} {a : Hx} {k : D → Prop} : hxW S e (.nt a) k = hxW S e a (fun d => (match d with | .bool b => k (.bool (!b)) | _ => False)) := rfl
theorem hx_and {e : Exn} {a b : Hx} {k : D → Prop} : hxW S e (.and a b) k = hxW S e a (fun d => (match d with | .bool c => (if c = true then hxW S e b k else k (.bool false)) | _ => False)) := rfl
theorem hx_ite {e : Exn} {t a b : Hx} {k : D → Prop} : hxW S e (.ite t a b) k = hxW S e t (fun d => (match d with | .bool c => (if c = true then hxW S e a k else hxW S e b k) | _ => False)) := rfl
theorem hx_lst {e : Exn} {hs : Hxs} {k : D → Prop} : hxW S e (.lst hs) k = hxsW S e hs (fun ds => k (.list ds)) := rfl
theorem hx_tup {e : Exn} {hs : Hxs} {k : D → Prop} : hxW S e (.tup hs) k = hxsW S e hs (fun ds => k (.tuple ds)) := rfl
theorem hxs_nil {e : Exn} {k : List D → Prop} : hxsW S e .nil k = k [] := rfl
theorem hxs_cons {e : Exn} {h : Hx} {hs : Hxs} {k : List D → Prop} : hxsW S e (.cons h hs) k = hxW S e h (fun d => hxsW S e hs (fun ds => k (d :: ds))) := rfl
theorem ra_none {ds : List D} : raisA none ds = none := rfl
theorem ra_some {f : Str} {d : D} : raisA (some f) [d] = some (f, d) := rfl
theorem s_pass : stW C S .pass r K = K.nx r := rfl
theorem s_brk : stW C S .brk r K = K.bk r := rfl
theorem s_cont : stW C S .cont r K = K.ct r := rfl
theorem s_tri {b : Sts} {hs : Hds} : stW C S (.tri b hs) r K = stsW C S b r { K with ex := fun e r1 => hdW S K e r1 hs } := rfl
/-- a while loop with an invariant and a measure -/
theorem whl_inv {t : En → (Bool → En → Prop) → Prop} {b : En → (En → Prop) → Prop} {nx : En → Prop} {r : En} (P : Nat → En → Prop) {m : Nat} (h0 : P m r) (h : ∀ m r, P m r → t r fun c r1 => if c = true then b r1 fun r2 => ∃ m', m' < m ∧ P m' r2 else nx r1) : whlW t b nx r := ⟨P, ⟨m, h0⟩, h⟩
end
end G

set_option linter.all false
set_option maxRecDepth 100000
set_option Elab.async false
/-! Pz: more words for plain laws: slices from behind, places, items of lists, equality. -/
namespace G
open PySem
theorem sIx_neg {n d k : Nat} (hk : 0 < k) : HT.sIx n d (some (-(k : Int))) = n - k := by
  show (if (-(k : Int)) < 0 then ((-(k : Int)) + (n : Int)).toNat else min (-(k : Int)).toNat n) = n - k
  rw [if_pos (by omega)]
  omega
theorem cut_toneg {xs : List D} {k : Nat} (hk : 0 < k) : cutD xs none (some (-(k : Int))) = xs.take (xs.length - k) := by
  unfold cutD
  rw [HT.sIx_none, sIx_neg hk, List.drop_zero, Nat.sub_zero]
theorem cut_m1 {xs : List D} : cutD xs none (some (-1)) = xs.take (xs.length - 1) := cut_toneg (k := 1) (by decide)
theorem cut_fromneg {xs : List D} {k : Nat} (hk : 0 < k) : cutD xs (some (-(k : Int))) none = xs.drop (xs.length - k) := by
  unfold cutD
  rw [HT.sIx_none, sIx_neg hk]
  exact List.take_of_length_le (by rw [List.length_drop]; omega)
theorem cut_m2 {xs : List D} : cutD xs (some (-2)) none = xs.drop (xs.length - 2) := cut_fromneg (k := 2) (by decide)
theorem at_neg {xs : List D} {k : Nat} {d : D} (hk : 0 < k) (h2 : k ≤ xs.length) (h : xs[xs.length - k]? = some d) : atD xs (-(k : Int)) = some d := by
  unfold atD L2.atI L2.ixN
  rw [if_neg (by omega), if_pos (by omega)]
  show xs[((-(k : Int)) + xs.length).toNat]? = some d
  rw [show ((-(k : Int)) + (xs.length : Int)).toNat = xs.length - k by omega]
  exact h
theorem at_nat' {xs : List D} {k : Nat} {d : D} (h : xs[k]? = some d) : atD xs (k : Int) = some d := L2.atI_nat h
theorem at_int {ns : List Int} {k : Nat} (hk : k < ns.length) : atD (ns.map .int) (k : Int) = some (.int ns[k]) := L2.atI_nat (by rw [List.getElem?_map, List.getElem?_eq_getElem hk]; rfl)
theorem rep_ints0 {k : Nat} {ns : List Int} : (List.replicate k (ns.map PyData.int)).flatten = ((List.replicate k ns).flatten).map PyData.int := by
  rw [List.map_flatten, List.map_replicate]
theorem fmod_nat (a b : Nat) : ((a : Int)).fmod (b : Int) = ((a % b : Nat) : Int) := by
  rw [Int.fmod_eq_emod_of_nonneg _ (by omega)]; rfl
theorem fdiv_nat (a b : Nat) : ((a : Int)).fdiv (b : Int) = ((a / b : Nat) : Int) := by
  rw [Int.fdiv_eq_ediv_of_nonneg _ (by omega)]; rfl
/-! all items of a list -/
def All (P : D → Prop) (ds : List D) : Prop := ∀ x ∈ ds, P x
section
variable {P : D → Prop} {xs ys : List D}
theorem All.nil : All P [] := by intro x hx; cases hx
theorem All.cons {x : D} (h : P x) (h2 : All P xs) : All P (x :: xs) := by
  intro y hy
  rcases List.mem_cons.mp hy with rfl | hy
  · exact h
  · exact h2 y hy
theorem All.app (h : All P xs) (h2 : All P ys) : All P (xs ++ ys) := fun x hx => (List.mem_append.mp hx).elim (h x) (h2 x)
theorem All.take (h : All P xs) {k : Nat} : All P (xs.take k) := fun x hx => h x (List.mem_of_mem_take hx)
theorem All.drop (h : All P xs) {k : Nat} : All P (xs.drop k) := fun x hx => h x (List.mem_of_mem_drop hx)
theorem All.rev (h : All P xs) : All P xs.reverse := fun x hx => h x (List.mem_reverse.mp hx)
theorem All.rep (h : All P xs) {k : Nat} : All P (List.replicate k xs).flatten := by
  intro x hx
  obtain ⟨l, hl, hx⟩ := List.mem_flatten.mp hx
  rw [(List.mem_replicate.mp hl).2] at hx
  exact h x hx
theorem All.mono {Q : D → Prop} (h : All P xs) (f : ∀ x, P x → Q x) : All Q xs := fun x hx => f x (h x hx)
end
theorem rep_len {α : Type} {k : Nat} {xs : List α} : (List.replicate k xs).flatten.length = k * xs.length := by
  rw [List.length_flatten, List.map_replicate, List.sum_replicate_nat]
end G
namespace G
open PySem
theorem bi_isT {d : D} {K : Rz → Prop} : biW .isTuple [d] K = (ND d ∧ K (.val (.bool (isD .isTuple d)))) := rfl
theorem bi_isI {d : D} {K : Rz → Prop} : biW .isInt [d] K = (ND d ∧ K (.val (.bool (isD .isInt d)))) := rfl
theorem bi_isB {d : D} {K : Rz → Prop} : biW .isBool [d] K = (ND d ∧ K (.val (.bool (isD .isBool d)))) := rfl
theorem bi_isS {d : D} {K : Rz → Prop} : biW .isStr [d] K = (ND d ∧ K (.val (.bool (isD .isStr d)))) := rfl
theorem bi_isL {d : D} {K : Rz → Prop} : biW .isList [d] K = (ND d ∧ K (.val (.bool (isD .isList d)))) := rfl
theorem range_get {lo : Int} {n i : Nat} {d : D} (h : (rangeD lo n)[i]? = some d) : i < n ∧ d = .int (lo + i) := by
  have hi : i < n := by
    have := (List.getElem?_eq_some_iff.mp h).1
    unfold rangeD at this
    simpa using this
  refine ⟨hi, ?_⟩
  unfold rangeD at h
  rw [List.getElem?_map, List.getElem?_range hi] at h
  cases h
  rfl
theorem rangeD_len {lo : Int} {n : Nat} : (rangeD lo n).length = n := by unfold rangeD; rw [List.length_map, List.length_range]
theorem enum_get {ds : List D} {i : Nat} {d : D} (h : (enumD ds)[i]? = some d) : ∃ x, ds[i]? = some x ∧ d = .tuple [.int (i : Int), x] := by
  unfold enumD at h
  rw [List.getElem?_mapIdx] at h
  cases e : ds[i]? with
  | none => rw [e] at h; cases h
  | some x => rw [e] at h; cases h; exact ⟨x, rfl, rfl⟩
end G
namespace G
open PySem
theorem eqw_int {i j : Int} {K : Bool → Prop} : eqW (.int i) (.int j) K = K (decide (i = j)) := rfl
theorem eqw_str {i j : Str} {K : Bool → Prop} : eqW (.str i) (.str j) K = K (decide (i = j)) := rfl
theorem eqw_tup {xs : List D} {b : D} {K : Bool → Prop} : eqW (.tuple xs) b K = (shaped (.tuple xs) ∧ shaped b ∧ K (PyData.eqv (.tuple xs) b)) := rfl
theorem eqw_lst {xs : List D} {b : D} {K : Bool → Prop} : eqW (.list xs) b K = (shaped (.list xs) ∧ shaped b ∧ K (PyData.eqv (.list xs) b)) := rfl
theorem asInts_map : ∀ ns : List Int, asInts (ns.map .int) = some ns
  | [] => rfl
  | n :: ns => by
    show (asInts (ns.map PyData.int)).map (n :: ·) = _
    rw [asInts_map ns]
    rfl
theorem asBools_map : ∀ ns : List Bool, asBools (ns.map .bool) = some ns
  | [] => rfl
  | n :: ns => by
    show (asBools (ns.map PyData.bool)).map (n :: ·) = _
    rw [asBools_map ns]
    rfl
theorem eqv_pair {a b c d : Int} : PyData.eqv (.tuple [.int a, .int b]) (.tuple [.int c, .int d]) = decide ((a, b) = (c, d)) := by
  simp only [PyData.eqv, PyData.eqvAll, Bool.and_true, Prod.mk.injEq, Bool.decide_and]
  rfl
theorem shaped_pair {a b : Int} : shaped (.tuple [.int a, .int b]) = True := eq_true (show SeqAt.shaped _ = true from rfl)
end G
namespace G
open PySem
/-- a comprehension over a list that is a picture -/
theorem turns_pic {α : Type} {f : D → En → (Option D → En → Prop) → Prop} {r : En} (e h : α → D) : ∀ {xs : List α} {acc : List D} {K : List D → En → Prop}, (∀ x ∈ xs, ∀ k : Option D → En → Prop, k (some (h x)) r → f (e x) r k) → K (acc ++ xs.map h) r → turns f (xs.map e) acc r K
  | [], acc, K, _, q => by
    unfold turns
    simpa using q
  | x :: xs, acc, K, hs, q => by
    show turns f (e x :: xs.map e) acc r K
    unfold turns
    refine hs x List.mem_cons_self _ ?_
    refine turns_pic e h (fun y hy => hs y (List.mem_cons_of_mem _ hy)) ?_
    rw [List.append_assoc]
    exact q
end G
namespace G
open PySem
/-- the same, with a test -/
theorem turns_pic' {α : Type} {f : D → En → (Option D → En → Prop) → Prop} {r : En} (p : α → Bool) (e h : α → D) : ∀ {xs : List α} {acc : List D} {K : List D → En → Prop}, (∀ x ∈ xs, ∀ k : Option D → En → Prop, (p x = true → k (some (h x)) r) → (p x = false → k none r) → f (e x) r k) → K (acc ++ (xs.filter p).map h) r → turns f (xs.map e) acc r K
  | [], acc, K, _, q => by
    unfold turns
    simpa using q
  | x :: xs, acc, K, hs, q => by
    show turns f (e x :: xs.map e) acc r K
    unfold turns
    have tl : ∀ y ∈ xs, ∀ k : Option D → En → Prop, (p y = true → k (some (h y)) r) → (p y = false → k none r) → f (e y) r k := fun y hy => hs y (List.mem_cons_of_mem _ hy)
    refine hs x List.mem_cons_self _ (fun hp => ?_) fun hp => ?_
    · rw [List.filter_cons_of_pos hp] at q
      refine turns_pic' p e h tl ?_
      rw [List.append_assoc]
      exact q
    · rw [List.filter_cons_of_neg (by rw [hp]; decide)] at q
      exact turns_pic' p e h tl q
end G

set_option linter.all false
set_option maxRecDepth 100000
set_option Elab.async false
/-! Pw: shapes of lists, equality of pictures, the last place. -/
namespace G
open PySem
theorem canAll {ds : List D} (h : ∀ d ∈ ds, d.canLay0 = true) : PyData.canLayAll0 ds = true := by
  induction ds with
  | nil => rfl
  | cons d ds ih => simp only [PyData.canLayAll0, h d List.mem_cons_self, ih fun x hx => h x (List.mem_cons_of_mem _ hx), Bool.and_self]
theorem depAll {n : Nat} {ds : List D} (h : ∀ d ∈ ds, d.depth ≤ n) : PyData.depthAll ds ≤ n := by
  induction ds with
  | nil => exact Nat.zero_le _
  | cons d ds ih =>
    simp only [PyData.depthAll]
    exact Nat.max_le.mpr ⟨h d List.mem_cons_self, ih fun x hx => h x (List.mem_cons_of_mem _ hx)⟩
/-- may be compared, n deep -/
def Shp (n : Nat) (d : D) : Prop := d.canLay0 = true ∧ d.depth ≤ n
theorem shp_lst {n : Nat} {ds : List D} (h : ∀ d ∈ ds, Shp n d) : Shp (n + 1) (.list ds) := by
  refine ⟨by simp only [PyData.canLay0]; exact canAll fun d hd => (h d hd).1, ?_⟩
  simp only [PyData.depth]
  have := depAll fun d hd => (h d hd).2
  omega
theorem shp_tup {n : Nat} {ds : List D} (h : ∀ d ∈ ds, Shp n d) : Shp (n + 1) (.tuple ds) := by
  refine ⟨by simp only [PyData.canLay0]; exact canAll fun d hd => (h d hd).1, ?_⟩
  simp only [PyData.depth]
  have := depAll fun d hd => (h d hd).2
  omega
theorem shp_int {i : Int} : Shp 0 (.int i) := ⟨rfl, Nat.le_refl _⟩
theorem Shp.ok {n : Nat} {d : D} (h : Shp n d) (hn : n ≤ 64) : shaped d := by
  show SeqAt.shaped d = true
  unfold SeqAt.shaped
  rw [Bool.and_eq_true]
  exact ⟨h.1, decide_eq_true (Nat.le_trans h.2 hn)⟩
theorem Shp.mono {n m : Nat} {d : D} (h : Shp n d) (hn : n ≤ m) : Shp m d := ⟨h.1, Nat.le_trans h.2 hn⟩
theorem mem_map_all {α : Type} {f : α → D} {P : D → Prop} {xs : List α} (h : ∀ x ∈ xs, P (f x)) : ∀ d ∈ xs.map f, P d := fun d hd => by
  obtain ⟨x, hx, rfl⟩ := List.mem_map.mp hd
  exact h x hx
theorem eqvAll_map {α : Type} [DecidableEq α] {f : α → D} (hf : ∀ a b, PyData.eqv (f a) (f b) = decide (a = b)) : ∀ xs ys : List α, PyData.eqvAll (xs.map f) (ys.map f) = decide (xs = ys)
  | [], [] => rfl
  | x :: xs, y :: ys => by
    simp only [List.map_cons, PyData.eqvAll, hf, eqvAll_map hf xs ys, List.cons.injEq, Bool.decide_and]
  | [], _ :: _ => rfl
  | _ :: _, [] => rfl
theorem eqv_nil (xs : List D) : PyData.eqv (.list xs) (.list []) = xs.isEmpty := by
  cases xs <;> simp only [PyData.eqv, PyData.eqvAll, List.isEmpty_nil, List.isEmpty_cons]
theorem eqv_int (a b : Int) : PyData.eqv (.int a) (.int b) = decide (a = b) := by simp only [PyData.eqv]; rfl
theorem at_last {xs : List D} {d : D} : atD (xs ++ [d]) (-1) = some d := at_neg (k := 1) (by decide) (by rw [List.length_append, List.length_singleton]; omega) (by simp)
theorem ixN_last {n : Nat} : L2.ixN (n + 1) (-1) = some n := by
  unfold L2.ixN
  rw [if_neg (by decide), if_pos (by omega)]
  congr 1
  omega
theorem set_last {xs : List D} {d e : D} : (xs ++ [d]).set xs.length e = xs ++ [e] := by simp
theorem turns_flt {f : D → En → (Option D → En → Prop) → Prop} {r : En} (p : D → Bool) (h : D → D) {xs acc : List D} {K : List D → En → Prop} (hs : ∀ x ∈ xs, ∀ k : Option D → En → Prop, (p x = true → k (some (h x)) r) → (p x = false → k none r) → f x r k) (q : K (acc ++ (xs.filter p).map h) r) : turns f xs acc r K := by
  have := turns_pic' p (fun d => d) h (xs := xs) (acc := acc) (K := K) hs q
  rw [List.map_id'] at this
  exact this
theorem turns_all {f : D → En → (Option D → En → Prop) → Prop} {r : En} (h : D → D) {xs acc : List D} {K : List D → En → Prop} (hs : ∀ x ∈ xs, ∀ k : Option D → En → Prop, k (some (h x)) r → f x r k) (q : K (acc ++ xs.map h) r) : turns f xs acc r K := by
  have := turns_pic (fun d => d) h (xs := xs) (acc := acc) (K := K) hs q
  rw [List.map_id'] at this
  exact this
/-- the statements behind the first one -/
def stTl : Sts → Sts | .cons _ ss => ss | .nil => .nil
theorem stTl_c {s : St} {ss : Sts} : stTl (.cons s ss) = ss := rfl
theorem forL_c {f : D → En → (En → Prop) → Prop} {nx : En → Prop} {d : D} {ds : List D} {r : En} : forL f nx (d :: ds) r = f d r fun r1 => forL f nx ds r1 := rfl
theorem forL_n {f : D → En → (En → Prop) → Prop} {nx : En → Prop} {r : En} : forL f nx [] r = nx r := rfl
theorem turns_c {f : D → En → (Option D → En → Prop) → Prop} {d : D} {ds acc : List D} {r : En} {K : List D → En → Prop} : turns f (d :: ds) acc r K = f d r fun o r1 => (match o with | some x => turns f ds (acc ++ [x]) r1 K | none => turns f ds acc r1 K) := rfl
theorem turns_n {f : D → En → (Option D → En → Prop) → Prop} {acc : List D} {r : En} {K : List D → En → Prop} : turns f [] acc r K = K acc r := rfl
theorem Val.rep {dp m : Nat} {d : D} (v : Val dp m d) (h1 : dp ≤ 64) (h2 : m ≤ 16777216) : d.showable = true ∧ d.depth ≤ 64 ∧ ND d ∧ d.shown.length ≤ SZ := ⟨v.sh, Nat.le_trans v.dp h1, .inl v.nd, Nat.le_trans v.ln h2⟩
theorem Val.rp {dp m : Nat} {d : D} {P : Prop} (h : Val dp m d) (h1 : dp ≤ 64) (h2 : m ≤ SZ) (q : P) : d.showable = true ∧ d.depth ≤ 64 ∧ ND d ∧ d.shown.length ≤ SZ ∧ P := ⟨h.sh, Nat.le_trans h.dp h1, .inl h.nd, Nat.le_trans h.ln h2, q⟩
/-- may be shown: plain, or {} -/
def Shn (m : Nat) (d : D) : Prop := Val 60 m d ∨ d = .dict []
theorem Shn.rp {m : Nat} {d : D} {P : Prop} (h : Shn m d) (h2 : m ≤ SZ) (q : P) : d.showable = true ∧ d.depth ≤ 64 ∧ ND d ∧ d.shown.length ≤ SZ ∧ P := by
  rcases h with h | rfl
  · exact h.rp (by decide) h2 q
  · exact ⟨rfl, by decide, .inr rfl, by decide, q⟩
theorem Shn.nd {m : Nat} {d : D} (h : Shn m d) : ND d := by
  rcases h with h | rfl
  · exact .inl h.nd
  · exact .inr rfl
theorem eqw_bool {a : Bool} {b : D} {K : Bool → Prop} : eqW (.bool a) b K = (shaped (.bool a) ∧ shaped b ∧ K (PyData.eqv (.bool a) b)) := rfl
theorem shaped_bool {a : Bool} : shaped (.bool a) = True := eq_true (show SeqAt.shaped _ = true from rfl)
theorem eqv_bool {a b : Bool} : PyData.eqv (.bool a) (.bool b) = (a == b) := by simp only [PyData.eqv]
def stHd : Sts → St | .cons s _ => s | .nil => .pass
theorem stHd_c {s : St} {ss : Sts} : stHd (.cons s ss) = s := rfl
def ifA : St → Sts | .ifs _ a _ => a | _ => .nil
def ifB : St → Sts | .ifs _ _ b => b | _ => .nil
theorem ifA_c {t : Ts} {a b : Sts} : ifA (.ifs t a b) = a := rfl
theorem ifB_c {t : Ts} {a b : Sts} : ifB (.ifs t a b) = b := rfl
theorem sq0 (x : Int) : 0 ≤ x * x := by
  rcases Int.lt_or_le x 0 with h | h
  · exact Int.le_of_lt (Int.mul_pos_of_neg_of_neg h h)
  · exact Int.mul_nonneg h h
theorem x_dct0 {C : Calls} {r : En} {K : Rz → En → Prop} {X : XW} : exW C .dct0 r K X = K (.val (.dict [])) r := rfl
end G

set_option linter.all false
set_option maxRecDepth 100000
namespace G01
open PySem PySem.Spec PyProof.Rows L2 G
def topS (i : Nat) : Stmt := PySem.Challenge.pw_gridfields_k01_whole_points_and_frames.main.body.getD i (.Pass ⟨0, 0, 0, 0⟩)
def d0_1 : Sts := (.cons (.set 2 (.jp (.fld 0 (.inl (0))) false)) (.cons (.js 0 (.inl (1)) (.ite (.e (.cmp .gt (.v 2) (.bin .pow (.i (10)) (.i (9))))) (.v 2) (.i (0)))) .nil))
abbrev st0 : Stmt := topS 20
/-- _law_draw -/
def d0 : Df := { nm := "_law_draw", ps := ["bag", "below"], N := ["bag", "below", "cell", "found"], b := (.cons (.whl (.and (.e (.cmp .eq (.jg 0 (.inl (1))) (.i (0)))) (.e (.jn (.fld 0 (.inl (0)))))) d0_1) (.cons (.ifs (.e (.cmp .gt (.jg 0 (.inl (1))) (.i (0)))) (.cons (.set 3 (.bin .mod (.bi .int (.cons (.jg 0 (.inl (1))) .nil)) (.v 1))) (.cons (.js 0 (.inl (1)) (.bin .fdiv (.jg 0 (.inl (1))) (.v 1))) (.cons (.ret (.v 3)) .nil))) .nil) (.cons (.js 0 (.inl (2)) (.bin .mod (.bi .int (.cons (.bin .add (.bin .mul (.jg 0 (.inl (2))) (.i (48271))) (.i (13))) .nil)) (.i (2147483647)))) (.cons (.ret (.bin .mod (.bi .int (.cons (.bin .fdiv (.bin .mod (.bi .int (.cons (.bin .mul (.jg 0 (.inl (2))) (.jg 0 (.inl (2)))) .nil)) (.i (2147483629))) (.i (7))) .nil)) (.v 1))) .nil)))) }
abbrev st1 : Stmt := topS 36
/-- _law_put -/
def d1 : Df := { nm := "_law_put", ps := ["frame", "place", "item"], N := ["frame", "place", "item"], b := (.cons (.ret (.bin .add (.bin .add (.cut (.v 0) .no (.so (.v 1))) (.tup (.cons (.v 2) .nil))) (.cut (.v 0) (.so (.bin .add (.v 1) (.i (1)))) .no))) .nil) }
abbrev st2 : Stmt := topS 21
/-- _law_pick -/
def d2 : Df := { nm := "_law_pick", ps := ["bag", "some"], N := ["bag", "some"], b := (.cons (.ret (.ix (.v 1) (.call 0 (.cons (.v 0) (.cons (.bi .len (.cons (.v 1) .nil)) .nil))))) .nil) }
abbrev st3 : Stmt := topS 37
/-- _law_frame_values -/
def d3 : Df := { nm := "_law_frame_values", ps := ["bag", "frame"], N := ["bag", "frame", "items", "place", "other", "found", "item"], b := (.cons (.set 2 (.lst (.cons (.b true) (.cons (.b false) (.cons (.s "1") (.cons .n (.cons (.tup (.cons (.i (1)) .nil)) (.cons (.i (1000000)) (.cons (.i (1000001)) (.cons (.neg (.i (1000001))) (.cons (.neg (.i (1000000))) (.cons (.bin .pow (.i (10)) (.i (59))) (.cons (.bin .add (.ix (.v 1) (.i (0))) (.i (1))) .nil))))))))))))) (.cons (.par [3, 4] (.cons (.call 0 (.cons (.v 0) (.cons (.i (6)) .nil))) (.cons (.call 0 (.cons (.v 0) (.cons (.i (6)) .nil))) .nil))) (.cons (.set 5 (.comp (.call 1 (.cons (.v 1) (.cons (.v 3) (.cons (.v 6) .nil)))) (.v 6) (.e (.v 2)) .yes [("item", 6)])) (.cons (.ext 5 (.lst (.cons (.v 1) (.cons (.bi .list (.cons (.v 1) .nil)) (.cons (.cut (.v 1) .no (.so (.i (5)))) (.cons (.bin .add (.v 1) (.tup (.cons (.i (0)) .nil))) (.cons (.tup .nil) (.cons .n (.cons (.s "1 0 0 1 0 0") (.cons (.b true) (.cons (.tup (.cons (.v 1) .nil)) (.cons .dct0 .nil)))))))))))) (.cons (.ext 5 (.lst (.cons (.tup (.cons (.i (2)) (.cons (.i (0)) (.cons (.i (0)) (.cons (.i (1)) (.cons (.i (0)) (.cons (.i (0)) .nil))))))) (.cons (.tup (.cons (.i (0)) (.cons (.i (0)) (.cons (.i (0)) (.cons (.i (0)) (.cons (.i (0)) (.cons (.i (0)) .nil))))))) (.cons (.tup (.cons (.i (1)) (.cons (.i (2)) (.cons (.i (2)) (.cons (.i (2)) (.cons (.i (0)) (.cons (.i (0)) .nil))))))) (.cons (.tup (.cons (.i (1)) (.cons (.i (1000000)) (.cons (.i (0)) (.cons (.i (1)) (.cons (.i (0)) (.cons (.i (0)) .nil))))))) .nil)))))) (.cons (.ext 5 (.lst (.cons (.tup (.cons (.i (2)) (.cons (.b true) (.cons (.i (0)) (.cons (.i (1)) (.cons (.i (0)) (.cons (.i (0)) .nil))))))) (.cons (.tup (.cons (.neg (.i (1))) (.cons (.i (0)) (.cons (.i (0)) (.cons (.i (1)) (.cons (.i (1000000)) (.cons (.neg (.i (1000000))) .nil))))))) (.cons (.tup (.cons (.i (1)) (.cons (.i (0)) (.cons (.i (0)) (.cons (.i (1)) (.cons (.i (0)) (.cons (.i (1000001)) .nil))))))) .nil))))) (.cons (.ext 5 (.lst (.cons (.tup (.cons (.i (3)) (.cons (.i (1)) (.cons (.i (1)) (.cons (.i (0)) (.cons (.i (0)) (.cons (.s "0") .nil))))))) (.cons (.tup (.cons (.i (0)) (.cons (.i (1)) (.cons (.neg (.i (1))) (.cons (.i (0)) (.cons (.i (0)) (.cons (.i (0)) (.cons (.i (0)) .nil)))))))) .nil)))) (.cons (.app 5 (.call 1 (.cons (.call 1 (.cons (.v 1) (.cons (.v 3) (.cons (.call 2 (.cons (.v 0) (.cons (.v 2) .nil))) .nil)))) (.cons (.v 4) (.cons (.call 2 (.cons (.v 0) (.cons (.v 2) .nil))) .nil))))) (.cons (.app 5 (.tup (.cons (.i (999999)) (.cons (.i (1000000)) (.cons (.neg (.i (1))) (.cons (.neg (.i (1))) (.cons (.i (0)) (.cons (.i (0)) .nil)))))))) (.cons (.ret (.v 5)) .nil)))))))))) }
abbrev st4 : Stmt := topS 30
/-- _law_vector -/
def d4 : Df := { nm := "_law_vector", ps := ["bag"], N := ["bag", "way", "great", "many"], b := (.cons (.set 1 (.call 0 (.cons (.v 0) (.cons (.i (6)) .nil)))) (.cons (.set 2 (.call 2 (.cons (.v 0) (.cons (.lst (.cons (.i (1000000)) (.cons (.neg (.i (1000000))) (.cons (.i (999999)) (.cons (.i (720720)) (.cons (.i (1)) (.cons (.i (0)) .nil))))))) .nil)))) (.cons (.ifs (.e (.cmp .eq (.v 1) (.i (0)))) (.cons (.ret (.tup (.cons (.v 2) (.cons (.call 2 (.cons (.v 0) (.cons (.lst (.cons (.i (0)) (.cons (.i (1000000)) (.cons (.neg (.i (999998))) (.cons (.i (510510)) (.cons (.i (17)) .nil)))))) .nil))) .nil)))) .nil) .nil) (.cons (.set 3 (.ite (.e (.cmp .gt (.v 1) (.i (1)))) (.call 2 (.cons (.v 0) (.cons (.lst (.cons (.i (1)) (.cons (.i (1)) (.cons (.i (2)) (.cons (.i (6)) (.cons (.neg (.i (4))) (.cons (.i (1000)) .nil))))))) .nil))) (.i (0)))) (.cons (.ret (.tup (.cons (.bin .mul (.v 3) (.bin .sub (.call 0 (.cons (.v 0) (.cons (.i (15)) .nil))) (.i (7)))) (.cons (.bin .mul (.v 3) (.bin .sub (.call 0 (.cons (.v 0) (.cons (.i (15)) .nil))) (.i (7)))) .nil)))) .nil))))) }
def d5_1 : Sts := (.cons (.par [0, 1] (.cons (.v 1) (.cons (.bin .mod (.bi .int (.cons (.v 0) .nil)) (.bi .int (.cons (.v 1) .nil))) .nil))) .nil)
abbrev st5 : Stmt := topS 23
/-- _law_gcd -/
def d5 : Df := { nm := "_law_gcd", ps := ["one", "other"], N := ["one", "other"], b := (.cons (.par [0, 1] (.cons (.bi .abs (.cons (.v 0) .nil)) (.cons (.bi .abs (.cons (.v 1) .nil)) .nil))) (.cons (.whl (.e (.cmp .ne (.v 1) (.i (0)))) d5_1) (.cons (.ret (.v 0)) .nil))) }
abbrev st6 : Stmt := topS 8
/-- det -/
def d6 : Df := { nm := "det", ps := ["one", "other"], N := ["one", "other"], b := (.cons (.ret (.bin .sub (.bin .mul (.ix (.v 0) (.i (0))) (.ix (.v 1) (.i (1)))) (.bin .mul (.ix (.v 0) (.i (1))) (.ix (.v 1) (.i (0)))))) .nil) }
abbrev st7 : Stmt := topS 9
/-- steps -/
def d7 : Df := { nm := "steps", ps := ["vector"], N := ["vector"], b := (.cons (.ret (.bi .gcd (.cons (.ix (.v 0) (.i (0))) (.cons (.ix (.v 0) (.i (1))) .nil)))) .nil) }
abbrev st8 : Stmt := topS 10
/-- primitive -/
def d8 : Df := { nm := "primitive", ps := ["vector"], N := ["vector", "many"], b := (.cons (.set 1 (.call 7 (.cons (.v 0) .nil))) (.cons (.ifs (.e (.cmp .eq (.v 1) (.i (0)))) (.cons (.rais 0 none .nil) .nil) .nil) (.cons (.ret (.tup (.cons (.bin .fdiv (.ix (.v 0) (.i (0))) (.v 1)) (.cons (.bin .fdiv (.ix (.v 0) (.i (1))) (.v 1)) .nil)))) .nil))) }
def d9_1 : Sts := (.cons (.ret (.lst (.cons (.s "told") (.cons (.ite (.e (.v 1)) (.callk 8 .nil (.cons (.v 0) .nil) [0]) (.call 8 (.cons (.v 0) .nil))) .nil)))) .nil)
abbrev st9 : Stmt := topS 31
/-- _law_told_primitive -/
def d9 : Df := { nm := "_law_told_primitive", ps := ["vector", "is_named"], N := ["vector", "is_named", "error"], b := (.cons (.tri d9_1 (.cons 0 (some 2) (.ret (.lst (.cons (.s "unfit") (.cons (.isA [1]) .nil)))) .nil)) .nil) }
abbrev st10 : Stmt := topS 22
/-- _law_det -/
def d10 : Df := { nm := "_law_det", ps := ["one", "other"], N := ["one", "other"], b := (.cons (.ret (.bin .sub (.bin .mul (.ix (.v 0) (.i (0))) (.ix (.v 1) (.i (1)))) (.bin .mul (.ix (.v 0) (.i (1))) (.ix (.v 1) (.i (0)))))) .nil) }
abbrev st11 : Stmt := topS 32
/-- _law_are_vectors_right -/
def d11 : Df := { nm := "_law_are_vectors_right", ps := ["bag"], N := ["bag", "one", "other", "kept", "many", "due", "told", "dues"], b := (.cons (.par [1, 2] (.cons (.call 4 (.cons (.v 0) .nil)) (.cons (.call 4 (.cons (.v 0) .nil)) .nil))) (.cons (.par [3, 4] (.cons (.bi .repr (.cons (.lst (.cons (.v 1) (.cons (.v 2) .nil))) .nil)) (.cons (.call 5 (.cons (.ix (.v 1) (.i (0))) (.cons (.ix (.v 1) (.i (1))) .nil))) .nil))) (.cons (.set 5 (.lst (.cons (.s "unfit") (.cons (.b true) .nil)))) (.cons (.ifs (.e (.cmp .gt (.v 4) (.i (0)))) (.cons (.set 5 (.lst (.cons (.s "told") (.cons (.tup (.cons (.bin .fdiv (.ix (.v 1) (.i (0))) (.v 4)) (.cons (.bin .fdiv (.ix (.v 1) (.i (1))) (.v 4)) .nil))) .nil)))) .nil) .nil) (.cons (.set 6 (.lst (.cons (.call 6 (.cons (.v 1) (.cons (.v 2) .nil))) (.cons (.callk 6 .nil (.cons (.v 2) (.cons (.v 1) .nil)) [1, 0]) (.cons (.call 6 (.cons (.v 2) (.cons (.v 1) .nil))) (.cons (.call 7 (.cons (.v 1) .nil)) (.cons (.callk 7 .nil (.cons (.v 1) .nil) [0]) .nil))))))) (.cons (.set 7 (.bin .add (.bin .add (.bin .mul (.lst (.cons (.call 10 (.cons (.v 1) (.cons (.v 2) .nil))) .nil)) (.i (2))) (.lst (.cons (.call 10 (.cons (.v 2) (.cons (.v 1) .nil))) .nil))) (.bin .mul (.lst (.cons (.v 4) .nil)) (.i (2))))) (.cons (.set 6 (.bin .add (.v 6) (.lst (.cons (.call 9 (.cons (.v 1) (.cons (.b false) .nil))) (.cons (.call 9 (.cons (.v 1) (.cons (.b true) .nil))) .nil))))) (.cons (.ret (.and (.cmp .eq (.bi .repr (.cons (.v 6) .nil)) (.bi .repr (.cons (.bin .add (.v 7) (.lst (.cons (.v 5) (.cons (.v 5) .nil)))) .nil))) (.cmp .eq (.bi .repr (.cons (.lst (.cons (.v 1) (.cons (.v 2) .nil))) .nil)) (.v 3)))) .nil)))))))) }
abbrev st12 : Stmt := topS 24
/-- _law_behind -/
def d12 : Df := { nm := "_law_behind", ps := ["one", "other"], N := ["one", "other", "a", "b", "c", "d", "p", "q", "e", "f", "g", "h", "r", "s"], b := (.cons (.unp (.t (.cons (.v 2) (.cons (.v 3) (.cons (.v 4) (.cons (.v 5) (.cons (.v 6) (.cons (.v 7) .nil))))))) (.v 0)) (.cons (.unp (.t (.cons (.v 8) (.cons (.v 9) (.cons (.v 10) (.cons (.v 11) (.cons (.v 12) (.cons (.v 13) .nil))))))) (.v 1)) (.cons (.ret (.tup (.cons (.bin .add (.bin .mul (.v 8) (.v 2)) (.bin .mul (.v 9) (.v 4))) (.cons (.bin .add (.bin .mul (.v 8) (.v 3)) (.bin .mul (.v 9) (.v 5))) (.cons (.bin .add (.bin .mul (.v 10) (.v 2)) (.bin .mul (.v 11) (.v 4))) (.cons (.bin .add (.bin .mul (.v 10) (.v 3)) (.bin .mul (.v 11) (.v 5))) (.cons (.bin .add (.bin .add (.bin .mul (.v 8) (.v 6)) (.bin .mul (.v 9) (.v 7))) (.v 12)) (.cons (.bin .add (.bin .add (.bin .mul (.v 10) (.v 6)) (.bin .mul (.v 11) (.v 7))) (.v 13)) .nil)))))))) .nil))) }
def d13_1 : Sts := (.cons (.set 4 (.bin .sub (.call 0 (.cons (.v 0) (.cons (.i (5)) .nil))) (.i (2)))) (.cons (.set 5 (.call 2 (.cons (.v 0) (.cons (.lst (.cons (.tup (.cons (.i (1)) (.cons (.v 4) (.cons (.i (0)) (.cons (.i (1)) (.cons (.i (0)) (.cons (.i (0)) .nil))))))) (.cons (.tup (.cons (.i (1)) (.cons (.i (0)) (.cons (.v 4) (.cons (.i (1)) (.cons (.i (0)) (.cons (.i (0)) .nil))))))) (.cons (.tup (.cons (.i (0)) (.cons (.i (1)) (.cons (.i (1)) (.cons (.i (0)) (.cons (.i (0)) (.cons (.i (0)) .nil))))))) (.cons (.tup (.cons (.i (0)) (.cons (.neg (.i (1))) (.cons (.i (1)) (.cons (.i (0)) (.cons (.i (0)) (.cons (.i (0)) .nil))))))) .nil))))) .nil)))) (.cons (.set 2 (.call 12 (.cons (.v 2) (.cons (.v 5) .nil)))) .nil)))
abbrev st13 : Stmt := topS 26
/-- _law_frame -/
def d13 : Df := { nm := "_law_frame", ps := ["bag", "great"], N := ["bag", "great", "found", "turn", "by", "own", "far"], b := (.cons (.set 2 (.tup (.cons (.i (1)) (.cons (.i (0)) (.cons (.i (0)) (.cons (.i (1)) (.cons (.bin .sub (.call 0 (.cons (.v 0) (.cons (.i (9)) .nil))) (.i (4))) (.cons (.bin .sub (.call 0 (.cons (.v 0) (.cons (.i (9)) .nil))) (.i (4))) .nil)))))))) (.cons (.fr (.v 3) (.r1 (.call 0 (.cons (.v 0) (.cons (.i (4)) .nil)))) d13_1) (.cons (.ifs (.e (.v 1)) (.cons (.set 4 (.call 2 (.cons (.v 0) (.cons (.lst (.cons (.i (1000)) (.cons (.neg (.i (999))) (.cons (.i (20000)) (.cons (.i (30001)) (.cons (.neg (.i (7))) .nil)))))) .nil)))) (.cons (.set 6 (.call 2 (.cons (.v 0) (.cons (.lst (.cons (.i (0)) (.cons (.i (300000)) (.cons (.neg (.i (400000))) .nil)))) .nil)))) (.cons (.set 5 (.call 2 (.cons (.v 0) (.cons (.lst (.cons (.tup (.cons (.i (1)) (.cons (.v 4) (.cons (.i (0)) (.cons (.i (1)) (.cons (.v 6) (.cons (.i (0)) .nil))))))) (.cons (.tup (.cons (.i (1)) (.cons (.i (0)) (.cons (.v 4) (.cons (.i (1)) (.cons (.i (0)) (.cons (.v 6) .nil))))))) (.cons (.tup (.cons (.i (1)) (.cons (.i (0)) (.cons (.i (0)) (.cons (.i (1)) (.cons (.v 6) (.cons (.neg (.v 6)) .nil))))))) .nil)))) .nil)))) (.cons (.set 2 (.call 12 (.cons (.v 2) (.cons (.v 5) .nil)))) .nil)))) .nil) (.cons (.ret (.v 2)) .nil)))) }
abbrev st14 : Stmt := topS 27
/-- _law_is_near -/
def d14 : Df := { nm := "_law_is_near", ps := ["numbers"], N := ["numbers", "number"], b := (.cons (.ret (.cmp .le (.bi .max1 (.cons (.comp (.bi .abs (.cons (.v 1) .nil)) (.v 1) (.e (.v 0)) .yes [("number", 1)]) .nil)) (.i (1000000)))) .nil) }
abbrev st15 : Stmt := topS 34
/-- _law_near_frame -/
def d15 : Df := { nm := "_law_near_frame", ps := ["bag"], N := ["bag", "found"], b := (.cons (.set 1 (.call 13 (.cons (.v 0) (.cons (.cmp .eq (.call 0 (.cons (.v 0) (.cons (.i (2)) .nil))) (.i (0))) .nil)))) (.cons (.ret (.ite (.e (.call 14 (.cons (.v 1) .nil))) (.v 1) (.tup (.cons (.i (0)) (.cons (.neg (.i (1))) (.cons (.i (1)) (.cons (.i (0)) (.cons (.i (5)) (.cons (.neg (.i (1000000))) .nil))))))))) .nil)) }
abbrev st16 : Stmt := topS 14
/-- framed -/
def d16 : Df := { nm := "framed", ps := ["frame", "point"], N := ["frame", "point", "x", "y", "a", "b", "c", "d", "p", "q"], b := (.cons (.unp (.t (.cons (.v 2) (.cons (.v 3) .nil))) (.v 1)) (.cons (.unp (.t (.cons (.v 4) (.cons (.v 5) (.cons (.v 6) (.cons (.v 7) (.cons (.v 8) (.cons (.v 9) .nil))))))) (.v 0)) (.cons (.ret (.tup (.cons (.bin .add (.bin .add (.bin .mul (.v 4) (.v 2)) (.bin .mul (.v 5) (.v 3))) (.v 8)) (.cons (.bin .add (.bin .add (.bin .mul (.v 6) (.v 2)) (.bin .mul (.v 7) (.v 3))) (.v 9)) .nil)))) .nil))) }
abbrev st17 : Stmt := topS 15
/-- framed_vector -/
def d17 : Df := { nm := "framed_vector", ps := ["frame", "vector"], N := ["frame", "vector", "x", "y", "a", "b", "c", "d"], b := (.cons (.unp (.t (.cons (.v 2) (.cons (.v 3) .nil))) (.v 1)) (.cons (.unp (.t (.cons (.v 4) (.cons (.v 5) (.cons (.v 6) (.cons (.v 7) .nil))))) (.cut (.v 0) .no (.so (.i (4))))) (.cons (.ret (.tup (.cons (.bin .add (.bin .mul (.v 4) (.v 2)) (.bin .mul (.v 5) (.v 3))) (.cons (.bin .add (.bin .mul (.v 6) (.v 2)) (.bin .mul (.v 7) (.v 3))) .nil)))) .nil))) }
abbrev st18 : Stmt := topS 16
/-- frame_behind -/
def d18 : Df := { nm := "frame_behind", ps := ["one", "other"], N := ["one", "other", "left", "right"], b := (.cons (.par [2, 3] (.cons (.call 17 (.cons (.v 1) (.cons (.tup (.cons (.ix (.v 0) (.i (0))) (.cons (.ix (.v 0) (.i (2))) .nil))) .nil))) (.cons (.call 17 (.cons (.v 1) (.cons (.tup (.cons (.ix (.v 0) (.i (1))) (.cons (.ix (.v 0) (.i (3))) .nil))) .nil))) .nil))) (.cons (.ret (.bin .add (.tup (.cons (.ix (.v 2) (.i (0))) (.cons (.ix (.v 3) (.i (0))) (.cons (.ix (.v 2) (.i (1))) (.cons (.ix (.v 3) (.i (1))) .nil))))) (.call 16 (.cons (.v 1) (.cons (.tup (.cons (.ix (.v 0) (.i (4))) (.cons (.ix (.v 0) (.i (5))) .nil))) .nil))))) .nil)) }
abbrev st19 : Stmt := topS 13
/-- frame_det -/
def d19 : Df := { nm := "frame_det", ps := ["frame"], N := ["frame"], b := (.cons (.ret (.bin .sub (.bin .mul (.ix (.v 0) (.i (0))) (.ix (.v 0) (.i (3)))) (.bin .mul (.ix (.v 0) (.i (1))) (.ix (.v 0) (.i (2)))))) .nil) }
abbrev st20 : Stmt := topS 17
/-- frame_back -/
def d20 : Df := { nm := "frame_back", ps := ["frame"], N := ["frame", "a", "b", "c", "d", "p", "q", "sign", "turned", "back"], b := (.cons (.unp (.t (.cons (.v 1) (.cons (.v 2) (.cons (.v 3) (.cons (.v 4) (.cons (.v 5) (.cons (.v 6) .nil))))))) (.v 0)) (.cons (.set 7 (.call 19 (.cons (.v 0) .nil))) (.cons (.set 8 (.tup (.cons (.bin .mul (.v 7) (.v 4)) (.cons (.bin .mul (.neg (.v 7)) (.v 2)) (.cons (.bin .mul (.neg (.v 7)) (.v 3)) (.cons (.bin .mul (.v 7) (.v 1)) .nil)))))) (.cons (.set 9 (.call 17 (.cons (.v 8) (.cons (.tup (.cons (.v 5) (.cons (.v 6) .nil))) .nil)))) (.cons (.ret (.bin .add (.v 8) (.tup (.cons (.neg (.ix (.v 9) (.i (0)))) (.cons (.neg (.ix (.v 9) (.i (1)))) .nil))))) .nil))))) }
abbrev st21 : Stmt := topS 25
/-- _law_framed -/
def d21 : Df := { nm := "_law_framed", ps := ["frame", "point"], N := ["frame", "point", "a", "b", "c", "d", "p", "q"], b := (.cons (.unp (.t (.cons (.v 2) (.cons (.v 3) (.cons (.v 4) (.cons (.v 5) (.cons (.v 6) (.cons (.v 7) .nil))))))) (.v 0)) (.cons (.ret (.tup (.cons (.bin .add (.bin .add (.bin .mul (.v 2) (.ix (.v 1) (.i (0)))) (.bin .mul (.v 3) (.ix (.v 1) (.i (1))))) (.v 6)) (.cons (.bin .add (.bin .add (.bin .mul (.v 4) (.ix (.v 1) (.i (0)))) (.bin .mul (.v 5) (.ix (.v 1) (.i (1))))) (.v 7)) .nil)))) .nil)) }
abbrev st22 : Stmt := topS 33
/-- _law_back -/
def d22 : Df := { nm := "_law_back", ps := ["frame"], N := ["frame", "a", "b", "c", "d", "p", "q", "sign", "e", "f", "g", "h"], b := (.cons (.unp (.t (.cons (.v 1) (.cons (.v 2) (.cons (.v 3) (.cons (.v 4) (.cons (.v 5) (.cons (.v 6) .nil))))))) (.v 0)) (.cons (.set 7 (.bin .sub (.bin .mul (.v 1) (.v 4)) (.bin .mul (.v 2) (.v 3)))) (.cons (.unp (.t (.cons (.v 8) (.cons (.v 9) (.cons (.v 10) (.cons (.v 11) .nil))))) (.tup (.cons (.bin .mul (.v 7) (.v 4)) (.cons (.bin .mul (.neg (.v 7)) (.v 2)) (.cons (.bin .mul (.neg (.v 7)) (.v 3)) (.cons (.bin .mul (.v 7) (.v 1)) .nil)))))) (.cons (.ret (.tup (.cons (.v 8) (.cons (.v 9) (.cons (.v 10) (.cons (.v 11) (.cons (.neg (.bin .add (.bin .mul (.v 8) (.v 5)) (.bin .mul (.v 9) (.v 6)))) (.cons (.neg (.bin .add (.bin .mul (.v 10) (.v 5)) (.bin .mul (.v 11) (.v 6)))) .nil)))))))) .nil)))) }
abbrev st23 : Stmt := topS 35
/-- _law_are_frames_right -/
def d23 : Df := { nm := "_law_are_frames_right", ps := ["bag"], N := ["bag", "one", "other", "point", "kept", "dues", "told", "far", "back", "plain"], b := (.cons (.par [1, 2] (.cons (.call 15 (.cons (.v 0) .nil)) (.cons (.call 15 (.cons (.v 0) .nil)) .nil))) (.cons (.set 3 (.call 2 (.cons (.v 0) (.cons (.lst (.cons (.tup (.cons (.i (0)) (.cons (.i (0)) .nil))) (.cons (.tup (.cons (.i (1)) (.cons (.i (0)) .nil))) (.cons (.tup (.cons (.bin .sub (.call 0 (.cons (.v 0) (.cons (.i (99)) .nil))) (.i (49))) (.cons (.call 0 (.cons (.v 0) (.cons (.i (99)) .nil))) .nil))) (.cons (.tup (.cons (.i (1000000)) (.cons (.neg (.i (1000000))) .nil))) .nil))))) .nil)))) (.cons (.set 4 (.bi .repr (.cons (.lst (.cons (.v 1) (.cons (.v 2) (.cons (.v 3) .nil)))) .nil))) (.cons (.set 5 (.bin .add (.bin .add (.bin .mul (.lst (.cons (.call 21 (.cons (.v 1) (.cons (.v 3) .nil))) .nil)) (.i (2))) (.bin .mul (.lst (.cons (.call 12 (.cons (.v 1) (.cons (.v 2) .nil))) .nil)) (.i (2)))) (.bin .mul (.lst (.cons (.call 22 (.cons (.v 1) .nil)) .nil)) (.i (2))))) (.cons (.set 6 (.lst (.cons (.call 16 (.cons (.v 1) (.cons (.v 3) .nil))) (.cons (.callk 16 .nil (.cons (.v 3) (.cons (.v 1) .nil)) [1, 0]) (.cons (.call 18 (.cons (.v 1) (.cons (.v 2) .nil))) .nil))))) (.cons (.set 6 (.bin .add (.v 6) (.lst (.cons (.callk 18 .nil (.cons (.v 2) (.cons (.v 1) .nil)) [1, 0]) (.cons (.call 20 (.cons (.v 1) .nil)) (.cons (.callk 20 .nil (.cons (.v 1) .nil) [0]) .nil)))))) (.cons (.ifs (.e (.cmp .ne (.bi .repr (.cons (.v 6) .nil)) (.bi .repr (.cons (.v 5) .nil)))) (.cons (.ret (.b false)) .nil) .nil) (.cons (.par [7, 8] (.cons (.ix (.v 6) (.i (2))) (.cons (.call 20 (.cons (.ix (.v 6) (.i (2))) .nil)) .nil))) (.cons (.set 9 (.tup (.cons (.i (1)) (.cons (.i (0)) (.cons (.i (0)) (.cons (.i (1)) (.cons (.i (0)) (.cons (.i (0)) .nil)))))))) (.cons (.set 6 (.lst (.cons (.call 18 (.cons (.v 7) (.cons (.v 8) .nil))) (.cons (.call 18 (.cons (.v 8) (.cons (.v 7) .nil))) (.cons (.call 16 (.cons (.v 8) (.cons (.call 16 (.cons (.v 7) (.cons (.v 3) .nil))) .nil))) (.cons (.call 20 (.cons (.v 8) .nil)) .nil)))))) (.cons (.app 6 (.call 16 (.cons (.call 18 (.cons (.v 7) (.cons (.v 1) .nil))) (.cons (.v 3) .nil)))) (.cons (.set 5 (.lst (.cons (.v 9) (.cons (.v 9) (.cons (.v 3) (.cons (.v 7) (.cons (.call 21 (.cons (.v 1) (.cons (.call 21 (.cons (.v 7) (.cons (.v 3) .nil))) .nil))) .nil))))))) (.cons (.ret (.and (.cmp .eq (.bi .repr (.cons (.v 6) .nil)) (.bi .repr (.cons (.v 5) .nil))) (.cmp .eq (.bi .repr (.cons (.lst (.cons (.v 1) (.cons (.v 2) (.cons (.v 3) .nil)))) .nil)) (.v 4)))) .nil))))))))))))) }
abbrev st24 : Stmt := topS 6
/-- is_number -/
def d24 : Df := { nm := "is_number", ps := ["value"], N := ["value"], b := (.cons (.ret (.and (.bi .isInt (.cons (.v 0) .nil)) (.nt (.bi .isBool (.cons (.v 0) .nil))))) .nil) }
abbrev st25 : Stmt := topS 7
/-- is_within -/
def d25 : Df := { nm := "is_within", ps := ["value", "least", "most"], N := ["value", "least", "most"], b := (.cons (.ret (.and (.call 24 (.cons (.v 0) .nil)) (.chain .le .le (.v 1) (.v 0) (.v 2)))) .nil) }
def d26_1 : Sts := (.cons (.ifs (.nt (.e (.call 25 (.cons (.v 2) (.cons (.neg (.g "MAX_SIZE" (1000000))) (.cons (.g "MAX_SIZE" (1000000)) .nil)))))) (.cons (.ret (.tup (.cons (.s "number") (.cons (.v 1) .nil)))) .nil) .nil) .nil)
abbrev st26 : Stmt := topS 12
/-- frame_error -/
def d26 : Df := { nm := "frame_error", ps := ["value"], N := ["value", "place", "number"], b := (.cons (.ifs (.or (.nt (.e (.bi .isTuple (.cons (.v 0) .nil)))) (.e (.cmp .ne (.bi .len (.cons (.v 0) .nil)) (.i (6))))) (.cons (.ret (.s "form")) .nil) .nil) (.cons (.fr (.t (.cons (.v 1) (.cons (.v 2) .nil))) (.en (.v 0)) d26_1) (.cons (.ret (.ite (.e (.cmp .isin (.call 19 (.cons (.v 0) .nil)) (.tup (.cons (.i (1)) (.cons (.neg (.i (1))) .nil))))) .n (.s "det"))) .nil))) }
abbrev st27 : Stmt := topS 28
/-- _law_is_whole -/
def d27 : Df := { nm := "_law_is_whole", ps := ["value"], N := ["value"], b := (.cons (.ret (.and (.bi .isInt (.cons (.v 0) .nil)) (.nt (.bi .isBool (.cons (.v 0) .nil))))) .nil) }
def d28_1 : Sts := (.cons (.ifs (.or (.nt (.e (.call 27 (.cons (.v 2) .nil)))) (.e (.cmp .gt (.bi .abs (.cons (.v 2) .nil)) (.i (1000000))))) (.cons (.ret (.tup (.cons (.s "number") (.cons (.v 1) .nil)))) .nil) .nil) .nil)
abbrev st28 : Stmt := topS 29
/-- _law_frame_due -/
def d28 : Df := { nm := "_law_frame_due", ps := ["value"], N := ["value", "k", "item"], b := (.cons (.ifs (.or (.nt (.e (.bi .isTuple (.cons (.v 0) .nil)))) (.e (.cmp .ne (.bi .len (.cons (.v 0) .nil)) (.i (6))))) (.cons (.ret (.s "form")) .nil) .nil) (.cons (.fr (.t (.cons (.v 1) (.cons (.v 2) .nil))) (.en (.v 0)) d28_1) (.cons (.ret (.ite (.e (.cmp .isin (.bin .sub (.bin .mul (.ix (.v 0) (.i (0))) (.ix (.v 0) (.i (3)))) (.bin .mul (.ix (.v 0) (.i (1))) (.ix (.v 0) (.i (2))))) (.tup (.cons (.i (1)) (.cons (.neg (.i (1))) .nil))))) .n (.s "det"))) .nil))) }
def bL_1 : Sts := (.cons (.set 5 (.bi .repr (.cons (.v 4) .nil))) (.cons (.set 6 (.ite (.e (.cmp .eq (.bin .sub (.v 3) (.bin .mul (.i (3)) (.bin .fdiv (.v 3) (.i (3))))) (.v 2))) (.callk 26 .nil (.cons (.v 4) .nil) [0]) (.call 26 (.cons (.v 4) .nil)))) (.cons (.ifs (.or (.e (.cmp .ne (.bi .repr (.cons (.v 6) .nil)) (.bi .repr (.cons (.call 28 (.cons (.v 4) .nil)) .nil)))) (.e (.cmp .ne (.bi .repr (.cons (.v 4) .nil)) (.v 5)))) (.cons (.ret (.b false)) .nil) .nil) .nil)))
def bL_2 : Sts := (.cons (.ifs (.or (.nt (.e (.call 11 (.cons (.v 1) .nil)))) (.nt (.e (.call 23 (.cons (.v 1) .nil))))) (.cons (.ret (.b false)) .nil) .nil) (.cons (.fr (.t (.cons (.v 3) (.cons (.v 4) .nil))) (.en (.call 3 (.cons (.v 1) (.cons (.call 15 (.cons (.v 1) .nil)) .nil)))) bL_1) .nil))
abbrev stL : Stmt := topS 38
def nL : List Str := ["script", "bag", "turn", "k", "value", "kept", "told"]
def bL : Sts := (.cons (.fr (.v 2) (.r1 (.i (3))) bL_2) (.cons (.ret (.b true)) .nil))
def pre_1 : Sts := (.cons (.set 2 (.bin .mod (.bi .int (.cons (.bin .add (.bin .add (.bin .mul (.v 2) (.i (48271))) (.bin .mod (.bi .int (.cons (.v 3) .nil)) (.i (2147483629)))) (.i (5))) .nil)) (.i (2147483647)))) .nil)
abbrev stM : Stmt := topS 19
def n0 : List Str := ["script", "cells", "mixed", "cell"]
def pre0 : Sts := (.cons (.set 1 (.comp (.bi .abs (.cons (.v 3) .nil)) (.v 3) (.e (.scut 0 (63))) .yes [("cell", 3)])) (.cons (.set 2 (.bin .add (.i (16240)) (.bi .len (.cons (.v 1) .nil)))) (.cons (.fr (.v 3) (.e (.v 1)) pre_1) .nil)))
def es0 : List (Sum Int Str × Ex) := [(.inl 0, (.rev (.v 1))), (.inl 1, (.i (0))), (.inl 2, (.v 2))]
def dfs : List (Df × Stmt) := [(d0, st0), (d1, st1), (d2, st2), (d3, st3), (d4, st4), (d5, st5), (d6, st6), (d7, st7), (d8, st8), (d9, st9), (d10, st10), (d11, st11), (d12, st12), (d13, st13), (d14, st14), (d15, st15), (d16, st16), (d17, st17), (d18, st18), (d19, st19), (d20, st20), (d21, st21), (d22, st22), (d23, st23), (d24, st24), (d25, st25), (d26, st26), (d27, st27), (d28, st28)]
def excs : List (Str × Option Str) := [("Unfit", none), ("GridError", none)]
def sub (a b : Nat) : Bool := (([[true, true], [false, true]] : List (List Bool)).getD a []).getD b false
def cf : Cfg := { fns := dfs.map fun p => (p.1.nm, p.1.ps), dfl := dfs.map fun p => p.1.dv, excs := excs, free := ["abs", "bool", "enumerate", "int", "isinstance", "len", "list", "max", "range", "repr", "tuple"], gcd := true, consts := [("MAX_SIZE", (1000000 : Int))], jk := some false, js := false }
def cf0 : Cfg := { fns := [], free := ["abs", "int", "len"], gcd := false, consts := [], jk := none, js := true }
def mkN : Str := "_law_bag"
theorem c0 : chkDf cf d0 st0 = true := by decide +kernel
theorem c1 : chkDf cf d1 st1 = true := by decide +kernel
theorem c2 : chkDf cf d2 st2 = true := by decide +kernel
theorem c3 : chkDf cf d3 st3 = true := by decide +kernel
theorem c4 : chkDf cf d4 st4 = true := by decide +kernel
theorem c5 : chkDf cf d5 st5 = true := by decide +kernel
theorem c6 : chkDf cf d6 st6 = true := by decide +kernel
theorem c7 : chkDf cf d7 st7 = true := by decide +kernel
theorem c8 : chkDf cf d8 st8 = true := by decide +kernel
theorem c9 : chkDf cf d9 st9 = true := by decide +kernel
theorem c10 : chkDf cf d10 st10 = true := by decide +kernel
theorem c11 : chkDf cf d11 st11 = true := by decide +kernel
theorem c12 : chkDf cf d12 st12 = true := by decide +kernel
theorem c13 : chkDf cf d13 st13 = true := by decide +kernel
theorem c14 : chkDf cf d14 st14 = true := by decide +kernel
theorem c15 : chkDf cf d15 st15 = true := by decide +kernel
theorem c16 : chkDf cf d16 st16 = true := by decide +kernel
theorem c17 : chkDf cf d17 st17 = true := by decide +kernel
theorem c18 : chkDf cf d18 st18 = true := by decide +kernel
theorem c19 : chkDf cf d19 st19 = true := by decide +kernel
theorem c20 : chkDf cf d20 st20 = true := by decide +kernel
theorem c21 : chkDf cf d21 st21 = true := by decide +kernel
theorem c22 : chkDf cf d22 st22 = true := by decide +kernel
theorem c23 : chkDf cf d23 st23 = true := by decide +kernel
theorem c24 : chkDf cf d24 st24 = true := by decide +kernel
theorem c25 : chkDf cf d25 st25 = true := by decide +kernel
theorem c26 : chkDf cf d26 st26 = true := by decide +kernel
theorem c27 : chkDf cf d27 st27 = true := by decide +kernel
theorem c28 : chkDf cf d28 st28 = true := by decide +kernel
theorem cL : chkLaw cf nL mkN bL stL = true := by decide +kernel
theorem cM : chkMk cf0 n0 false pre0 es0 stM = true := by decide +kernel
-- exc 0 Unfit - 4 -
-- exc 1 GridError - 3 -
end G01

-- BLK
set_option linter.all false
set_option maxRecDepth 100000
set_option exponentiation.threshold 200000
namespace G01
open PySem PySem.Spec PyProof.Rows L2 G
abbrev T : Tb := tbOf dfs sub
abbrev jar (a b c : D) : Gh := [(.inl 0, a), (.inl 1, b), (.inl 2, c)]
theorem g1 {a b c : D} : gget (jar a b c) (.inl 0) = some a := rfl
theorem g2 {a b c : D} : gget (jar a b c) (.inl 1) = some b := rfl
theorem g3 {a b c : D} : gget (jar a b c) (.inl 2) = some c := rfl
theorem u1 {a b c d : D} : gput (jar a b c) (.inl 0) d = jar d b c := rfl
theorem u2 {a b c d : D} : gput (jar a b c) (.inl 1) d = jar a d c := rfl
theorem u3 {a b c d : D} : gput (jar a b c) (.inl 2) d = jar a b d := rfl
def GOK (g : Gh) : Prop := ∃ (ns : List Int) (b s : Int), g = jar (.list (ns.map .int)) (.int b) (.int s) ∧ ns.length ≤ 100
theorem fm {many : Int} (h1 : 1 ≤ many) (x : Int) : many ≠ 0 ∧ 0 ≤ x.fmod many ∧ x.fmod many < many := ⟨by omega, Int.fmod_nonneg_of_pos _ (by omega), Int.fmod_lt_of_pos _ (by omega)⟩
theorem p_draw {n : Nat} {g : Gh} {many : Int} {K : D → Gh → Prop} {X : Exn → Gh → Prop} (hg : GOK g) (h1 : 1 ≤ many) (h2 : many < 10 ^ 9) (h : ∀ (x : Int) g', 0 ≤ x → x < many → GOK g' → K (.int x) g') :
    callW T (n + 1) 0 [JAR, .int many] g K X := by
  obtain ⟨ns, b, s, rfl, hl⟩ := hg
  refine call_df (np := 2) (ns := 4) (b := d0.b) rfl rfl ?_
  have e0 : startE 4 [JAR, .int many] (jar (.list (ns.map .int)) (.int b) (.int s)) = ⟨[.fz JAR, .fz (.int many), .un, .un], jar (.list (ns.map .int)) (.int b) (.int s)⟩ := rfl
  rw [e0]
  simp -implicitDefEqProofs only [↓s_cs, ↓nx_ap, ↓s_nil, ↓s_set, ↓s_par, ↓s_unp, ↓s_ret, ↓s_retN, ↓s_drop, ↓s_if, ↓s_whl, ↓s_for, ↓s_app, ↓s_ext, ↓s_put, ↓s_ja, ↓s_ji, ↓s_js, ↓s_jl, ↓s_rais, ↓s_pass, ↓s_brk, ↓s_cont, ↓s_tri, ↓hd_nil, ↓hd_cons, ↓un_s, ↓un_n, ↓hu_ret, ↓hu_ifr, ↓hx_b, ↓hx_s, ↓hx_i, ↓hx_n, ↓hx_fld, ↓hx_isA, ↓hx_nt, ↓hx_and, ↓hx_ite, ↓hx_lst, ↓hx_tup, ↓hxs_nil, ↓hxs_cons, ↓ra_none, ↓ra_some, ↓x_calldB, ↓x_lw, ↓x_dct0, ↓x_v, ↓x_i, ↓x_b, ↓x_n, ↓x_st, ↓x_g, ↓x_tup, ↓x_lst, ↓x_bin, ↓x_neg, ↓x_nt, ↓x_cmp, ↓x_chain, ↓x_isN, ↓x_notN, ↓x_and, ↓x_or, ↓x_ite, ↓x_ix, ↓x_cut, ↓x_rev, ↓x_stp, ↓x_callB, ↓x_callkB, ↓x_bi, ↓x_comp, ↓x_pop, ↓x_popA, ↓x_jg, ↓x_jn, ↓x_jp, ↓x_scut, ↓x_slen, ↓srcK, ↓srcL, ↓t_yes, ↓t_and', ↓t_or', ↓t_nt', ↓t_ex, ↓e_nil, ↓e_cons, ↓a_nil', ↓a_cons', ↓rs_nil, ↓rs_cons, ↓frzS_v, ↓frzS_n, ↓asgs_nil, ↓asgs_cons, ↓rd_z, ↓rd_s, ↓set_z, ↓set_s, ↓at_mk, ↓isJar_j, ↓der_v, ↓der_n, ↓der_sl, ↓frz_v, ↓frz_n, ↓frz_sl, ↓asg_v, ↓asg_n, ↓asg_sl, ↓opW, ↓cmpW, ↓eqw_int, ↓eqw_str, ↓eqw_tup, ↓eqw_lst, ↓ordW, ↓truW, ↓noOw, ↓ixW, ↓biW, ↓tgW, ↓tgsW, ↓opwW, ↓itW, ↓wipe_nil, ↓wipe_cons, ↓unwipe, ↓isOw, true_and, Bool.and_true, Bool.not_true, Bool.not_false, Bool.false_eq_true, ↓reduceIte, ↓blk_ap, ↓d0]
  have hm : DivOk many := .inr ⟨by omega, by omega⟩
  refine whl_inv (fun o r => ∃ (ns : List Int) (b : Int) (s2 : Slot), r = ⟨[.fz JAR, .fz (.int many), s2, .un], jar (.list (ns.map .int)) (.int b) (.int s)⟩ ∧ ns.length ≤ 100 ∧ o = ns.length) (m := ns.length) ⟨ns, b, _, rfl, hl, rfl⟩ ?_
  rintro o r ⟨ns, b, s2, rfl, hl, rfl⟩
  have m2 : ∀ a b : Int, -(2 ^ 64) < b → b < 2 ^ 64 → MulOk a b := fun a b x y => .inr (.inl ⟨x, y⟩)
  have mm : ∀ (a b k : Int), 0 < k → k ≤ 4294967279 → MulOk (a.fmod k) b := fun a b k h1 h2 => .inl ⟨by have := Int.fmod_nonneg_of_pos a h1; omega, by have := Int.fmod_lt_of_pos a h1; omega⟩
  unfold whT
  simp -implicitDefEqProofs only [↓s_cs, ↓nx_ap, ↓s_nil, ↓s_set, ↓s_par, ↓s_unp, ↓s_ret, ↓s_retN, ↓s_drop, ↓s_if, ↓s_whl, ↓s_for, ↓s_app, ↓s_ext, ↓s_put, ↓s_ja, ↓s_ji, ↓s_js, ↓s_jl, ↓s_rais, ↓s_pass, ↓s_brk, ↓s_cont, ↓s_tri, ↓hd_nil, ↓hd_cons, ↓un_s, ↓un_n, ↓hu_ret, ↓hu_ifr, ↓hx_b, ↓hx_s, ↓hx_i, ↓hx_n, ↓hx_fld, ↓hx_isA, ↓hx_nt, ↓hx_and, ↓hx_ite, ↓hx_lst, ↓hx_tup, ↓hxs_nil, ↓hxs_cons, ↓ra_none, ↓ra_some, ↓x_calldB, ↓x_lw, ↓x_dct0, ↓x_v, ↓x_i, ↓x_b, ↓x_n, ↓x_st, ↓x_g, ↓x_tup, ↓x_lst, ↓x_bin, ↓x_neg, ↓x_nt, ↓x_cmp, ↓x_chain, ↓x_isN, ↓x_notN, ↓x_and, ↓x_or, ↓x_ite, ↓x_ix, ↓x_cut, ↓x_rev, ↓x_stp, ↓x_callB, ↓x_callkB, ↓x_bi, ↓x_comp, ↓x_pop, ↓x_popA, ↓x_jg, ↓x_jn, ↓x_jp, ↓x_scut, ↓x_slen, ↓srcK, ↓srcL, ↓t_yes, ↓t_and', ↓t_or', ↓t_nt', ↓t_ex, ↓e_nil, ↓e_cons, ↓a_nil', ↓a_cons', ↓rs_nil, ↓rs_cons, ↓frzS_v, ↓frzS_n, ↓asgs_nil, ↓asgs_cons, ↓rd_z, ↓rd_s, ↓set_z, ↓set_s, ↓at_mk, ↓isJar_j, ↓der_v, ↓der_n, ↓der_sl, ↓frz_v, ↓frz_n, ↓frz_sl, ↓asg_v, ↓asg_n, ↓asg_sl, ↓opW, ↓cmpW, ↓eqw_int, ↓eqw_str, ↓eqw_tup, ↓eqw_lst, ↓ordW, ↓truW, ↓noOw, ↓ixW, ↓biW, ↓tgW, ↓tgsW, ↓opwW, ↓itW, ↓wipe_nil, ↓wipe_cons, ↓unwipe, ↓isOw, true_and, Bool.and_true, Bool.not_true, Bool.not_false, Bool.false_eq_true, ↓reduceIte, ↓blk_ap, ↓g1, ↓g2, ↓g3, ↓u1, ↓u2, ↓u3]
  have fin : (if decide (0 < b) = true then many ≠ 0 ∧ DivOk many ∧ K (.int (b.fmod many)) (jar (.list (ns.map .int)) (.int (b.fdiv many)) (.int s)) else
      MulOk s 48271 ∧ (2147483647 : Int) ≠ 0 ∧ MulOk ((s * 48271 + 13).fmod 2147483647) ((s * 48271 + 13).fmod 2147483647) ∧ (2147483629 : Int) ≠ 0 ∧ DivOk 7 ∧ many ≠ 0 ∧ K (.int (((((s * 48271 + 13).fmod 2147483647 * (s * 48271 + 13).fmod 2147483647).fmod 2147483629).fdiv 7).fmod many)) (jar (.list (ns.map .int)) (.int b) (.int ((s * 48271 + 13).fmod 2147483647)))) := by
    split
    · exact ⟨(fm h1 0).1, hm, h _ _ (fm h1 _).2.1 (fm h1 _).2.2 ⟨ns, _, s, rfl, hl⟩⟩
    · exact ⟨m2 _ _ (by decide) (by decide), by decide, mm _ _ _ (by decide) (by decide), by decide, .inl ⟨by decide, by decide⟩, (fm h1 0).1, h _ _ (fm h1 _).2.1 (fm h1 _).2.2 ⟨ns, b, _, rfl, hl⟩⟩
  by_cases q : b = 0
  · rw [if_pos (decide_eq_true q)]
    rcases List.eq_nil_or_concat ns with rfl | ⟨ms, w, rfl⟩
    · exact fin
    · have e1 : (List.map PyData.int (ms ++ [w])).isEmpty = false := by rw [List.map_append]; cases ms <;> rfl
      have e2 : (List.map PyData.int (ms ++ [w])).getLast? = some (.int w) := by rw [List.map_append]; simp
      have e3 : (List.map PyData.int (ms ++ [w])).dropLast = ms.map .int := by rw [List.map_append]; simp
      rw [List.concat_eq_append, List.length_append, List.length_singleton] at hl
      rw [List.concat_eq_append, e1, if_pos (by decide)]
      unfold whB
      simp -implicitDefEqProofs only [↓s_cs, ↓nx_ap, ↓s_nil, ↓s_set, ↓s_par, ↓s_unp, ↓s_ret, ↓s_retN, ↓s_drop, ↓s_if, ↓s_whl, ↓s_for, ↓s_app, ↓s_ext, ↓s_put, ↓s_ja, ↓s_ji, ↓s_js, ↓s_jl, ↓s_rais, ↓s_pass, ↓s_brk, ↓s_cont, ↓s_tri, ↓hd_nil, ↓hd_cons, ↓un_s, ↓un_n, ↓hu_ret, ↓hu_ifr, ↓hx_b, ↓hx_s, ↓hx_i, ↓hx_n, ↓hx_fld, ↓hx_isA, ↓hx_nt, ↓hx_and, ↓hx_ite, ↓hx_lst, ↓hx_tup, ↓hxs_nil, ↓hxs_cons, ↓ra_none, ↓ra_some, ↓x_calldB, ↓x_lw, ↓x_dct0, ↓x_v, ↓x_i, ↓x_b, ↓x_n, ↓x_st, ↓x_g, ↓x_tup, ↓x_lst, ↓x_bin, ↓x_neg, ↓x_nt, ↓x_cmp, ↓x_chain, ↓x_isN, ↓x_notN, ↓x_and, ↓x_or, ↓x_ite, ↓x_ix, ↓x_cut, ↓x_rev, ↓x_stp, ↓x_callB, ↓x_callkB, ↓x_bi, ↓x_comp, ↓x_pop, ↓x_popA, ↓x_jg, ↓x_jn, ↓x_jp, ↓x_scut, ↓x_slen, ↓srcK, ↓srcL, ↓t_yes, ↓t_and', ↓t_or', ↓t_nt', ↓t_ex, ↓e_nil, ↓e_cons, ↓a_nil', ↓a_cons', ↓rs_nil, ↓rs_cons, ↓frzS_v, ↓frzS_n, ↓asgs_nil, ↓asgs_cons, ↓rd_z, ↓rd_s, ↓set_z, ↓set_s, ↓at_mk, ↓isJar_j, ↓der_v, ↓der_n, ↓der_sl, ↓frz_v, ↓frz_n, ↓frz_sl, ↓asg_v, ↓asg_n, ↓asg_sl, ↓opW, ↓cmpW, ↓eqw_int, ↓eqw_str, ↓eqw_tup, ↓eqw_lst, ↓ordW, ↓truW, ↓noOw, ↓ixW, ↓biW, ↓tgW, ↓tgsW, ↓opwW, ↓itW, ↓wipe_nil, ↓wipe_cons, ↓unwipe, ↓isOw, true_and, Bool.and_true, Bool.not_true, Bool.not_false, Bool.false_eq_true, ↓reduceIte, ↓blk_ap, ↓d0_1, ↓g1, ↓g2, ↓g3, ↓u1, ↓u2, e2, e3]
      refine ⟨by decide, ?_⟩
      split
      · exact ⟨ms.length, by rw [List.length_append, List.length_singleton]; omega, ms, _, _, rfl, by omega, rfl⟩
      · exact ⟨ms.length, by rw [List.length_append, List.length_singleton]; omega, ms, _, _, rfl, by omega, rfl⟩
  · rw [if_neg (by rw [decide_eq_true_eq]; exact q)]
    exact fin
theorem p_pick {n : Nat} {g : Gh} {row : D} {ds : List D} {K : D → Gh → Prop} {X : Exn → Gh → Prop} (hr : row = .list ds ∨ row = .tuple ds) (hg : GOK g) (h1 : 1 ≤ ds.length) (h2 : ds.length < 10 ^ 9) (h : ∀ x g', x ∈ ds → GOK g' → K x g') :
    callW T (n + 2) 2 [JAR, row] g K X := by
  refine call_df (np := 2) (ns := 2) (b := d2.b) rfl rfl ?_
  have e0 : startE 2 [JAR, row] g = ⟨[.fz JAR, .fz row], g⟩ := rfl
  rw [e0]
  rcases hr with rfl | rfl
  all_goals
    simp -implicitDefEqProofs only [↓s_cs, ↓nx_ap, ↓s_nil, ↓s_set, ↓s_par, ↓s_unp, ↓s_ret, ↓s_retN, ↓s_drop, ↓s_if, ↓s_whl, ↓s_for, ↓s_app, ↓s_ext, ↓s_put, ↓s_ja, ↓s_ji, ↓s_js, ↓s_jl, ↓s_rais, ↓s_pass, ↓s_brk, ↓s_cont, ↓s_tri, ↓hd_nil, ↓hd_cons, ↓un_s, ↓un_n, ↓hu_ret, ↓hu_ifr, ↓hx_b, ↓hx_s, ↓hx_i, ↓hx_n, ↓hx_fld, ↓hx_isA, ↓hx_nt, ↓hx_and, ↓hx_ite, ↓hx_lst, ↓hx_tup, ↓hxs_nil, ↓hxs_cons, ↓ra_none, ↓ra_some, ↓x_calldB, ↓x_lw, ↓x_dct0, ↓x_v, ↓x_i, ↓x_b, ↓x_n, ↓x_st, ↓x_g, ↓x_tup, ↓x_lst, ↓x_bin, ↓x_neg, ↓x_nt, ↓x_cmp, ↓x_chain, ↓x_isN, ↓x_notN, ↓x_and, ↓x_or, ↓x_ite, ↓x_ix, ↓x_cut, ↓x_rev, ↓x_stp, ↓x_callB, ↓x_callkB, ↓x_bi, ↓x_comp, ↓x_pop, ↓x_popA, ↓x_jg, ↓x_jn, ↓x_jp, ↓x_scut, ↓x_slen, ↓srcK, ↓srcL, ↓t_yes, ↓t_and', ↓t_or', ↓t_nt', ↓t_ex, ↓e_nil, ↓e_cons, ↓a_nil', ↓a_cons', ↓rs_nil, ↓rs_cons, ↓frzS_v, ↓frzS_n, ↓asgs_nil, ↓asgs_cons, ↓rd_z, ↓rd_s, ↓set_z, ↓set_s, ↓at_mk, ↓isJar_j, ↓der_v, ↓der_n, ↓der_sl, ↓frz_v, ↓frz_n, ↓frz_sl, ↓asg_v, ↓asg_n, ↓asg_sl, ↓opW, ↓cmpW, ↓eqw_int, ↓eqw_str, ↓eqw_tup, ↓eqw_lst, ↓ordW, ↓truW, ↓noOw, ↓ixW, ↓biW, ↓tgW, ↓tgsW, ↓opwW, ↓itW, ↓wipe_nil, ↓wipe_cons, ↓unwipe, ↓isOw, true_and, Bool.and_true, Bool.not_true, Bool.not_false, Bool.false_eq_true, ↓reduceIte, ↓blk_ap, ↓d2]
    refine p_draw hg (by omega) (by omega) fun x g' hx hy hg' => ?_
    obtain ⟨k, rfl⟩ : ∃ k : Nat, x = k := ⟨x.toNat, by omega⟩
    have hk : k < ds.length := by omega
    have e : atD ds (k : Int) = some ds[k] := at_nat' (List.getElem?_eq_getElem hk)
    try simp -implicitDefEqProofs only [↓s_cs, ↓nx_ap, ↓s_nil, ↓s_set, ↓s_par, ↓s_unp, ↓s_ret, ↓s_retN, ↓s_drop, ↓s_if, ↓s_whl, ↓s_for, ↓s_app, ↓s_ext, ↓s_put, ↓s_ja, ↓s_ji, ↓s_js, ↓s_jl, ↓s_rais, ↓s_pass, ↓s_brk, ↓s_cont, ↓s_tri, ↓hd_nil, ↓hd_cons, ↓un_s, ↓un_n, ↓hu_ret, ↓hu_ifr, ↓hx_b, ↓hx_s, ↓hx_i, ↓hx_n, ↓hx_fld, ↓hx_isA, ↓hx_nt, ↓hx_and, ↓hx_ite, ↓hx_lst, ↓hx_tup, ↓hxs_nil, ↓hxs_cons, ↓ra_none, ↓ra_some, ↓x_calldB, ↓x_lw, ↓x_dct0, ↓x_v, ↓x_i, ↓x_b, ↓x_n, ↓x_st, ↓x_g, ↓x_tup, ↓x_lst, ↓x_bin, ↓x_neg, ↓x_nt, ↓x_cmp, ↓x_chain, ↓x_isN, ↓x_notN, ↓x_and, ↓x_or, ↓x_ite, ↓x_ix, ↓x_cut, ↓x_rev, ↓x_stp, ↓x_callB, ↓x_callkB, ↓x_bi, ↓x_comp, ↓x_pop, ↓x_popA, ↓x_jg, ↓x_jn, ↓x_jp, ↓x_scut, ↓x_slen, ↓srcK, ↓srcL, ↓t_yes, ↓t_and', ↓t_or', ↓t_nt', ↓t_ex, ↓e_nil, ↓e_cons, ↓a_nil', ↓a_cons', ↓rs_nil, ↓rs_cons, ↓frzS_v, ↓frzS_n, ↓asgs_nil, ↓asgs_cons, ↓rd_z, ↓rd_s, ↓set_z, ↓set_s, ↓at_mk, ↓isJar_j, ↓der_v, ↓der_n, ↓der_sl, ↓frz_v, ↓frz_n, ↓frz_sl, ↓asg_v, ↓asg_n, ↓asg_sl, ↓opW, ↓cmpW, ↓eqw_int, ↓eqw_str, ↓eqw_tup, ↓eqw_lst, ↓ordW, ↓truW, ↓noOw, ↓ixW, ↓biW, ↓tgW, ↓tgsW, ↓opwW, ↓itW, ↓wipe_nil, ↓wipe_cons, ↓unwipe, ↓isOw, true_and, Bool.and_true, Bool.not_true, Bool.not_false, Bool.false_eq_true, ↓reduceIte, ↓blk_ap, e]
    exact h _ g' (List.getElem_mem hk) hg'
/-- frames and points -/
structure Fr where
  a : Int
  b : Int
  c : Int
  d : Int
  p : Int
  q : Int
def fD (f : Fr) : D := .tuple [.int f.a, .int f.b, .int f.c, .int f.d, .int f.p, .int f.q]
def pD (u : Int × Int) : D := .tuple [.int u.1, .int u.2]
def Fr.det (f : Fr) : Int := f.a * f.d - f.b * f.c
def Fr.on (f : Fr) (u : Int × Int) : Int × Int := (f.a * u.1 + f.b * u.2 + f.p, f.c * u.1 + f.d * u.2 + f.q)
def behind (o t : Fr) : Fr := ⟨t.a * o.a + t.b * o.c, t.a * o.b + t.b * o.d, t.c * o.a + t.d * o.c, t.c * o.b + t.d * o.d, t.a * o.p + t.b * o.q + t.p, t.c * o.p + t.d * o.q + t.q⟩
def back (f : Fr) : Fr := ⟨f.det * f.d, -f.det * f.b, -f.det * f.c, f.det * f.a, -(f.det * f.d * f.p + -f.det * f.b * f.q), -(-f.det * f.c * f.p + f.det * f.a * f.q)⟩
/-- small in its first four -/
def S4 (m : Int) (f : Fr) : Prop := (-m ≤ f.a ∧ f.a ≤ m) ∧ (-m ≤ f.b ∧ f.b ≤ m) ∧ (-m ≤ f.c ∧ f.c ≤ m) ∧ (-m ≤ f.d ∧ f.d ≤ m)
theorem mulS {a b : Int} (h : -(2 ^ 64) < a ∧ a < 2 ^ 64) : MulOk a b := .inl ⟨by omega, by omega⟩
theorem s6_0 {a b c d e f : D} : atD [a, b, c, d, e, f] 0 = some a := rfl
theorem s6_1 {a b c d e f : D} : atD [a, b, c, d, e, f] 1 = some b := rfl
theorem s6_2 {a b c d e f : D} : atD [a, b, c, d, e, f] 2 = some c := rfl
theorem s6_3 {a b c d e f : D} : atD [a, b, c, d, e, f] 3 = some d := rfl
theorem s6_4 {a b c d e f : D} : atD [a, b, c, d, e, f] 4 = some e := rfl
theorem s6_5 {a b c d e f : D} : atD [a, b, c, d, e, f] 5 = some f := rfl
theorem q0 {a b : D} : atD [a, b] 0 = some a := rfl
theorem q1 {a b : D} : atD [a, b] 1 = some b := rfl
theorem p_behind {n : Nat} {g : Gh} {o t : Fr} {K : D → Gh → Prop} {X : Exn → Gh → Prop} (ht : S4 (10 ^ 17) t) (h : K (fD (behind o t)) g) : callW T (n + 1) 12 [fD o, fD t] g K X := by
  refine call_df (np := 2) (ns := 14) (b := d12.b) rfl rfl ?_
  have e0 : startE 14 [fD o, fD t] g = ⟨[.fz (.tuple [.int o.a, .int o.b, .int o.c, .int o.d, .int o.p, .int o.q]), .fz (.tuple [.int t.a, .int t.b, .int t.c, .int t.d, .int t.p, .int t.q]), .un, .un, .un, .un, .un, .un, .un, .un, .un, .un, .un, .un], g⟩ := rfl
  rw [e0]
  obtain ⟨h1, h2, h3, h4⟩ := ht
  have a1 : ∀ x, MulOk t.a x := fun x => mulS (by omega)
  have a2 : ∀ x, MulOk t.b x := fun x => mulS (by omega)
  have a3 : ∀ x, MulOk t.c x := fun x => mulS (by omega)
  have a4 : ∀ x, MulOk t.d x := fun x => mulS (by omega)
  simp -implicitDefEqProofs only [↓s_cs, ↓nx_ap, ↓s_nil, ↓s_set, ↓s_par, ↓s_unp, ↓s_ret, ↓s_retN, ↓s_drop, ↓s_if, ↓s_whl, ↓s_for, ↓s_app, ↓s_ext, ↓s_put, ↓s_ja, ↓s_ji, ↓s_js, ↓s_jl, ↓s_rais, ↓s_pass, ↓s_brk, ↓s_cont, ↓s_tri, ↓hd_nil, ↓hd_cons, ↓un_s, ↓un_n, ↓hu_ret, ↓hu_ifr, ↓hx_b, ↓hx_s, ↓hx_i, ↓hx_n, ↓hx_fld, ↓hx_isA, ↓hx_nt, ↓hx_and, ↓hx_ite, ↓hx_lst, ↓hx_tup, ↓hxs_nil, ↓hxs_cons, ↓ra_none, ↓ra_some, ↓x_calldB, ↓x_lw, ↓x_dct0, ↓x_v, ↓x_i, ↓x_b, ↓x_n, ↓x_st, ↓x_g, ↓x_tup, ↓x_lst, ↓x_bin, ↓x_neg, ↓x_nt, ↓x_cmp, ↓x_chain, ↓x_isN, ↓x_notN, ↓x_and, ↓x_or, ↓x_ite, ↓x_ix, ↓x_cut, ↓x_rev, ↓x_stp, ↓x_callB, ↓x_callkB, ↓x_bi, ↓x_comp, ↓x_pop, ↓x_popA, ↓x_jg, ↓x_jn, ↓x_jp, ↓x_scut, ↓x_slen, ↓srcK, ↓srcL, ↓t_yes, ↓t_and', ↓t_or', ↓t_nt', ↓t_ex, ↓e_nil, ↓e_cons, ↓a_nil', ↓a_cons', ↓rs_nil, ↓rs_cons, ↓frzS_v, ↓frzS_n, ↓asgs_nil, ↓asgs_cons, ↓rd_z, ↓rd_s, ↓set_z, ↓set_s, ↓at_mk, ↓isJar_j, ↓der_v, ↓der_n, ↓der_sl, ↓frz_v, ↓frz_n, ↓frz_sl, ↓asg_v, ↓asg_n, ↓asg_sl, ↓opW, ↓cmpW, ↓eqw_int, ↓eqw_str, ↓eqw_tup, ↓eqw_lst, ↓ordW, ↓truW, ↓noOw, ↓ixW, ↓biW, ↓tgW, ↓tgsW, ↓opwW, ↓itW, ↓wipe_nil, ↓wipe_cons, ↓unwipe, ↓isOw, true_and, Bool.and_true, Bool.not_true, Bool.not_false, Bool.false_eq_true, ↓reduceIte, ↓blk_ap, ↓d12]
  exact ⟨a1 _, a2 _, a1 _, a2 _, a3 _, a4 _, a3 _, a4 _, a1 _, a2 _, a3 _, a4 _, h⟩
theorem p_lframed {n : Nat} {g : Gh} {t : Fr} {u : Int × Int} {K : D → Gh → Prop} {X : Exn → Gh → Prop} (ht : S4 (10 ^ 17) t) (h : K (pD (t.on u)) g) : callW T (n + 1) 21 [fD t, pD u] g K X := by
  refine call_df (np := 2) (ns := 8) (b := d21.b) rfl rfl ?_
  have e0 : startE 8 [fD t, pD u] g = ⟨[.fz (.tuple [.int t.a, .int t.b, .int t.c, .int t.d, .int t.p, .int t.q]), .fz (.tuple [.int u.1, .int u.2]), .un, .un, .un, .un, .un, .un], g⟩ := rfl
  rw [e0]
  obtain ⟨h1, h2, h3, h4⟩ := ht
  simp -implicitDefEqProofs only [↓s_cs, ↓nx_ap, ↓s_nil, ↓s_set, ↓s_par, ↓s_unp, ↓s_ret, ↓s_retN, ↓s_drop, ↓s_if, ↓s_whl, ↓s_for, ↓s_app, ↓s_ext, ↓s_put, ↓s_ja, ↓s_ji, ↓s_js, ↓s_jl, ↓s_rais, ↓s_pass, ↓s_brk, ↓s_cont, ↓s_tri, ↓hd_nil, ↓hd_cons, ↓un_s, ↓un_n, ↓hu_ret, ↓hu_ifr, ↓hx_b, ↓hx_s, ↓hx_i, ↓hx_n, ↓hx_fld, ↓hx_isA, ↓hx_nt, ↓hx_and, ↓hx_ite, ↓hx_lst, ↓hx_tup, ↓hxs_nil, ↓hxs_cons, ↓ra_none, ↓ra_some, ↓x_calldB, ↓x_lw, ↓x_dct0, ↓x_v, ↓x_i, ↓x_b, ↓x_n, ↓x_st, ↓x_g, ↓x_tup, ↓x_lst, ↓x_bin, ↓x_neg, ↓x_nt, ↓x_cmp, ↓x_chain, ↓x_isN, ↓x_notN, ↓x_and, ↓x_or, ↓x_ite, ↓x_ix, ↓x_cut, ↓x_rev, ↓x_stp, ↓x_callB, ↓x_callkB, ↓x_bi, ↓x_comp, ↓x_pop, ↓x_popA, ↓x_jg, ↓x_jn, ↓x_jp, ↓x_scut, ↓x_slen, ↓srcK, ↓srcL, ↓t_yes, ↓t_and', ↓t_or', ↓t_nt', ↓t_ex, ↓e_nil, ↓e_cons, ↓a_nil', ↓a_cons', ↓rs_nil, ↓rs_cons, ↓frzS_v, ↓frzS_n, ↓asgs_nil, ↓asgs_cons, ↓rd_z, ↓rd_s, ↓set_z, ↓set_s, ↓at_mk, ↓isJar_j, ↓der_v, ↓der_n, ↓der_sl, ↓frz_v, ↓frz_n, ↓frz_sl, ↓asg_v, ↓asg_n, ↓asg_sl, ↓opW, ↓cmpW, ↓eqw_int, ↓eqw_str, ↓eqw_tup, ↓eqw_lst, ↓ordW, ↓truW, ↓noOw, ↓ixW, ↓biW, ↓tgW, ↓tgsW, ↓opwW, ↓itW, ↓wipe_nil, ↓wipe_cons, ↓unwipe, ↓isOw, true_and, Bool.and_true, Bool.not_true, Bool.not_false, Bool.false_eq_true, ↓reduceIte, ↓blk_ap, ↓d21, q0, q1]
  exact ⟨mulS (by omega), mulS (by omega), mulS (by omega), mulS (by omega), h⟩
theorem p_framed {n : Nat} {g : Gh} {t : Fr} {u : Int × Int} {K : D → Gh → Prop} {X : Exn → Gh → Prop} (ht : S4 (10 ^ 19) t) (h : K (pD (t.on u)) g) : callW T (n + 1) 16 [fD t, pD u] g K X := by
  refine call_df (np := 2) (ns := 10) (b := d16.b) rfl rfl ?_
  have e0 : startE 10 [fD t, pD u] g = ⟨[.fz (.tuple [.int t.a, .int t.b, .int t.c, .int t.d, .int t.p, .int t.q]), .fz (.tuple [.int u.1, .int u.2]), .un, .un, .un, .un, .un, .un, .un, .un], g⟩ := rfl
  rw [e0]
  obtain ⟨h1, h2, h3, h4⟩ := ht
  simp -implicitDefEqProofs only [↓s_cs, ↓nx_ap, ↓s_nil, ↓s_set, ↓s_par, ↓s_unp, ↓s_ret, ↓s_retN, ↓s_drop, ↓s_if, ↓s_whl, ↓s_for, ↓s_app, ↓s_ext, ↓s_put, ↓s_ja, ↓s_ji, ↓s_js, ↓s_jl, ↓s_rais, ↓s_pass, ↓s_brk, ↓s_cont, ↓s_tri, ↓hd_nil, ↓hd_cons, ↓un_s, ↓un_n, ↓hu_ret, ↓hu_ifr, ↓hx_b, ↓hx_s, ↓hx_i, ↓hx_n, ↓hx_fld, ↓hx_isA, ↓hx_nt, ↓hx_and, ↓hx_ite, ↓hx_lst, ↓hx_tup, ↓hxs_nil, ↓hxs_cons, ↓ra_none, ↓ra_some, ↓x_calldB, ↓x_lw, ↓x_dct0, ↓x_v, ↓x_i, ↓x_b, ↓x_n, ↓x_st, ↓x_g, ↓x_tup, ↓x_lst, ↓x_bin, ↓x_neg, ↓x_nt, ↓x_cmp, ↓x_chain, ↓x_isN, ↓x_notN, ↓x_and, ↓x_or, ↓x_ite, ↓x_ix, ↓x_cut, ↓x_rev, ↓x_stp, ↓x_callB, ↓x_callkB, ↓x_bi, ↓x_comp, ↓x_pop, ↓x_popA, ↓x_jg, ↓x_jn, ↓x_jp, ↓x_scut, ↓x_slen, ↓srcK, ↓srcL, ↓t_yes, ↓t_and', ↓t_or', ↓t_nt', ↓t_ex, ↓e_nil, ↓e_cons, ↓a_nil', ↓a_cons', ↓rs_nil, ↓rs_cons, ↓frzS_v, ↓frzS_n, ↓asgs_nil, ↓asgs_cons, ↓rd_z, ↓rd_s, ↓set_z, ↓set_s, ↓at_mk, ↓isJar_j, ↓der_v, ↓der_n, ↓der_sl, ↓frz_v, ↓frz_n, ↓frz_sl, ↓asg_v, ↓asg_n, ↓asg_sl, ↓opW, ↓cmpW, ↓eqw_int, ↓eqw_str, ↓eqw_tup, ↓eqw_lst, ↓ordW, ↓truW, ↓noOw, ↓ixW, ↓biW, ↓tgW, ↓tgsW, ↓opwW, ↓itW, ↓wipe_nil, ↓wipe_cons, ↓unwipe, ↓isOw, true_and, Bool.and_true, Bool.not_true, Bool.not_false, Bool.false_eq_true, ↓reduceIte, ↓blk_ap, ↓d16, q0, q1]
  exact ⟨mulS (by omega), mulS (by omega), mulS (by omega), mulS (by omega), h⟩
end G01

-- BLK
set_option linter.all false
set_option maxRecDepth 100000
set_option exponentiation.threshold 200000
namespace G01
open PySem PySem.Spec PyProof.Rows L2 G
def One (x : Int) : Prop := x = 1 ∨ x = -1
theorem cut4 {a b c d e f : D} : cutD [a, b, c, d, e, f] none (some 4) = [a, b, c, d] := by rw [cut_take (by decide)]; rfl
theorem cut4' {a b c d : D} : cutD [a, b, c, d] none (some 4) = [a, b, c, d] := by rw [cut_take (by decide)]; rfl
theorem p_fvec {n : Nat} {g : Gh} {a b c d : Int} {fr : D} {u : Int × Int} {K : D → Gh → Prop} {X : Exn → Gh → Prop} (hf : (∃ p q, fr = .tuple [.int a, .int b, .int c, .int d, .int p, .int q]) ∨ fr = .tuple [.int a, .int b, .int c, .int d])
    (ha : (-(10 ^ 17) ≤ a ∧ a ≤ 10 ^ 17) ∧ (-(10 ^ 17) ≤ b ∧ b ≤ 10 ^ 17) ∧ (-(10 ^ 17) ≤ c ∧ c ≤ 10 ^ 17) ∧ (-(10 ^ 17) ≤ d ∧ d ≤ 10 ^ 17)) (h : K (pD (a * u.1 + b * u.2, c * u.1 + d * u.2)) g) : callW T (n + 1) 17 [fr, pD u] g K X := by
  refine call_df (np := 2) (ns := 8) (b := d17.b) rfl rfl ?_
  have e0 : startE 8 [fr, pD u] g = ⟨[.fz fr, .fz (.tuple [.int u.1, .int u.2]), .un, .un, .un, .un, .un, .un], g⟩ := rfl
  rw [e0]
  obtain ⟨h1, h2, h3, h4⟩ := ha
  rcases hf with ⟨p, q, rfl⟩ | rfl
  · simp -implicitDefEqProofs only [↓s_cs, ↓nx_ap, ↓s_nil, ↓s_set, ↓s_par, ↓s_unp, ↓s_ret, ↓s_retN, ↓s_drop, ↓s_if, ↓s_whl, ↓s_for, ↓s_app, ↓s_ext, ↓s_put, ↓s_ja, ↓s_ji, ↓s_js, ↓s_jl, ↓s_rais, ↓s_pass, ↓s_brk, ↓s_cont, ↓s_tri, ↓hd_nil, ↓hd_cons, ↓un_s, ↓un_n, ↓hu_ret, ↓hu_ifr, ↓hx_b, ↓hx_s, ↓hx_i, ↓hx_n, ↓hx_fld, ↓hx_isA, ↓hx_nt, ↓hx_and, ↓hx_ite, ↓hx_lst, ↓hx_tup, ↓hxs_nil, ↓hxs_cons, ↓ra_none, ↓ra_some, ↓x_calldB, ↓x_lw, ↓x_dct0, ↓x_v, ↓x_i, ↓x_b, ↓x_n, ↓x_st, ↓x_g, ↓x_tup, ↓x_lst, ↓x_bin, ↓x_neg, ↓x_nt, ↓x_cmp, ↓x_chain, ↓x_isN, ↓x_notN, ↓x_and, ↓x_or, ↓x_ite, ↓x_ix, ↓x_cut, ↓x_rev, ↓x_stp, ↓x_callB, ↓x_callkB, ↓x_bi, ↓x_comp, ↓x_pop, ↓x_popA, ↓x_jg, ↓x_jn, ↓x_jp, ↓x_scut, ↓x_slen, ↓srcK, ↓srcL, ↓t_yes, ↓t_and', ↓t_or', ↓t_nt', ↓t_ex, ↓e_nil, ↓e_cons, ↓a_nil', ↓a_cons', ↓rs_nil, ↓rs_cons, ↓frzS_v, ↓frzS_n, ↓asgs_nil, ↓asgs_cons, ↓rd_z, ↓rd_s, ↓set_z, ↓set_s, ↓at_mk, ↓isJar_j, ↓der_v, ↓der_n, ↓der_sl, ↓frz_v, ↓frz_n, ↓frz_sl, ↓asg_v, ↓asg_n, ↓asg_sl, ↓opW, ↓cmpW, ↓eqw_int, ↓eqw_str, ↓eqw_tup, ↓eqw_lst, ↓ordW, ↓truW, ↓noOw, ↓ixW, ↓biW, ↓tgW, ↓tgsW, ↓opwW, ↓itW, ↓wipe_nil, ↓wipe_cons, ↓unwipe, ↓isOw, true_and, Bool.and_true, Bool.not_true, Bool.not_false, Bool.false_eq_true, ↓reduceIte, ↓blk_ap, ↓d17, cut4]
    exact ⟨mulS (by omega), mulS (by omega), mulS (by omega), mulS (by omega), h⟩
  · simp -implicitDefEqProofs only [↓s_cs, ↓nx_ap, ↓s_nil, ↓s_set, ↓s_par, ↓s_unp, ↓s_ret, ↓s_retN, ↓s_drop, ↓s_if, ↓s_whl, ↓s_for, ↓s_app, ↓s_ext, ↓s_put, ↓s_ja, ↓s_ji, ↓s_js, ↓s_jl, ↓s_rais, ↓s_pass, ↓s_brk, ↓s_cont, ↓s_tri, ↓hd_nil, ↓hd_cons, ↓un_s, ↓un_n, ↓hu_ret, ↓hu_ifr, ↓hx_b, ↓hx_s, ↓hx_i, ↓hx_n, ↓hx_fld, ↓hx_isA, ↓hx_nt, ↓hx_and, ↓hx_ite, ↓hx_lst, ↓hx_tup, ↓hxs_nil, ↓hxs_cons, ↓ra_none, ↓ra_some, ↓x_calldB, ↓x_lw, ↓x_dct0, ↓x_v, ↓x_i, ↓x_b, ↓x_n, ↓x_st, ↓x_g, ↓x_tup, ↓x_lst, ↓x_bin, ↓x_neg, ↓x_nt, ↓x_cmp, ↓x_chain, ↓x_isN, ↓x_notN, ↓x_and, ↓x_or, ↓x_ite, ↓x_ix, ↓x_cut, ↓x_rev, ↓x_stp, ↓x_callB, ↓x_callkB, ↓x_bi, ↓x_comp, ↓x_pop, ↓x_popA, ↓x_jg, ↓x_jn, ↓x_jp, ↓x_scut, ↓x_slen, ↓srcK, ↓srcL, ↓t_yes, ↓t_and', ↓t_or', ↓t_nt', ↓t_ex, ↓e_nil, ↓e_cons, ↓a_nil', ↓a_cons', ↓rs_nil, ↓rs_cons, ↓frzS_v, ↓frzS_n, ↓asgs_nil, ↓asgs_cons, ↓rd_z, ↓rd_s, ↓set_z, ↓set_s, ↓at_mk, ↓isJar_j, ↓der_v, ↓der_n, ↓der_sl, ↓frz_v, ↓frz_n, ↓frz_sl, ↓asg_v, ↓asg_n, ↓asg_sl, ↓opW, ↓cmpW, ↓eqw_int, ↓eqw_str, ↓eqw_tup, ↓eqw_lst, ↓ordW, ↓truW, ↓noOw, ↓ixW, ↓biW, ↓tgW, ↓tgsW, ↓opwW, ↓itW, ↓wipe_nil, ↓wipe_cons, ↓unwipe, ↓isOw, true_and, Bool.and_true, Bool.not_true, Bool.not_false, Bool.false_eq_true, ↓reduceIte, ↓blk_ap, ↓d17, cut4']
    exact ⟨mulS (by omega), mulS (by omega), mulS (by omega), mulS (by omega), h⟩
theorem p_fdet {n : Nat} {g : Gh} {f : Fr} {K : D → Gh → Prop} {X : Exn → Gh → Prop} (hf : S4 (10 ^ 17) f) (h : K (.int f.det) g) : callW T (n + 1) 19 [fD f] g K X := by
  refine call_df (np := 1) (ns := 1) (b := d19.b) rfl rfl ?_
  have e0 : startE 1 [fD f] g = ⟨[.fz (.tuple [.int f.a, .int f.b, .int f.c, .int f.d, .int f.p, .int f.q])], g⟩ := rfl
  rw [e0]
  obtain ⟨h1, h2, h3, h4⟩ := hf
  simp -implicitDefEqProofs only [↓s_cs, ↓nx_ap, ↓s_nil, ↓s_set, ↓s_par, ↓s_unp, ↓s_ret, ↓s_retN, ↓s_drop, ↓s_if, ↓s_whl, ↓s_for, ↓s_app, ↓s_ext, ↓s_put, ↓s_ja, ↓s_ji, ↓s_js, ↓s_jl, ↓s_rais, ↓s_pass, ↓s_brk, ↓s_cont, ↓s_tri, ↓hd_nil, ↓hd_cons, ↓un_s, ↓un_n, ↓hu_ret, ↓hu_ifr, ↓hx_b, ↓hx_s, ↓hx_i, ↓hx_n, ↓hx_fld, ↓hx_isA, ↓hx_nt, ↓hx_and, ↓hx_ite, ↓hx_lst, ↓hx_tup, ↓hxs_nil, ↓hxs_cons, ↓ra_none, ↓ra_some, ↓x_calldB, ↓x_lw, ↓x_dct0, ↓x_v, ↓x_i, ↓x_b, ↓x_n, ↓x_st, ↓x_g, ↓x_tup, ↓x_lst, ↓x_bin, ↓x_neg, ↓x_nt, ↓x_cmp, ↓x_chain, ↓x_isN, ↓x_notN, ↓x_and, ↓x_or, ↓x_ite, ↓x_ix, ↓x_cut, ↓x_rev, ↓x_stp, ↓x_callB, ↓x_callkB, ↓x_bi, ↓x_comp, ↓x_pop, ↓x_popA, ↓x_jg, ↓x_jn, ↓x_jp, ↓x_scut, ↓x_slen, ↓srcK, ↓srcL, ↓t_yes, ↓t_and', ↓t_or', ↓t_nt', ↓t_ex, ↓e_nil, ↓e_cons, ↓a_nil', ↓a_cons', ↓rs_nil, ↓rs_cons, ↓frzS_v, ↓frzS_n, ↓asgs_nil, ↓asgs_cons, ↓rd_z, ↓rd_s, ↓set_z, ↓set_s, ↓at_mk, ↓isJar_j, ↓der_v, ↓der_n, ↓der_sl, ↓frz_v, ↓frz_n, ↓frz_sl, ↓asg_v, ↓asg_n, ↓asg_sl, ↓opW, ↓cmpW, ↓eqw_int, ↓eqw_str, ↓eqw_tup, ↓eqw_lst, ↓ordW, ↓truW, ↓noOw, ↓ixW, ↓biW, ↓tgW, ↓tgsW, ↓opwW, ↓itW, ↓wipe_nil, ↓wipe_cons, ↓unwipe, ↓isOw, true_and, Bool.and_true, Bool.not_true, Bool.not_false, Bool.false_eq_true, ↓reduceIte, ↓blk_ap, ↓d19, s6_0, s6_1, s6_2, s6_3]
  exact ⟨mulS (by omega), mulS (by omega), h⟩
theorem p_fbehind {n : Nat} {g : Gh} {o t : Fr} {K : D → Gh → Prop} {X : Exn → Gh → Prop} (ht : S4 (10 ^ 17) t) (h : K (fD (behind o t)) g) : callW T (n + 2) 18 [fD o, fD t] g K X := by
  refine call_df (np := 2) (ns := 4) (b := d18.b) rfl rfl ?_
  have e0 : startE 4 [fD o, fD t] g = ⟨[.fz (.tuple [.int o.a, .int o.b, .int o.c, .int o.d, .int o.p, .int o.q]), .fz (fD t), .un, .un], g⟩ := rfl
  rw [e0]
  simp -implicitDefEqProofs only [↓s_cs, ↓nx_ap, ↓s_nil, ↓s_set, ↓s_par, ↓s_unp, ↓s_ret, ↓s_retN, ↓s_drop, ↓s_if, ↓s_whl, ↓s_for, ↓s_app, ↓s_ext, ↓s_put, ↓s_ja, ↓s_ji, ↓s_js, ↓s_jl, ↓s_rais, ↓s_pass, ↓s_brk, ↓s_cont, ↓s_tri, ↓hd_nil, ↓hd_cons, ↓un_s, ↓un_n, ↓hu_ret, ↓hu_ifr, ↓hx_b, ↓hx_s, ↓hx_i, ↓hx_n, ↓hx_fld, ↓hx_isA, ↓hx_nt, ↓hx_and, ↓hx_ite, ↓hx_lst, ↓hx_tup, ↓hxs_nil, ↓hxs_cons, ↓ra_none, ↓ra_some, ↓x_calldB, ↓x_lw, ↓x_dct0, ↓x_v, ↓x_i, ↓x_b, ↓x_n, ↓x_st, ↓x_g, ↓x_tup, ↓x_lst, ↓x_bin, ↓x_neg, ↓x_nt, ↓x_cmp, ↓x_chain, ↓x_isN, ↓x_notN, ↓x_and, ↓x_or, ↓x_ite, ↓x_ix, ↓x_cut, ↓x_rev, ↓x_stp, ↓x_callB, ↓x_callkB, ↓x_bi, ↓x_comp, ↓x_pop, ↓x_popA, ↓x_jg, ↓x_jn, ↓x_jp, ↓x_scut, ↓x_slen, ↓srcK, ↓srcL, ↓t_yes, ↓t_and', ↓t_or', ↓t_nt', ↓t_ex, ↓e_nil, ↓e_cons, ↓a_nil', ↓a_cons', ↓rs_nil, ↓rs_cons, ↓frzS_v, ↓frzS_n, ↓asgs_nil, ↓asgs_cons, ↓rd_z, ↓rd_s, ↓set_z, ↓set_s, ↓at_mk, ↓isJar_j, ↓der_v, ↓der_n, ↓der_sl, ↓frz_v, ↓frz_n, ↓frz_sl, ↓asg_v, ↓asg_n, ↓asg_sl, ↓opW, ↓cmpW, ↓eqw_int, ↓eqw_str, ↓eqw_tup, ↓eqw_lst, ↓ordW, ↓truW, ↓noOw, ↓ixW, ↓biW, ↓tgW, ↓tgsW, ↓opwW, ↓itW, ↓wipe_nil, ↓wipe_cons, ↓unwipe, ↓isOw, true_and, Bool.and_true, Bool.not_true, Bool.not_false, Bool.false_eq_true, ↓reduceIte, ↓blk_ap, ↓d18, s6_0, s6_1, s6_2, s6_3, s6_4, s6_5]
  refine p_fvec (n := n) (u := (o.a, o.c)) (.inl ⟨t.p, t.q, rfl⟩) ht ?_
  try simp -implicitDefEqProofs only [↓s_cs, ↓nx_ap, ↓s_nil, ↓s_set, ↓s_par, ↓s_unp, ↓s_ret, ↓s_retN, ↓s_drop, ↓s_if, ↓s_whl, ↓s_for, ↓s_app, ↓s_ext, ↓s_put, ↓s_ja, ↓s_ji, ↓s_js, ↓s_jl, ↓s_rais, ↓s_pass, ↓s_brk, ↓s_cont, ↓s_tri, ↓hd_nil, ↓hd_cons, ↓un_s, ↓un_n, ↓hu_ret, ↓hu_ifr, ↓hx_b, ↓hx_s, ↓hx_i, ↓hx_n, ↓hx_fld, ↓hx_isA, ↓hx_nt, ↓hx_and, ↓hx_ite, ↓hx_lst, ↓hx_tup, ↓hxs_nil, ↓hxs_cons, ↓ra_none, ↓ra_some, ↓x_calldB, ↓x_lw, ↓x_dct0, ↓x_v, ↓x_i, ↓x_b, ↓x_n, ↓x_st, ↓x_g, ↓x_tup, ↓x_lst, ↓x_bin, ↓x_neg, ↓x_nt, ↓x_cmp, ↓x_chain, ↓x_isN, ↓x_notN, ↓x_and, ↓x_or, ↓x_ite, ↓x_ix, ↓x_cut, ↓x_rev, ↓x_stp, ↓x_callB, ↓x_callkB, ↓x_bi, ↓x_comp, ↓x_pop, ↓x_popA, ↓x_jg, ↓x_jn, ↓x_jp, ↓x_scut, ↓x_slen, ↓srcK, ↓srcL, ↓t_yes, ↓t_and', ↓t_or', ↓t_nt', ↓t_ex, ↓e_nil, ↓e_cons, ↓a_nil', ↓a_cons', ↓rs_nil, ↓rs_cons, ↓frzS_v, ↓frzS_n, ↓asgs_nil, ↓asgs_cons, ↓rd_z, ↓rd_s, ↓set_z, ↓set_s, ↓at_mk, ↓isJar_j, ↓der_v, ↓der_n, ↓der_sl, ↓frz_v, ↓frz_n, ↓frz_sl, ↓asg_v, ↓asg_n, ↓asg_sl, ↓opW, ↓cmpW, ↓eqw_int, ↓eqw_str, ↓eqw_tup, ↓eqw_lst, ↓ordW, ↓truW, ↓noOw, ↓ixW, ↓biW, ↓tgW, ↓tgsW, ↓opwW, ↓itW, ↓wipe_nil, ↓wipe_cons, ↓unwipe, ↓isOw, true_and, Bool.and_true, Bool.not_true, Bool.not_false, Bool.false_eq_true, ↓reduceIte, ↓blk_ap, s6_0, s6_1, s6_2, s6_3, s6_4, s6_5]
  refine p_fvec (n := n) (u := (o.b, o.d)) (.inl ⟨t.p, t.q, rfl⟩) ht ?_
  try simp -implicitDefEqProofs only [↓s_cs, ↓nx_ap, ↓s_nil, ↓s_set, ↓s_par, ↓s_unp, ↓s_ret, ↓s_retN, ↓s_drop, ↓s_if, ↓s_whl, ↓s_for, ↓s_app, ↓s_ext, ↓s_put, ↓s_ja, ↓s_ji, ↓s_js, ↓s_jl, ↓s_rais, ↓s_pass, ↓s_brk, ↓s_cont, ↓s_tri, ↓hd_nil, ↓hd_cons, ↓un_s, ↓un_n, ↓hu_ret, ↓hu_ifr, ↓hx_b, ↓hx_s, ↓hx_i, ↓hx_n, ↓hx_fld, ↓hx_isA, ↓hx_nt, ↓hx_and, ↓hx_ite, ↓hx_lst, ↓hx_tup, ↓hxs_nil, ↓hxs_cons, ↓ra_none, ↓ra_some, ↓x_calldB, ↓x_lw, ↓x_dct0, ↓x_v, ↓x_i, ↓x_b, ↓x_n, ↓x_st, ↓x_g, ↓x_tup, ↓x_lst, ↓x_bin, ↓x_neg, ↓x_nt, ↓x_cmp, ↓x_chain, ↓x_isN, ↓x_notN, ↓x_and, ↓x_or, ↓x_ite, ↓x_ix, ↓x_cut, ↓x_rev, ↓x_stp, ↓x_callB, ↓x_callkB, ↓x_bi, ↓x_comp, ↓x_pop, ↓x_popA, ↓x_jg, ↓x_jn, ↓x_jp, ↓x_scut, ↓x_slen, ↓srcK, ↓srcL, ↓t_yes, ↓t_and', ↓t_or', ↓t_nt', ↓t_ex, ↓e_nil, ↓e_cons, ↓a_nil', ↓a_cons', ↓rs_nil, ↓rs_cons, ↓frzS_v, ↓frzS_n, ↓asgs_nil, ↓asgs_cons, ↓rd_z, ↓rd_s, ↓set_z, ↓set_s, ↓at_mk, ↓isJar_j, ↓der_v, ↓der_n, ↓der_sl, ↓frz_v, ↓frz_n, ↓frz_sl, ↓asg_v, ↓asg_n, ↓asg_sl, ↓opW, ↓cmpW, ↓eqw_int, ↓eqw_str, ↓eqw_tup, ↓eqw_lst, ↓ordW, ↓truW, ↓noOw, ↓ixW, ↓biW, ↓tgW, ↓tgsW, ↓opwW, ↓itW, ↓wipe_nil, ↓wipe_cons, ↓unwipe, ↓isOw, true_and, Bool.and_true, Bool.not_true, Bool.not_false, Bool.false_eq_true, ↓reduceIte, ↓blk_ap, pD, q0, q1, s6_4, s6_5]
  refine p_framed (n := n) (u := (o.p, o.q)) (by unfold S4 at *; omega) ?_
  try simp -implicitDefEqProofs only [↓s_cs, ↓nx_ap, ↓s_nil, ↓s_set, ↓s_par, ↓s_unp, ↓s_ret, ↓s_retN, ↓s_drop, ↓s_if, ↓s_whl, ↓s_for, ↓s_app, ↓s_ext, ↓s_put, ↓s_ja, ↓s_ji, ↓s_js, ↓s_jl, ↓s_rais, ↓s_pass, ↓s_brk, ↓s_cont, ↓s_tri, ↓hd_nil, ↓hd_cons, ↓un_s, ↓un_n, ↓hu_ret, ↓hu_ifr, ↓hx_b, ↓hx_s, ↓hx_i, ↓hx_n, ↓hx_fld, ↓hx_isA, ↓hx_nt, ↓hx_and, ↓hx_ite, ↓hx_lst, ↓hx_tup, ↓hxs_nil, ↓hxs_cons, ↓ra_none, ↓ra_some, ↓x_calldB, ↓x_lw, ↓x_dct0, ↓x_v, ↓x_i, ↓x_b, ↓x_n, ↓x_st, ↓x_g, ↓x_tup, ↓x_lst, ↓x_bin, ↓x_neg, ↓x_nt, ↓x_cmp, ↓x_chain, ↓x_isN, ↓x_notN, ↓x_and, ↓x_or, ↓x_ite, ↓x_ix, ↓x_cut, ↓x_rev, ↓x_stp, ↓x_callB, ↓x_callkB, ↓x_bi, ↓x_comp, ↓x_pop, ↓x_popA, ↓x_jg, ↓x_jn, ↓x_jp, ↓x_scut, ↓x_slen, ↓srcK, ↓srcL, ↓t_yes, ↓t_and', ↓t_or', ↓t_nt', ↓t_ex, ↓e_nil, ↓e_cons, ↓a_nil', ↓a_cons', ↓rs_nil, ↓rs_cons, ↓frzS_v, ↓frzS_n, ↓asgs_nil, ↓asgs_cons, ↓rd_z, ↓rd_s, ↓set_z, ↓set_s, ↓at_mk, ↓isJar_j, ↓der_v, ↓der_n, ↓der_sl, ↓frz_v, ↓frz_n, ↓frz_sl, ↓asg_v, ↓asg_n, ↓asg_sl, ↓opW, ↓cmpW, ↓eqw_int, ↓eqw_str, ↓eqw_tup, ↓eqw_lst, ↓ordW, ↓truW, ↓noOw, ↓ixW, ↓biW, ↓tgW, ↓tgsW, ↓opwW, ↓itW, ↓wipe_nil, ↓wipe_cons, ↓unwipe, ↓isOw, true_and, Bool.and_true, Bool.not_true, Bool.not_false, Bool.false_eq_true, ↓reduceIte, ↓blk_ap, pD]
  exact ⟨by show 4 + 2 ≤ SZ; decide, h⟩
theorem one_sm {x : Int} (h : One x) : -(2 ^ 64) < x ∧ x < 2 ^ 64 := by rcases h with rfl | rfl <;> decide
theorem one_ng {x : Int} (h : One x) : One (-x) := by rcases h with rfl | rfl <;> simp [One]
theorem one_s4 {f : Fr} {m : Int} (h : One f.det) (hf : S4 m f) : S4 m (back f) := by
  obtain ⟨h1, h2, h3, h4⟩ := hf
  unfold S4 back
  dsimp only
  rcases h with e | e <;> rw [e] <;> refine ⟨?_, ?_, ?_, ?_⟩ <;> omega
theorem p_fback {n : Nat} {g : Gh} {f : Fr} {K : D → Gh → Prop} {X : Exn → Gh → Prop} (hf : S4 (10 ^ 17) f) (ho : One f.det) (h : K (fD (back f)) g) : callW T (n + 2) 20 [fD f] g K X := by
  refine call_df (np := 1) (ns := 10) (b := d20.b) rfl rfl ?_
  have e0 : startE 10 [fD f] g = ⟨[.fz (.tuple [.int f.a, .int f.b, .int f.c, .int f.d, .int f.p, .int f.q]), .un, .un, .un, .un, .un, .un, .un, .un, .un], g⟩ := rfl
  rw [e0]
  simp -implicitDefEqProofs only [↓s_cs, ↓nx_ap, ↓s_nil, ↓s_set, ↓s_par, ↓s_unp, ↓s_ret, ↓s_retN, ↓s_drop, ↓s_if, ↓s_whl, ↓s_for, ↓s_app, ↓s_ext, ↓s_put, ↓s_ja, ↓s_ji, ↓s_js, ↓s_jl, ↓s_rais, ↓s_pass, ↓s_brk, ↓s_cont, ↓s_tri, ↓hd_nil, ↓hd_cons, ↓un_s, ↓un_n, ↓hu_ret, ↓hu_ifr, ↓hx_b, ↓hx_s, ↓hx_i, ↓hx_n, ↓hx_fld, ↓hx_isA, ↓hx_nt, ↓hx_and, ↓hx_ite, ↓hx_lst, ↓hx_tup, ↓hxs_nil, ↓hxs_cons, ↓ra_none, ↓ra_some, ↓x_calldB, ↓x_lw, ↓x_dct0, ↓x_v, ↓x_i, ↓x_b, ↓x_n, ↓x_st, ↓x_g, ↓x_tup, ↓x_lst, ↓x_bin, ↓x_neg, ↓x_nt, ↓x_cmp, ↓x_chain, ↓x_isN, ↓x_notN, ↓x_and, ↓x_or, ↓x_ite, ↓x_ix, ↓x_cut, ↓x_rev, ↓x_stp, ↓x_callB, ↓x_callkB, ↓x_bi, ↓x_comp, ↓x_pop, ↓x_popA, ↓x_jg, ↓x_jn, ↓x_jp, ↓x_scut, ↓x_slen, ↓srcK, ↓srcL, ↓t_yes, ↓t_and', ↓t_or', ↓t_nt', ↓t_ex, ↓e_nil, ↓e_cons, ↓a_nil', ↓a_cons', ↓rs_nil, ↓rs_cons, ↓frzS_v, ↓frzS_n, ↓asgs_nil, ↓asgs_cons, ↓rd_z, ↓rd_s, ↓set_z, ↓set_s, ↓at_mk, ↓isJar_j, ↓der_v, ↓der_n, ↓der_sl, ↓frz_v, ↓frz_n, ↓frz_sl, ↓asg_v, ↓asg_n, ↓asg_sl, ↓opW, ↓cmpW, ↓eqw_int, ↓eqw_str, ↓eqw_tup, ↓eqw_lst, ↓ordW, ↓truW, ↓noOw, ↓ixW, ↓biW, ↓tgW, ↓tgsW, ↓opwW, ↓itW, ↓wipe_nil, ↓wipe_cons, ↓unwipe, ↓isOw, true_and, Bool.and_true, Bool.not_true, Bool.not_false, Bool.false_eq_true, ↓reduceIte, ↓blk_ap, ↓d20]
  refine p_fdet (n := n) hf ?_
  try simp -implicitDefEqProofs only [↓s_cs, ↓nx_ap, ↓s_nil, ↓s_set, ↓s_par, ↓s_unp, ↓s_ret, ↓s_retN, ↓s_drop, ↓s_if, ↓s_whl, ↓s_for, ↓s_app, ↓s_ext, ↓s_put, ↓s_ja, ↓s_ji, ↓s_js, ↓s_jl, ↓s_rais, ↓s_pass, ↓s_brk, ↓s_cont, ↓s_tri, ↓hd_nil, ↓hd_cons, ↓un_s, ↓un_n, ↓hu_ret, ↓hu_ifr, ↓hx_b, ↓hx_s, ↓hx_i, ↓hx_n, ↓hx_fld, ↓hx_isA, ↓hx_nt, ↓hx_and, ↓hx_ite, ↓hx_lst, ↓hx_tup, ↓hxs_nil, ↓hxs_cons, ↓ra_none, ↓ra_some, ↓x_calldB, ↓x_lw, ↓x_dct0, ↓x_v, ↓x_i, ↓x_b, ↓x_n, ↓x_st, ↓x_g, ↓x_tup, ↓x_lst, ↓x_bin, ↓x_neg, ↓x_nt, ↓x_cmp, ↓x_chain, ↓x_isN, ↓x_notN, ↓x_and, ↓x_or, ↓x_ite, ↓x_ix, ↓x_cut, ↓x_rev, ↓x_stp, ↓x_callB, ↓x_callkB, ↓x_bi, ↓x_comp, ↓x_pop, ↓x_popA, ↓x_jg, ↓x_jn, ↓x_jp, ↓x_scut, ↓x_slen, ↓srcK, ↓srcL, ↓t_yes, ↓t_and', ↓t_or', ↓t_nt', ↓t_ex, ↓e_nil, ↓e_cons, ↓a_nil', ↓a_cons', ↓rs_nil, ↓rs_cons, ↓frzS_v, ↓frzS_n, ↓asgs_nil, ↓asgs_cons, ↓rd_z, ↓rd_s, ↓set_z, ↓set_s, ↓at_mk, ↓isJar_j, ↓der_v, ↓der_n, ↓der_sl, ↓frz_v, ↓frz_n, ↓frz_sl, ↓asg_v, ↓asg_n, ↓asg_sl, ↓opW, ↓cmpW, ↓eqw_int, ↓eqw_str, ↓eqw_tup, ↓eqw_lst, ↓ordW, ↓truW, ↓noOw, ↓ixW, ↓biW, ↓tgW, ↓tgsW, ↓opwW, ↓itW, ↓wipe_nil, ↓wipe_cons, ↓unwipe, ↓isOw, true_and, Bool.and_true, Bool.not_true, Bool.not_false, Bool.false_eq_true, ↓reduceIte, ↓blk_ap]
  have hb := one_s4 ho hf
  refine ⟨mulS (one_sm ho), mulS (one_sm (one_ng ho)), mulS (one_sm (one_ng ho)), mulS (one_sm ho), ?_⟩
  refine p_fvec (n := n) (u := (f.p, f.q)) (.inr rfl) hb ?_
  try simp -implicitDefEqProofs only [↓s_cs, ↓nx_ap, ↓s_nil, ↓s_set, ↓s_par, ↓s_unp, ↓s_ret, ↓s_retN, ↓s_drop, ↓s_if, ↓s_whl, ↓s_for, ↓s_app, ↓s_ext, ↓s_put, ↓s_ja, ↓s_ji, ↓s_js, ↓s_jl, ↓s_rais, ↓s_pass, ↓s_brk, ↓s_cont, ↓s_tri, ↓hd_nil, ↓hd_cons, ↓un_s, ↓un_n, ↓hu_ret, ↓hu_ifr, ↓hx_b, ↓hx_s, ↓hx_i, ↓hx_n, ↓hx_fld, ↓hx_isA, ↓hx_nt, ↓hx_and, ↓hx_ite, ↓hx_lst, ↓hx_tup, ↓hxs_nil, ↓hxs_cons, ↓ra_none, ↓ra_some, ↓x_calldB, ↓x_lw, ↓x_dct0, ↓x_v, ↓x_i, ↓x_b, ↓x_n, ↓x_st, ↓x_g, ↓x_tup, ↓x_lst, ↓x_bin, ↓x_neg, ↓x_nt, ↓x_cmp, ↓x_chain, ↓x_isN, ↓x_notN, ↓x_and, ↓x_or, ↓x_ite, ↓x_ix, ↓x_cut, ↓x_rev, ↓x_stp, ↓x_callB, ↓x_callkB, ↓x_bi, ↓x_comp, ↓x_pop, ↓x_popA, ↓x_jg, ↓x_jn, ↓x_jp, ↓x_scut, ↓x_slen, ↓srcK, ↓srcL, ↓t_yes, ↓t_and', ↓t_or', ↓t_nt', ↓t_ex, ↓e_nil, ↓e_cons, ↓a_nil', ↓a_cons', ↓rs_nil, ↓rs_cons, ↓frzS_v, ↓frzS_n, ↓asgs_nil, ↓asgs_cons, ↓rd_z, ↓rd_s, ↓set_z, ↓set_s, ↓at_mk, ↓isJar_j, ↓der_v, ↓der_n, ↓der_sl, ↓frz_v, ↓frz_n, ↓frz_sl, ↓asg_v, ↓asg_n, ↓asg_sl, ↓opW, ↓cmpW, ↓eqw_int, ↓eqw_str, ↓eqw_tup, ↓eqw_lst, ↓ordW, ↓truW, ↓noOw, ↓ixW, ↓biW, ↓tgW, ↓tgsW, ↓opwW, ↓itW, ↓wipe_nil, ↓wipe_cons, ↓unwipe, ↓isOw, true_and, Bool.and_true, Bool.not_true, Bool.not_false, Bool.false_eq_true, ↓reduceIte, ↓blk_ap, pD, q0, q1]
  exact ⟨by show 4 + 2 ≤ SZ; decide, h⟩
theorem p_lback {n : Nat} {g : Gh} {f : Fr} {K : D → Gh → Prop} {X : Exn → Gh → Prop} (hf : S4 (10 ^ 17) f) (ho : One f.det) (h : K (fD (back f)) g) : callW T (n + 2) 22 [fD f] g K X := by
  refine call_df (np := 1) (ns := 12) (b := d22.b) rfl rfl ?_
  have e0 : startE 12 [fD f] g = ⟨[.fz (.tuple [.int f.a, .int f.b, .int f.c, .int f.d, .int f.p, .int f.q]), .un, .un, .un, .un, .un, .un, .un, .un, .un, .un, .un], g⟩ := rfl
  rw [e0]
  have hb := one_s4 ho hf
  obtain ⟨b1, b2, b3, b4⟩ := hb
  obtain ⟨h1, h2, h3, h4⟩ := hf
  simp -implicitDefEqProofs only [↓s_cs, ↓nx_ap, ↓s_nil, ↓s_set, ↓s_par, ↓s_unp, ↓s_ret, ↓s_retN, ↓s_drop, ↓s_if, ↓s_whl, ↓s_for, ↓s_app, ↓s_ext, ↓s_put, ↓s_ja, ↓s_ji, ↓s_js, ↓s_jl, ↓s_rais, ↓s_pass, ↓s_brk, ↓s_cont, ↓s_tri, ↓hd_nil, ↓hd_cons, ↓un_s, ↓un_n, ↓hu_ret, ↓hu_ifr, ↓hx_b, ↓hx_s, ↓hx_i, ↓hx_n, ↓hx_fld, ↓hx_isA, ↓hx_nt, ↓hx_and, ↓hx_ite, ↓hx_lst, ↓hx_tup, ↓hxs_nil, ↓hxs_cons, ↓ra_none, ↓ra_some, ↓x_calldB, ↓x_lw, ↓x_dct0, ↓x_v, ↓x_i, ↓x_b, ↓x_n, ↓x_st, ↓x_g, ↓x_tup, ↓x_lst, ↓x_bin, ↓x_neg, ↓x_nt, ↓x_cmp, ↓x_chain, ↓x_isN, ↓x_notN, ↓x_and, ↓x_or, ↓x_ite, ↓x_ix, ↓x_cut, ↓x_rev, ↓x_stp, ↓x_callB, ↓x_callkB, ↓x_bi, ↓x_comp, ↓x_pop, ↓x_popA, ↓x_jg, ↓x_jn, ↓x_jp, ↓x_scut, ↓x_slen, ↓srcK, ↓srcL, ↓t_yes, ↓t_and', ↓t_or', ↓t_nt', ↓t_ex, ↓e_nil, ↓e_cons, ↓a_nil', ↓a_cons', ↓rs_nil, ↓rs_cons, ↓frzS_v, ↓frzS_n, ↓asgs_nil, ↓asgs_cons, ↓rd_z, ↓rd_s, ↓set_z, ↓set_s, ↓at_mk, ↓isJar_j, ↓der_v, ↓der_n, ↓der_sl, ↓frz_v, ↓frz_n, ↓frz_sl, ↓asg_v, ↓asg_n, ↓asg_sl, ↓opW, ↓cmpW, ↓eqw_int, ↓eqw_str, ↓eqw_tup, ↓eqw_lst, ↓ordW, ↓truW, ↓noOw, ↓ixW, ↓biW, ↓tgW, ↓tgsW, ↓opwW, ↓itW, ↓wipe_nil, ↓wipe_cons, ↓unwipe, ↓isOw, true_and, Bool.and_true, Bool.not_true, Bool.not_false, Bool.false_eq_true, ↓reduceIte, ↓blk_ap, ↓d22]
  have ed : f.a * f.d - f.b * f.c = f.det := rfl
  rw [ed]
  have z1 : -10 ^ 17 ≤ f.det * f.d ∧ f.det * f.d ≤ 10 ^ 17 := b1
  have z2 : -10 ^ 17 ≤ -f.det * f.b ∧ -f.det * f.b ≤ 10 ^ 17 := b2
  have z3 : -10 ^ 17 ≤ -f.det * f.c ∧ -f.det * f.c ≤ 10 ^ 17 := b3
  have z4 : -10 ^ 17 ≤ f.det * f.a ∧ f.det * f.a ≤ 10 ^ 17 := b4
  refine ⟨mulS (by omega), mulS (by omega), mulS (one_sm ho), mulS (one_sm (one_ng ho)), mulS (one_sm (one_ng ho)), mulS (one_sm ho), mulS (by omega), mulS (by omega), mulS (by omega), mulS (by omega), h⟩
theorem p_put {n : Nat} {g : Gh} {ds : List D} {p : Int} {x : D} {K : D → Gh → Prop} {X : Exn → Gh → Prop} (h0 : 0 ≤ p) (hl : ds.length ≤ 10000) (h : K (.tuple (ds.take p.toNat ++ [x] ++ ds.drop (p.toNat + 1))) g) :
    callW T (n + 1) 1 [.tuple ds, .int p, x] g K X := by
  refine call_df (np := 3) (ns := 3) (b := d1.b) rfl rfl ?_
  have e0 : startE 3 [.tuple ds, .int p, x] g = ⟨[.fz (.tuple ds), .fz (.int p), .fz x], g⟩ := rfl
  rw [e0]
  simp -implicitDefEqProofs only [↓s_cs, ↓nx_ap, ↓s_nil, ↓s_set, ↓s_par, ↓s_unp, ↓s_ret, ↓s_retN, ↓s_drop, ↓s_if, ↓s_whl, ↓s_for, ↓s_app, ↓s_ext, ↓s_put, ↓s_ja, ↓s_ji, ↓s_js, ↓s_jl, ↓s_rais, ↓s_pass, ↓s_brk, ↓s_cont, ↓s_tri, ↓hd_nil, ↓hd_cons, ↓un_s, ↓un_n, ↓hu_ret, ↓hu_ifr, ↓hx_b, ↓hx_s, ↓hx_i, ↓hx_n, ↓hx_fld, ↓hx_isA, ↓hx_nt, ↓hx_and, ↓hx_ite, ↓hx_lst, ↓hx_tup, ↓hxs_nil, ↓hxs_cons, ↓ra_none, ↓ra_some, ↓x_calldB, ↓x_lw, ↓x_dct0, ↓x_v, ↓x_i, ↓x_b, ↓x_n, ↓x_st, ↓x_g, ↓x_tup, ↓x_lst, ↓x_bin, ↓x_neg, ↓x_nt, ↓x_cmp, ↓x_chain, ↓x_isN, ↓x_notN, ↓x_and, ↓x_or, ↓x_ite, ↓x_ix, ↓x_cut, ↓x_rev, ↓x_stp, ↓x_callB, ↓x_callkB, ↓x_bi, ↓x_comp, ↓x_pop, ↓x_popA, ↓x_jg, ↓x_jn, ↓x_jp, ↓x_scut, ↓x_slen, ↓srcK, ↓srcL, ↓t_yes, ↓t_and', ↓t_or', ↓t_nt', ↓t_ex, ↓e_nil, ↓e_cons, ↓a_nil', ↓a_cons', ↓rs_nil, ↓rs_cons, ↓frzS_v, ↓frzS_n, ↓asgs_nil, ↓asgs_cons, ↓rd_z, ↓rd_s, ↓set_z, ↓set_s, ↓at_mk, ↓isJar_j, ↓der_v, ↓der_n, ↓der_sl, ↓frz_v, ↓frz_n, ↓frz_sl, ↓asg_v, ↓asg_n, ↓asg_sl, ↓opW, ↓cmpW, ↓eqw_int, ↓eqw_str, ↓eqw_tup, ↓eqw_lst, ↓ordW, ↓truW, ↓noOw, ↓ixW, ↓biW, ↓tgW, ↓tgsW, ↓opwW, ↓itW, ↓wipe_nil, ↓wipe_cons, ↓unwipe, ↓isOw, true_and, Bool.and_true, Bool.not_true, Bool.not_false, Bool.false_eq_true, ↓reduceIte, ↓blk_ap, ↓d1]
  rw [cut_take h0, cut_drop (by omega), show (p + 1).toNat = p.toNat + 1 by omega]
  refine ⟨?_, ?_, h⟩
  · rw [List.length_take]; show _ + 1 ≤ _; unfold SZ; omega
  · rw [List.length_append, List.length_take, List.length_drop]; show _ + 1 + _ ≤ _; unfold SZ; omega
end G01

-- BLK
set_option linter.all false
set_option maxRecDepth 100000
set_option exponentiation.threshold 200000
namespace G01
open PySem PySem.Spec PyProof.Rows L2 G
/-- small pairs -/
def Sp (u : Int × Int) : Prop := (-(10 ^ 8) ≤ u.1 ∧ u.1 ≤ 10 ^ 8) ∧ (-(10 ^ 8) ≤ u.2 ∧ u.2 ≤ 10 ^ 8)
theorem gcd_step {a b : Int} (ha : 0 ≤ a) (hb : 0 ≤ b) : Int.gcd b (a % b) = Int.gcd a b := by
  obtain ⟨A, rfl⟩ := Int.eq_ofNat_of_zero_le ha
  obtain ⟨B, rfl⟩ := Int.eq_ofNat_of_zero_le hb
  show Nat.gcd B ((A : Int) % B).natAbs = Nat.gcd A B
  rw [← Int.natCast_emod, Int.natAbs_natCast, Nat.gcd_comm, ← Nat.gcd_rec, Nat.gcd_comm]
theorem p_gcd {n : Nat} {g : Gh} {x y : Int} {K : D → Gh → Prop} {X : Exn → Gh → Prop} (h : K (.int (Int.gcd x y)) g) : callW T (n + 1) 5 [.int x, .int y] g K X := by
  refine call_df (np := 2) (ns := 2) (b := d5.b) rfl rfl ?_
  have e0 : startE 2 [.int x, .int y] g = ⟨[.fz (.int x), .fz (.int y)], g⟩ := rfl
  rw [e0]
  simp -implicitDefEqProofs only [↓s_cs, ↓nx_ap, ↓s_nil, ↓s_set, ↓s_par, ↓s_unp, ↓s_ret, ↓s_retN, ↓s_drop, ↓s_if, ↓s_whl, ↓s_for, ↓s_app, ↓s_ext, ↓s_put, ↓s_ja, ↓s_ji, ↓s_js, ↓s_jl, ↓s_rais, ↓s_pass, ↓s_brk, ↓s_cont, ↓s_tri, ↓hd_nil, ↓hd_cons, ↓un_s, ↓un_n, ↓hu_ret, ↓hu_ifr, ↓hx_b, ↓hx_s, ↓hx_i, ↓hx_n, ↓hx_fld, ↓hx_isA, ↓hx_nt, ↓hx_and, ↓hx_ite, ↓hx_lst, ↓hx_tup, ↓hxs_nil, ↓hxs_cons, ↓ra_none, ↓ra_some, ↓x_calldB, ↓x_lw, ↓x_dct0, ↓x_v, ↓x_i, ↓x_b, ↓x_n, ↓x_st, ↓x_g, ↓x_tup, ↓x_lst, ↓x_bin, ↓x_neg, ↓x_nt, ↓x_cmp, ↓x_chain, ↓x_isN, ↓x_notN, ↓x_and, ↓x_or, ↓x_ite, ↓x_ix, ↓x_cut, ↓x_rev, ↓x_stp, ↓x_callB, ↓x_callkB, ↓x_bi, ↓x_comp, ↓x_pop, ↓x_popA, ↓x_jg, ↓x_jn, ↓x_jp, ↓x_scut, ↓x_slen, ↓srcK, ↓srcL, ↓t_yes, ↓t_and', ↓t_or', ↓t_nt', ↓t_ex, ↓e_nil, ↓e_cons, ↓a_nil', ↓a_cons', ↓rs_nil, ↓rs_cons, ↓frzS_v, ↓frzS_n, ↓asgs_nil, ↓asgs_cons, ↓rd_z, ↓rd_s, ↓set_z, ↓set_s, ↓at_mk, ↓isJar_j, ↓der_v, ↓der_n, ↓der_sl, ↓frz_v, ↓frz_n, ↓frz_sl, ↓asg_v, ↓asg_n, ↓asg_sl, ↓opW, ↓cmpW, ↓eqw_int, ↓eqw_str, ↓eqw_tup, ↓eqw_lst, ↓ordW, ↓truW, ↓noOw, ↓ixW, ↓biW, ↓tgW, ↓tgsW, ↓opwW, ↓itW, ↓wipe_nil, ↓wipe_cons, ↓unwipe, ↓isOw, true_and, Bool.and_true, Bool.not_true, Bool.not_false, Bool.false_eq_true, ↓reduceIte, ↓blk_ap, ↓d5]
  have eg : Int.gcd (if x < 0 then -x else x) (if y < 0 then -y else y) = Int.gcd x y := by
    split <;> split <;> simp [Int.gcd]
  rw [← eg] at h
  have hx : 0 ≤ (if x < 0 then -x else x) := by split <;> omega
  have hy : 0 ≤ (if y < 0 then -y else y) := by split <;> omega
  generalize (if x < 0 then -x else x) = x at *
  generalize (if y < 0 then -y else y) = y at *
  refine whl_inv (fun o r => ∃ (a b : Int), r = ⟨[.fz (.int a), .fz (.int b)], g⟩ ∧ 0 ≤ a ∧ 0 ≤ b ∧ Int.gcd a b = Int.gcd x y ∧ o = b.toNat) (m := y.toNat) ⟨x, y, rfl, hx, hy, rfl, rfl⟩ ?_
  rintro o r ⟨a, b, rfl, ha, hb, hg, rfl⟩
  unfold whT
  try simp -implicitDefEqProofs only [↓s_cs, ↓nx_ap, ↓s_nil, ↓s_set, ↓s_par, ↓s_unp, ↓s_ret, ↓s_retN, ↓s_drop, ↓s_if, ↓s_whl, ↓s_for, ↓s_app, ↓s_ext, ↓s_put, ↓s_ja, ↓s_ji, ↓s_js, ↓s_jl, ↓s_rais, ↓s_pass, ↓s_brk, ↓s_cont, ↓s_tri, ↓hd_nil, ↓hd_cons, ↓un_s, ↓un_n, ↓hu_ret, ↓hu_ifr, ↓hx_b, ↓hx_s, ↓hx_i, ↓hx_n, ↓hx_fld, ↓hx_isA, ↓hx_nt, ↓hx_and, ↓hx_ite, ↓hx_lst, ↓hx_tup, ↓hxs_nil, ↓hxs_cons, ↓ra_none, ↓ra_some, ↓x_calldB, ↓x_lw, ↓x_dct0, ↓x_v, ↓x_i, ↓x_b, ↓x_n, ↓x_st, ↓x_g, ↓x_tup, ↓x_lst, ↓x_bin, ↓x_neg, ↓x_nt, ↓x_cmp, ↓x_chain, ↓x_isN, ↓x_notN, ↓x_and, ↓x_or, ↓x_ite, ↓x_ix, ↓x_cut, ↓x_rev, ↓x_stp, ↓x_callB, ↓x_callkB, ↓x_bi, ↓x_comp, ↓x_pop, ↓x_popA, ↓x_jg, ↓x_jn, ↓x_jp, ↓x_scut, ↓x_slen, ↓srcK, ↓srcL, ↓t_yes, ↓t_and', ↓t_or', ↓t_nt', ↓t_ex, ↓e_nil, ↓e_cons, ↓a_nil', ↓a_cons', ↓rs_nil, ↓rs_cons, ↓frzS_v, ↓frzS_n, ↓asgs_nil, ↓asgs_cons, ↓rd_z, ↓rd_s, ↓set_z, ↓set_s, ↓at_mk, ↓isJar_j, ↓der_v, ↓der_n, ↓der_sl, ↓frz_v, ↓frz_n, ↓frz_sl, ↓asg_v, ↓asg_n, ↓asg_sl, ↓opW, ↓cmpW, ↓eqw_int, ↓eqw_str, ↓eqw_tup, ↓eqw_lst, ↓ordW, ↓truW, ↓noOw, ↓ixW, ↓biW, ↓tgW, ↓tgsW, ↓opwW, ↓itW, ↓wipe_nil, ↓wipe_cons, ↓unwipe, ↓isOw, true_and, Bool.and_true, Bool.not_true, Bool.not_false, Bool.false_eq_true, ↓reduceIte, ↓blk_ap]
  by_cases q : b = 0
  · rw [if_neg (by rw [decide_eq_true q]; decide)]
    try simp -implicitDefEqProofs only [↓s_cs, ↓nx_ap, ↓s_nil, ↓s_set, ↓s_par, ↓s_unp, ↓s_ret, ↓s_retN, ↓s_drop, ↓s_if, ↓s_whl, ↓s_for, ↓s_app, ↓s_ext, ↓s_put, ↓s_ja, ↓s_ji, ↓s_js, ↓s_jl, ↓s_rais, ↓s_pass, ↓s_brk, ↓s_cont, ↓s_tri, ↓hd_nil, ↓hd_cons, ↓un_s, ↓un_n, ↓hu_ret, ↓hu_ifr, ↓hx_b, ↓hx_s, ↓hx_i, ↓hx_n, ↓hx_fld, ↓hx_isA, ↓hx_nt, ↓hx_and, ↓hx_ite, ↓hx_lst, ↓hx_tup, ↓hxs_nil, ↓hxs_cons, ↓ra_none, ↓ra_some, ↓x_calldB, ↓x_lw, ↓x_dct0, ↓x_v, ↓x_i, ↓x_b, ↓x_n, ↓x_st, ↓x_g, ↓x_tup, ↓x_lst, ↓x_bin, ↓x_neg, ↓x_nt, ↓x_cmp, ↓x_chain, ↓x_isN, ↓x_notN, ↓x_and, ↓x_or, ↓x_ite, ↓x_ix, ↓x_cut, ↓x_rev, ↓x_stp, ↓x_callB, ↓x_callkB, ↓x_bi, ↓x_comp, ↓x_pop, ↓x_popA, ↓x_jg, ↓x_jn, ↓x_jp, ↓x_scut, ↓x_slen, ↓srcK, ↓srcL, ↓t_yes, ↓t_and', ↓t_or', ↓t_nt', ↓t_ex, ↓e_nil, ↓e_cons, ↓a_nil', ↓a_cons', ↓rs_nil, ↓rs_cons, ↓frzS_v, ↓frzS_n, ↓asgs_nil, ↓asgs_cons, ↓rd_z, ↓rd_s, ↓set_z, ↓set_s, ↓at_mk, ↓isJar_j, ↓der_v, ↓der_n, ↓der_sl, ↓frz_v, ↓frz_n, ↓frz_sl, ↓asg_v, ↓asg_n, ↓asg_sl, ↓opW, ↓cmpW, ↓eqw_int, ↓eqw_str, ↓eqw_tup, ↓eqw_lst, ↓ordW, ↓truW, ↓noOw, ↓ixW, ↓biW, ↓tgW, ↓tgsW, ↓opwW, ↓itW, ↓wipe_nil, ↓wipe_cons, ↓unwipe, ↓isOw, true_and, Bool.and_true, Bool.not_true, Bool.not_false, Bool.false_eq_true, ↓reduceIte, ↓blk_ap]
    subst q
    have : Int.gcd a 0 = a := by
      rw [Int.gcd_zero_right]
      omega
    rw [← hg, this] at h
    exact h
  · rw [if_pos (by rw [decide_eq_false q]; rfl)]
    unfold whB
    simp -implicitDefEqProofs only [↓s_cs, ↓nx_ap, ↓s_nil, ↓s_set, ↓s_par, ↓s_unp, ↓s_ret, ↓s_retN, ↓s_drop, ↓s_if, ↓s_whl, ↓s_for, ↓s_app, ↓s_ext, ↓s_put, ↓s_ja, ↓s_ji, ↓s_js, ↓s_jl, ↓s_rais, ↓s_pass, ↓s_brk, ↓s_cont, ↓s_tri, ↓hd_nil, ↓hd_cons, ↓un_s, ↓un_n, ↓hu_ret, ↓hu_ifr, ↓hx_b, ↓hx_s, ↓hx_i, ↓hx_n, ↓hx_fld, ↓hx_isA, ↓hx_nt, ↓hx_and, ↓hx_ite, ↓hx_lst, ↓hx_tup, ↓hxs_nil, ↓hxs_cons, ↓ra_none, ↓ra_some, ↓x_calldB, ↓x_lw, ↓x_dct0, ↓x_v, ↓x_i, ↓x_b, ↓x_n, ↓x_st, ↓x_g, ↓x_tup, ↓x_lst, ↓x_bin, ↓x_neg, ↓x_nt, ↓x_cmp, ↓x_chain, ↓x_isN, ↓x_notN, ↓x_and, ↓x_or, ↓x_ite, ↓x_ix, ↓x_cut, ↓x_rev, ↓x_stp, ↓x_callB, ↓x_callkB, ↓x_bi, ↓x_comp, ↓x_pop, ↓x_popA, ↓x_jg, ↓x_jn, ↓x_jp, ↓x_scut, ↓x_slen, ↓srcK, ↓srcL, ↓t_yes, ↓t_and', ↓t_or', ↓t_nt', ↓t_ex, ↓e_nil, ↓e_cons, ↓a_nil', ↓a_cons', ↓rs_nil, ↓rs_cons, ↓frzS_v, ↓frzS_n, ↓asgs_nil, ↓asgs_cons, ↓rd_z, ↓rd_s, ↓set_z, ↓set_s, ↓at_mk, ↓isJar_j, ↓der_v, ↓der_n, ↓der_sl, ↓frz_v, ↓frz_n, ↓frz_sl, ↓asg_v, ↓asg_n, ↓asg_sl, ↓opW, ↓cmpW, ↓eqw_int, ↓eqw_str, ↓eqw_tup, ↓eqw_lst, ↓ordW, ↓truW, ↓noOw, ↓ixW, ↓biW, ↓tgW, ↓tgsW, ↓opwW, ↓itW, ↓wipe_nil, ↓wipe_cons, ↓unwipe, ↓isOw, true_and, Bool.and_true, Bool.not_true, Bool.not_false, Bool.false_eq_true, ↓reduceIte, ↓blk_ap, ↓d5_1]
    refine ⟨q, ?_⟩
    have e1 : a.fmod b = a % b := Int.fmod_eq_emod_of_nonneg _ hb
    have p1 := Int.emod_nonneg a q
    have p2 := Int.emod_lt_of_pos a (show 0 < b by omega)
    rw [e1]
    exact ⟨(a % b).toNat, by omega, b, a % b, rfl, hb, p1, by rw [gcd_step ha hb, hg], rfl⟩
theorem p_steps {n : Nat} {g : Gh} {u : Int × Int} {K : D → Gh → Prop} {X : Exn → Gh → Prop} (h : K (.int (Int.gcd u.1 u.2)) g) : callW T (n + 1) 7 [pD u] g K X := by
  refine call_df (np := 1) (ns := 1) (b := d7.b) rfl rfl ?_
  have e0 : startE 1 [pD u] g = ⟨[.fz (.tuple [.int u.1, .int u.2])], g⟩ := rfl
  rw [e0]
  simp -implicitDefEqProofs only [↓s_cs, ↓nx_ap, ↓s_nil, ↓s_set, ↓s_par, ↓s_unp, ↓s_ret, ↓s_retN, ↓s_drop, ↓s_if, ↓s_whl, ↓s_for, ↓s_app, ↓s_ext, ↓s_put, ↓s_ja, ↓s_ji, ↓s_js, ↓s_jl, ↓s_rais, ↓s_pass, ↓s_brk, ↓s_cont, ↓s_tri, ↓hd_nil, ↓hd_cons, ↓un_s, ↓un_n, ↓hu_ret, ↓hu_ifr, ↓hx_b, ↓hx_s, ↓hx_i, ↓hx_n, ↓hx_fld, ↓hx_isA, ↓hx_nt, ↓hx_and, ↓hx_ite, ↓hx_lst, ↓hx_tup, ↓hxs_nil, ↓hxs_cons, ↓ra_none, ↓ra_some, ↓x_calldB, ↓x_lw, ↓x_dct0, ↓x_v, ↓x_i, ↓x_b, ↓x_n, ↓x_st, ↓x_g, ↓x_tup, ↓x_lst, ↓x_bin, ↓x_neg, ↓x_nt, ↓x_cmp, ↓x_chain, ↓x_isN, ↓x_notN, ↓x_and, ↓x_or, ↓x_ite, ↓x_ix, ↓x_cut, ↓x_rev, ↓x_stp, ↓x_callB, ↓x_callkB, ↓x_bi, ↓x_comp, ↓x_pop, ↓x_popA, ↓x_jg, ↓x_jn, ↓x_jp, ↓x_scut, ↓x_slen, ↓srcK, ↓srcL, ↓t_yes, ↓t_and', ↓t_or', ↓t_nt', ↓t_ex, ↓e_nil, ↓e_cons, ↓a_nil', ↓a_cons', ↓rs_nil, ↓rs_cons, ↓frzS_v, ↓frzS_n, ↓asgs_nil, ↓asgs_cons, ↓rd_z, ↓rd_s, ↓set_z, ↓set_s, ↓at_mk, ↓isJar_j, ↓der_v, ↓der_n, ↓der_sl, ↓frz_v, ↓frz_n, ↓frz_sl, ↓asg_v, ↓asg_n, ↓asg_sl, ↓opW, ↓cmpW, ↓eqw_int, ↓eqw_str, ↓eqw_tup, ↓eqw_lst, ↓ordW, ↓truW, ↓noOw, ↓ixW, ↓biW, ↓tgW, ↓tgsW, ↓opwW, ↓itW, ↓wipe_nil, ↓wipe_cons, ↓unwipe, ↓isOw, true_and, Bool.and_true, Bool.not_true, Bool.not_false, Bool.false_eq_true, ↓reduceIte, ↓blk_ap, ↓d7, q0, q1]
  exact h
def dt (u v : Int × Int) : Int := u.1 * v.2 - u.2 * v.1
theorem p_det {n : Nat} {g : Gh} {u v : Int × Int} {K : D → Gh → Prop} {X : Exn → Gh → Prop} (hu : Sp u) (h : K (.int (dt u v)) g) : callW T (n + 1) 6 [pD u, pD v] g K X := by
  refine call_df (np := 2) (ns := 2) (b := d6.b) rfl rfl ?_
  have e0 : startE 2 [pD u, pD v] g = ⟨[.fz (.tuple [.int u.1, .int u.2]), .fz (.tuple [.int v.1, .int v.2])], g⟩ := rfl
  rw [e0]
  obtain ⟨h1, h2⟩ := hu
  simp -implicitDefEqProofs only [↓s_cs, ↓nx_ap, ↓s_nil, ↓s_set, ↓s_par, ↓s_unp, ↓s_ret, ↓s_retN, ↓s_drop, ↓s_if, ↓s_whl, ↓s_for, ↓s_app, ↓s_ext, ↓s_put, ↓s_ja, ↓s_ji, ↓s_js, ↓s_jl, ↓s_rais, ↓s_pass, ↓s_brk, ↓s_cont, ↓s_tri, ↓hd_nil, ↓hd_cons, ↓un_s, ↓un_n, ↓hu_ret, ↓hu_ifr, ↓hx_b, ↓hx_s, ↓hx_i, ↓hx_n, ↓hx_fld, ↓hx_isA, ↓hx_nt, ↓hx_and, ↓hx_ite, ↓hx_lst, ↓hx_tup, ↓hxs_nil, ↓hxs_cons, ↓ra_none, ↓ra_some, ↓x_calldB, ↓x_lw, ↓x_dct0, ↓x_v, ↓x_i, ↓x_b, ↓x_n, ↓x_st, ↓x_g, ↓x_tup, ↓x_lst, ↓x_bin, ↓x_neg, ↓x_nt, ↓x_cmp, ↓x_chain, ↓x_isN, ↓x_notN, ↓x_and, ↓x_or, ↓x_ite, ↓x_ix, ↓x_cut, ↓x_rev, ↓x_stp, ↓x_callB, ↓x_callkB, ↓x_bi, ↓x_comp, ↓x_pop, ↓x_popA, ↓x_jg, ↓x_jn, ↓x_jp, ↓x_scut, ↓x_slen, ↓srcK, ↓srcL, ↓t_yes, ↓t_and', ↓t_or', ↓t_nt', ↓t_ex, ↓e_nil, ↓e_cons, ↓a_nil', ↓a_cons', ↓rs_nil, ↓rs_cons, ↓frzS_v, ↓frzS_n, ↓asgs_nil, ↓asgs_cons, ↓rd_z, ↓rd_s, ↓set_z, ↓set_s, ↓at_mk, ↓isJar_j, ↓der_v, ↓der_n, ↓der_sl, ↓frz_v, ↓frz_n, ↓frz_sl, ↓asg_v, ↓asg_n, ↓asg_sl, ↓opW, ↓cmpW, ↓eqw_int, ↓eqw_str, ↓eqw_tup, ↓eqw_lst, ↓ordW, ↓truW, ↓noOw, ↓ixW, ↓biW, ↓tgW, ↓tgsW, ↓opwW, ↓itW, ↓wipe_nil, ↓wipe_cons, ↓unwipe, ↓isOw, true_and, Bool.and_true, Bool.not_true, Bool.not_false, Bool.false_eq_true, ↓reduceIte, ↓blk_ap, ↓d6, q0, q1]
  exact ⟨mulS (by omega), mulS (by omega), h⟩
theorem p_ldet {n : Nat} {g : Gh} {u v : Int × Int} {K : D → Gh → Prop} {X : Exn → Gh → Prop} (hu : Sp u) (h : K (.int (dt u v)) g) : callW T (n + 1) 10 [pD u, pD v] g K X := by
  refine call_df (np := 2) (ns := 2) (b := d10.b) rfl rfl ?_
  have e0 : startE 2 [pD u, pD v] g = ⟨[.fz (.tuple [.int u.1, .int u.2]), .fz (.tuple [.int v.1, .int v.2])], g⟩ := rfl
  rw [e0]
  obtain ⟨h1, h2⟩ := hu
  simp -implicitDefEqProofs only [↓s_cs, ↓nx_ap, ↓s_nil, ↓s_set, ↓s_par, ↓s_unp, ↓s_ret, ↓s_retN, ↓s_drop, ↓s_if, ↓s_whl, ↓s_for, ↓s_app, ↓s_ext, ↓s_put, ↓s_ja, ↓s_ji, ↓s_js, ↓s_jl, ↓s_rais, ↓s_pass, ↓s_brk, ↓s_cont, ↓s_tri, ↓hd_nil, ↓hd_cons, ↓un_s, ↓un_n, ↓hu_ret, ↓hu_ifr, ↓hx_b, ↓hx_s, ↓hx_i, ↓hx_n, ↓hx_fld, ↓hx_isA, ↓hx_nt, ↓hx_and, ↓hx_ite, ↓hx_lst, ↓hx_tup, ↓hxs_nil, ↓hxs_cons, ↓ra_none, ↓ra_some, ↓x_calldB, ↓x_lw, ↓x_dct0, ↓x_v, ↓x_i, ↓x_b, ↓x_n, ↓x_st, ↓x_g, ↓x_tup, ↓x_lst, ↓x_bin, ↓x_neg, ↓x_nt, ↓x_cmp, ↓x_chain, ↓x_isN, ↓x_notN, ↓x_and, ↓x_or, ↓x_ite, ↓x_ix, ↓x_cut, ↓x_rev, ↓x_stp, ↓x_callB, ↓x_callkB, ↓x_bi, ↓x_comp, ↓x_pop, ↓x_popA, ↓x_jg, ↓x_jn, ↓x_jp, ↓x_scut, ↓x_slen, ↓srcK, ↓srcL, ↓t_yes, ↓t_and', ↓t_or', ↓t_nt', ↓t_ex, ↓e_nil, ↓e_cons, ↓a_nil', ↓a_cons', ↓rs_nil, ↓rs_cons, ↓frzS_v, ↓frzS_n, ↓asgs_nil, ↓asgs_cons, ↓rd_z, ↓rd_s, ↓set_z, ↓set_s, ↓at_mk, ↓isJar_j, ↓der_v, ↓der_n, ↓der_sl, ↓frz_v, ↓frz_n, ↓frz_sl, ↓asg_v, ↓asg_n, ↓asg_sl, ↓opW, ↓cmpW, ↓eqw_int, ↓eqw_str, ↓eqw_tup, ↓eqw_lst, ↓ordW, ↓truW, ↓noOw, ↓ixW, ↓biW, ↓tgW, ↓tgsW, ↓opwW, ↓itW, ↓wipe_nil, ↓wipe_cons, ↓unwipe, ↓isOw, true_and, Bool.and_true, Bool.not_true, Bool.not_false, Bool.false_eq_true, ↓reduceIte, ↓blk_ap, ↓d10, q0, q1]
  exact ⟨mulS (by omega), mulS (by omega), h⟩
def primF (u : Int × Int) : D := .tuple [.int (u.1.fdiv (Int.gcd u.1 u.2)), .int (u.2.fdiv (Int.gcd u.1 u.2))]
def toldF (u : Int × Int) : D := if 0 < Int.gcd u.1 u.2 then .list [.str "told", primF u] else .list [.str "unfit", .bool true]
theorem gcd_le {u : Int × Int} (hu : Sp u) : Int.gcd u.1 u.2 ≤ 10 ^ 8 := by
  obtain ⟨h1, h2⟩ := hu
  by_cases q : u.1 = 0
  · rw [q, Int.gcd_zero_left]; omega
  · have := Int.gcd_le_natAbs_left (b := u.2) q
    omega
theorem p_told {n : Nat} {g : Gh} {u : Int × Int} {b : Bool} {K : D → Gh → Prop} {X : Exn → Gh → Prop} (hu : Sp u) (h : K (toldF u) g) : callW T (n + 3) 9 [pD u, .bool b] g K X := by
  refine call_df (np := 2) (ns := 3) (b := d9.b) rfl rfl ?_
  have e0 : startE 3 [pD u, .bool b] g = ⟨[.fz (pD u), .fz (.bool b), .un], g⟩ := rfl
  rw [e0]
  have s00 : sub 0 0 = true := rfl
  have a0 : ([1].any fun c => sub 0 c) = true := rfl
  have lst : ∀ v : D, List.map (fun p => ([] ++ [v]).getD p PyData.none) [0] = [v] := fun _ => rfl
  have gl := gcd_le hu
  have prim : ∀ (K : D → Gh → Prop) (X : Exn → Gh → Prop), (0 < Int.gcd u.1 u.2 → K (primF u) g) → (¬ 0 < Int.gcd u.1 u.2 → X ⟨0, none⟩ g) → callW T (n + 2) 8 [pD u] g K X := by
    intro K X h1 h2
    refine call_df (np := 1) (ns := 2) (b := d8.b) rfl rfl ?_
    have e0 : startE 2 [pD u] g = ⟨[.fz (pD u), .un], g⟩ := rfl
    rw [e0]
    simp -implicitDefEqProofs only [↓s_cs, ↓nx_ap, ↓s_nil, ↓s_set, ↓s_par, ↓s_unp, ↓s_ret, ↓s_retN, ↓s_drop, ↓s_if, ↓s_whl, ↓s_for, ↓s_app, ↓s_ext, ↓s_put, ↓s_ja, ↓s_ji, ↓s_js, ↓s_jl, ↓s_rais, ↓s_pass, ↓s_brk, ↓s_cont, ↓s_tri, ↓hd_nil, ↓hd_cons, ↓un_s, ↓un_n, ↓hu_ret, ↓hu_ifr, ↓hx_b, ↓hx_s, ↓hx_i, ↓hx_n, ↓hx_fld, ↓hx_isA, ↓hx_nt, ↓hx_and, ↓hx_ite, ↓hx_lst, ↓hx_tup, ↓hxs_nil, ↓hxs_cons, ↓ra_none, ↓ra_some, ↓x_calldB, ↓x_lw, ↓x_dct0, ↓x_v, ↓x_i, ↓x_b, ↓x_n, ↓x_st, ↓x_g, ↓x_tup, ↓x_lst, ↓x_bin, ↓x_neg, ↓x_nt, ↓x_cmp, ↓x_chain, ↓x_isN, ↓x_notN, ↓x_and, ↓x_or, ↓x_ite, ↓x_ix, ↓x_cut, ↓x_rev, ↓x_stp, ↓x_callB, ↓x_callkB, ↓x_bi, ↓x_comp, ↓x_pop, ↓x_popA, ↓x_jg, ↓x_jn, ↓x_jp, ↓x_scut, ↓x_slen, ↓srcK, ↓srcL, ↓t_yes, ↓t_and', ↓t_or', ↓t_nt', ↓t_ex, ↓e_nil, ↓e_cons, ↓a_nil', ↓a_cons', ↓rs_nil, ↓rs_cons, ↓frzS_v, ↓frzS_n, ↓asgs_nil, ↓asgs_cons, ↓rd_z, ↓rd_s, ↓set_z, ↓set_s, ↓at_mk, ↓isJar_j, ↓der_v, ↓der_n, ↓der_sl, ↓frz_v, ↓frz_n, ↓frz_sl, ↓asg_v, ↓asg_n, ↓asg_sl, ↓opW, ↓cmpW, ↓eqw_int, ↓eqw_str, ↓eqw_tup, ↓eqw_lst, ↓ordW, ↓truW, ↓noOw, ↓ixW, ↓biW, ↓tgW, ↓tgsW, ↓opwW, ↓itW, ↓wipe_nil, ↓wipe_cons, ↓unwipe, ↓isOw, true_and, Bool.and_true, Bool.not_true, Bool.not_false, Bool.false_eq_true, ↓reduceIte, ↓blk_ap, ↓d8]
    refine p_steps (n := n) ?_
    try simp -implicitDefEqProofs only [↓s_cs, ↓nx_ap, ↓s_nil, ↓s_set, ↓s_par, ↓s_unp, ↓s_ret, ↓s_retN, ↓s_drop, ↓s_if, ↓s_whl, ↓s_for, ↓s_app, ↓s_ext, ↓s_put, ↓s_ja, ↓s_ji, ↓s_js, ↓s_jl, ↓s_rais, ↓s_pass, ↓s_brk, ↓s_cont, ↓s_tri, ↓hd_nil, ↓hd_cons, ↓un_s, ↓un_n, ↓hu_ret, ↓hu_ifr, ↓hx_b, ↓hx_s, ↓hx_i, ↓hx_n, ↓hx_fld, ↓hx_isA, ↓hx_nt, ↓hx_and, ↓hx_ite, ↓hx_lst, ↓hx_tup, ↓hxs_nil, ↓hxs_cons, ↓ra_none, ↓ra_some, ↓x_calldB, ↓x_lw, ↓x_dct0, ↓x_v, ↓x_i, ↓x_b, ↓x_n, ↓x_st, ↓x_g, ↓x_tup, ↓x_lst, ↓x_bin, ↓x_neg, ↓x_nt, ↓x_cmp, ↓x_chain, ↓x_isN, ↓x_notN, ↓x_and, ↓x_or, ↓x_ite, ↓x_ix, ↓x_cut, ↓x_rev, ↓x_stp, ↓x_callB, ↓x_callkB, ↓x_bi, ↓x_comp, ↓x_pop, ↓x_popA, ↓x_jg, ↓x_jn, ↓x_jp, ↓x_scut, ↓x_slen, ↓srcK, ↓srcL, ↓t_yes, ↓t_and', ↓t_or', ↓t_nt', ↓t_ex, ↓e_nil, ↓e_cons, ↓a_nil', ↓a_cons', ↓rs_nil, ↓rs_cons, ↓frzS_v, ↓frzS_n, ↓asgs_nil, ↓asgs_cons, ↓rd_z, ↓rd_s, ↓set_z, ↓set_s, ↓at_mk, ↓isJar_j, ↓der_v, ↓der_n, ↓der_sl, ↓frz_v, ↓frz_n, ↓frz_sl, ↓asg_v, ↓asg_n, ↓asg_sl, ↓opW, ↓cmpW, ↓eqw_int, ↓eqw_str, ↓eqw_tup, ↓eqw_lst, ↓ordW, ↓truW, ↓noOw, ↓ixW, ↓biW, ↓tgW, ↓tgsW, ↓opwW, ↓itW, ↓wipe_nil, ↓wipe_cons, ↓unwipe, ↓isOw, true_and, Bool.and_true, Bool.not_true, Bool.not_false, Bool.false_eq_true, ↓reduceIte, ↓blk_ap]
    by_cases q : Int.gcd u.1 u.2 = 0
    · rw [if_pos (decide_eq_true (show ((Int.gcd u.1 u.2 : Nat) : Int) = 0 by omega))]
      exact h2 (by omega)
    · rw [if_neg (by rw [decide_eq_true_eq]; omega)]
      try simp -implicitDefEqProofs only [↓s_cs, ↓nx_ap, ↓s_nil, ↓s_set, ↓s_par, ↓s_unp, ↓s_ret, ↓s_retN, ↓s_drop, ↓s_if, ↓s_whl, ↓s_for, ↓s_app, ↓s_ext, ↓s_put, ↓s_ja, ↓s_ji, ↓s_js, ↓s_jl, ↓s_rais, ↓s_pass, ↓s_brk, ↓s_cont, ↓s_tri, ↓hd_nil, ↓hd_cons, ↓un_s, ↓un_n, ↓hu_ret, ↓hu_ifr, ↓hx_b, ↓hx_s, ↓hx_i, ↓hx_n, ↓hx_fld, ↓hx_isA, ↓hx_nt, ↓hx_and, ↓hx_ite, ↓hx_lst, ↓hx_tup, ↓hxs_nil, ↓hxs_cons, ↓ra_none, ↓ra_some, ↓x_calldB, ↓x_lw, ↓x_dct0, ↓x_v, ↓x_i, ↓x_b, ↓x_n, ↓x_st, ↓x_g, ↓x_tup, ↓x_lst, ↓x_bin, ↓x_neg, ↓x_nt, ↓x_cmp, ↓x_chain, ↓x_isN, ↓x_notN, ↓x_and, ↓x_or, ↓x_ite, ↓x_ix, ↓x_cut, ↓x_rev, ↓x_stp, ↓x_callB, ↓x_callkB, ↓x_bi, ↓x_comp, ↓x_pop, ↓x_popA, ↓x_jg, ↓x_jn, ↓x_jp, ↓x_scut, ↓x_slen, ↓srcK, ↓srcL, ↓t_yes, ↓t_and', ↓t_or', ↓t_nt', ↓t_ex, ↓e_nil, ↓e_cons, ↓a_nil', ↓a_cons', ↓rs_nil, ↓rs_cons, ↓frzS_v, ↓frzS_n, ↓asgs_nil, ↓asgs_cons, ↓rd_z, ↓rd_s, ↓set_z, ↓set_s, ↓at_mk, ↓isJar_j, ↓der_v, ↓der_n, ↓der_sl, ↓frz_v, ↓frz_n, ↓frz_sl, ↓asg_v, ↓asg_n, ↓asg_sl, ↓opW, ↓cmpW, ↓eqw_int, ↓eqw_str, ↓eqw_tup, ↓eqw_lst, ↓ordW, ↓truW, ↓noOw, ↓ixW, ↓biW, ↓tgW, ↓tgsW, ↓opwW, ↓itW, ↓wipe_nil, ↓wipe_cons, ↓unwipe, ↓isOw, true_and, Bool.and_true, Bool.not_true, Bool.not_false, Bool.false_eq_true, ↓reduceIte, ↓blk_ap, pD, q0, q1]
      have dv : DivOk ((Int.gcd u.1 u.2 : Nat) : Int) := .inr ⟨by omega, by omega⟩
      exact ⟨dv, dv, h1 (by omega)⟩
  unfold toldF at h
  cases b with
  | true =>
    simp -implicitDefEqProofs only [↓s_cs, ↓nx_ap, ↓s_nil, ↓s_set, ↓s_par, ↓s_unp, ↓s_ret, ↓s_retN, ↓s_drop, ↓s_if, ↓s_whl, ↓s_for, ↓s_app, ↓s_ext, ↓s_put, ↓s_ja, ↓s_ji, ↓s_js, ↓s_jl, ↓s_rais, ↓s_pass, ↓s_brk, ↓s_cont, ↓s_tri, ↓hd_nil, ↓hd_cons, ↓un_s, ↓un_n, ↓hu_ret, ↓hu_ifr, ↓hx_b, ↓hx_s, ↓hx_i, ↓hx_n, ↓hx_fld, ↓hx_isA, ↓hx_nt, ↓hx_and, ↓hx_ite, ↓hx_lst, ↓hx_tup, ↓hxs_nil, ↓hxs_cons, ↓ra_none, ↓ra_some, ↓x_calldB, ↓x_lw, ↓x_dct0, ↓x_v, ↓x_i, ↓x_b, ↓x_n, ↓x_st, ↓x_g, ↓x_tup, ↓x_lst, ↓x_bin, ↓x_neg, ↓x_nt, ↓x_cmp, ↓x_chain, ↓x_isN, ↓x_notN, ↓x_and, ↓x_or, ↓x_ite, ↓x_ix, ↓x_cut, ↓x_rev, ↓x_stp, ↓x_callB, ↓x_callkB, ↓x_bi, ↓x_comp, ↓x_pop, ↓x_popA, ↓x_jg, ↓x_jn, ↓x_jp, ↓x_scut, ↓x_slen, ↓srcK, ↓srcL, ↓t_yes, ↓t_and', ↓t_or', ↓t_nt', ↓t_ex, ↓e_nil, ↓e_cons, ↓a_nil', ↓a_cons', ↓rs_nil, ↓rs_cons, ↓frzS_v, ↓frzS_n, ↓asgs_nil, ↓asgs_cons, ↓rd_z, ↓rd_s, ↓set_z, ↓set_s, ↓at_mk, ↓isJar_j, ↓der_v, ↓der_n, ↓der_sl, ↓frz_v, ↓frz_n, ↓frz_sl, ↓asg_v, ↓asg_n, ↓asg_sl, ↓opW, ↓cmpW, ↓eqw_int, ↓eqw_str, ↓eqw_tup, ↓eqw_lst, ↓ordW, ↓truW, ↓noOw, ↓ixW, ↓biW, ↓tgW, ↓tgsW, ↓opwW, ↓itW, ↓wipe_nil, ↓wipe_cons, ↓unwipe, ↓isOw, true_and, Bool.and_true, Bool.not_true, Bool.not_false, Bool.false_eq_true, ↓reduceIte, ↓blk_ap, ↓d9, ↓d9_1, lst]
    refine prim _ _ (fun q => ?_) fun q => ?_
    · rw [if_pos q] at h
      try simp -implicitDefEqProofs only [↓s_cs, ↓nx_ap, ↓s_nil, ↓s_set, ↓s_par, ↓s_unp, ↓s_ret, ↓s_retN, ↓s_drop, ↓s_if, ↓s_whl, ↓s_for, ↓s_app, ↓s_ext, ↓s_put, ↓s_ja, ↓s_ji, ↓s_js, ↓s_jl, ↓s_rais, ↓s_pass, ↓s_brk, ↓s_cont, ↓s_tri, ↓hd_nil, ↓hd_cons, ↓un_s, ↓un_n, ↓hu_ret, ↓hu_ifr, ↓hx_b, ↓hx_s, ↓hx_i, ↓hx_n, ↓hx_fld, ↓hx_isA, ↓hx_nt, ↓hx_and, ↓hx_ite, ↓hx_lst, ↓hx_tup, ↓hxs_nil, ↓hxs_cons, ↓ra_none, ↓ra_some, ↓x_calldB, ↓x_lw, ↓x_dct0, ↓x_v, ↓x_i, ↓x_b, ↓x_n, ↓x_st, ↓x_g, ↓x_tup, ↓x_lst, ↓x_bin, ↓x_neg, ↓x_nt, ↓x_cmp, ↓x_chain, ↓x_isN, ↓x_notN, ↓x_and, ↓x_or, ↓x_ite, ↓x_ix, ↓x_cut, ↓x_rev, ↓x_stp, ↓x_callB, ↓x_callkB, ↓x_bi, ↓x_comp, ↓x_pop, ↓x_popA, ↓x_jg, ↓x_jn, ↓x_jp, ↓x_scut, ↓x_slen, ↓srcK, ↓srcL, ↓t_yes, ↓t_and', ↓t_or', ↓t_nt', ↓t_ex, ↓e_nil, ↓e_cons, ↓a_nil', ↓a_cons', ↓rs_nil, ↓rs_cons, ↓frzS_v, ↓frzS_n, ↓asgs_nil, ↓asgs_cons, ↓rd_z, ↓rd_s, ↓set_z, ↓set_s, ↓at_mk, ↓isJar_j, ↓der_v, ↓der_n, ↓der_sl, ↓frz_v, ↓frz_n, ↓frz_sl, ↓asg_v, ↓asg_n, ↓asg_sl, ↓opW, ↓cmpW, ↓eqw_int, ↓eqw_str, ↓eqw_tup, ↓eqw_lst, ↓ordW, ↓truW, ↓noOw, ↓ixW, ↓biW, ↓tgW, ↓tgsW, ↓opwW, ↓itW, ↓wipe_nil, ↓wipe_cons, ↓unwipe, ↓isOw, true_and, Bool.and_true, Bool.not_true, Bool.not_false, Bool.false_eq_true, ↓reduceIte, ↓blk_ap]
      exact h
    · rw [if_neg q] at h
      try simp -implicitDefEqProofs only [↓s_cs, ↓nx_ap, ↓s_nil, ↓s_set, ↓s_par, ↓s_unp, ↓s_ret, ↓s_retN, ↓s_drop, ↓s_if, ↓s_whl, ↓s_for, ↓s_app, ↓s_ext, ↓s_put, ↓s_ja, ↓s_ji, ↓s_js, ↓s_jl, ↓s_rais, ↓s_pass, ↓s_brk, ↓s_cont, ↓s_tri, ↓hd_nil, ↓hd_cons, ↓un_s, ↓un_n, ↓hu_ret, ↓hu_ifr, ↓hx_b, ↓hx_s, ↓hx_i, ↓hx_n, ↓hx_fld, ↓hx_isA, ↓hx_nt, ↓hx_and, ↓hx_ite, ↓hx_lst, ↓hx_tup, ↓hxs_nil, ↓hxs_cons, ↓ra_none, ↓ra_some, ↓x_calldB, ↓x_lw, ↓x_dct0, ↓x_v, ↓x_i, ↓x_b, ↓x_n, ↓x_st, ↓x_g, ↓x_tup, ↓x_lst, ↓x_bin, ↓x_neg, ↓x_nt, ↓x_cmp, ↓x_chain, ↓x_isN, ↓x_notN, ↓x_and, ↓x_or, ↓x_ite, ↓x_ix, ↓x_cut, ↓x_rev, ↓x_stp, ↓x_callB, ↓x_callkB, ↓x_bi, ↓x_comp, ↓x_pop, ↓x_popA, ↓x_jg, ↓x_jn, ↓x_jp, ↓x_scut, ↓x_slen, ↓srcK, ↓srcL, ↓t_yes, ↓t_and', ↓t_or', ↓t_nt', ↓t_ex, ↓e_nil, ↓e_cons, ↓a_nil', ↓a_cons', ↓rs_nil, ↓rs_cons, ↓frzS_v, ↓frzS_n, ↓asgs_nil, ↓asgs_cons, ↓rd_z, ↓rd_s, ↓set_z, ↓set_s, ↓at_mk, ↓isJar_j, ↓der_v, ↓der_n, ↓der_sl, ↓frz_v, ↓frz_n, ↓frz_sl, ↓asg_v, ↓asg_n, ↓asg_sl, ↓opW, ↓cmpW, ↓eqw_int, ↓eqw_str, ↓eqw_tup, ↓eqw_lst, ↓ordW, ↓truW, ↓noOw, ↓ixW, ↓biW, ↓tgW, ↓tgsW, ↓opwW, ↓itW, ↓wipe_nil, ↓wipe_cons, ↓unwipe, ↓isOw, true_and, Bool.and_true, Bool.not_true, Bool.not_false, Bool.false_eq_true, ↓reduceIte, ↓blk_ap, s00, a0]
      exact h
  | false =>
    simp -implicitDefEqProofs only [↓s_cs, ↓nx_ap, ↓s_nil, ↓s_set, ↓s_par, ↓s_unp, ↓s_ret, ↓s_retN, ↓s_drop, ↓s_if, ↓s_whl, ↓s_for, ↓s_app, ↓s_ext, ↓s_put, ↓s_ja, ↓s_ji, ↓s_js, ↓s_jl, ↓s_rais, ↓s_pass, ↓s_brk, ↓s_cont, ↓s_tri, ↓hd_nil, ↓hd_cons, ↓un_s, ↓un_n, ↓hu_ret, ↓hu_ifr, ↓hx_b, ↓hx_s, ↓hx_i, ↓hx_n, ↓hx_fld, ↓hx_isA, ↓hx_nt, ↓hx_and, ↓hx_ite, ↓hx_lst, ↓hx_tup, ↓hxs_nil, ↓hxs_cons, ↓ra_none, ↓ra_some, ↓x_calldB, ↓x_lw, ↓x_dct0, ↓x_v, ↓x_i, ↓x_b, ↓x_n, ↓x_st, ↓x_g, ↓x_tup, ↓x_lst, ↓x_bin, ↓x_neg, ↓x_nt, ↓x_cmp, ↓x_chain, ↓x_isN, ↓x_notN, ↓x_and, ↓x_or, ↓x_ite, ↓x_ix, ↓x_cut, ↓x_rev, ↓x_stp, ↓x_callB, ↓x_callkB, ↓x_bi, ↓x_comp, ↓x_pop, ↓x_popA, ↓x_jg, ↓x_jn, ↓x_jp, ↓x_scut, ↓x_slen, ↓srcK, ↓srcL, ↓t_yes, ↓t_and', ↓t_or', ↓t_nt', ↓t_ex, ↓e_nil, ↓e_cons, ↓a_nil', ↓a_cons', ↓rs_nil, ↓rs_cons, ↓frzS_v, ↓frzS_n, ↓asgs_nil, ↓asgs_cons, ↓rd_z, ↓rd_s, ↓set_z, ↓set_s, ↓at_mk, ↓isJar_j, ↓der_v, ↓der_n, ↓der_sl, ↓frz_v, ↓frz_n, ↓frz_sl, ↓asg_v, ↓asg_n, ↓asg_sl, ↓opW, ↓cmpW, ↓eqw_int, ↓eqw_str, ↓eqw_tup, ↓eqw_lst, ↓ordW, ↓truW, ↓noOw, ↓ixW, ↓biW, ↓tgW, ↓tgsW, ↓opwW, ↓itW, ↓wipe_nil, ↓wipe_cons, ↓unwipe, ↓isOw, true_and, Bool.and_true, Bool.not_true, Bool.not_false, Bool.false_eq_true, ↓reduceIte, ↓blk_ap, ↓d9, ↓d9_1, lst]
    refine prim _ _ (fun q => ?_) fun q => ?_
    · rw [if_pos q] at h
      try simp -implicitDefEqProofs only [↓s_cs, ↓nx_ap, ↓s_nil, ↓s_set, ↓s_par, ↓s_unp, ↓s_ret, ↓s_retN, ↓s_drop, ↓s_if, ↓s_whl, ↓s_for, ↓s_app, ↓s_ext, ↓s_put, ↓s_ja, ↓s_ji, ↓s_js, ↓s_jl, ↓s_rais, ↓s_pass, ↓s_brk, ↓s_cont, ↓s_tri, ↓hd_nil, ↓hd_cons, ↓un_s, ↓un_n, ↓hu_ret, ↓hu_ifr, ↓hx_b, ↓hx_s, ↓hx_i, ↓hx_n, ↓hx_fld, ↓hx_isA, ↓hx_nt, ↓hx_and, ↓hx_ite, ↓hx_lst, ↓hx_tup, ↓hxs_nil, ↓hxs_cons, ↓ra_none, ↓ra_some, ↓x_calldB, ↓x_lw, ↓x_dct0, ↓x_v, ↓x_i, ↓x_b, ↓x_n, ↓x_st, ↓x_g, ↓x_tup, ↓x_lst, ↓x_bin, ↓x_neg, ↓x_nt, ↓x_cmp, ↓x_chain, ↓x_isN, ↓x_notN, ↓x_and, ↓x_or, ↓x_ite, ↓x_ix, ↓x_cut, ↓x_rev, ↓x_stp, ↓x_callB, ↓x_callkB, ↓x_bi, ↓x_comp, ↓x_pop, ↓x_popA, ↓x_jg, ↓x_jn, ↓x_jp, ↓x_scut, ↓x_slen, ↓srcK, ↓srcL, ↓t_yes, ↓t_and', ↓t_or', ↓t_nt', ↓t_ex, ↓e_nil, ↓e_cons, ↓a_nil', ↓a_cons', ↓rs_nil, ↓rs_cons, ↓frzS_v, ↓frzS_n, ↓asgs_nil, ↓asgs_cons, ↓rd_z, ↓rd_s, ↓set_z, ↓set_s, ↓at_mk, ↓isJar_j, ↓der_v, ↓der_n, ↓der_sl, ↓frz_v, ↓frz_n, ↓frz_sl, ↓asg_v, ↓asg_n, ↓asg_sl, ↓opW, ↓cmpW, ↓eqw_int, ↓eqw_str, ↓eqw_tup, ↓eqw_lst, ↓ordW, ↓truW, ↓noOw, ↓ixW, ↓biW, ↓tgW, ↓tgsW, ↓opwW, ↓itW, ↓wipe_nil, ↓wipe_cons, ↓unwipe, ↓isOw, true_and, Bool.and_true, Bool.not_true, Bool.not_false, Bool.false_eq_true, ↓reduceIte, ↓blk_ap]
      exact h
    · rw [if_neg q] at h
      try simp -implicitDefEqProofs only [↓s_cs, ↓nx_ap, ↓s_nil, ↓s_set, ↓s_par, ↓s_unp, ↓s_ret, ↓s_retN, ↓s_drop, ↓s_if, ↓s_whl, ↓s_for, ↓s_app, ↓s_ext, ↓s_put, ↓s_ja, ↓s_ji, ↓s_js, ↓s_jl, ↓s_rais, ↓s_pass, ↓s_brk, ↓s_cont, ↓s_tri, ↓hd_nil, ↓hd_cons, ↓un_s, ↓un_n, ↓hu_ret, ↓hu_ifr, ↓hx_b, ↓hx_s, ↓hx_i, ↓hx_n, ↓hx_fld, ↓hx_isA, ↓hx_nt, ↓hx_and, ↓hx_ite, ↓hx_lst, ↓hx_tup, ↓hxs_nil, ↓hxs_cons, ↓ra_none, ↓ra_some, ↓x_calldB, ↓x_lw, ↓x_dct0, ↓x_v, ↓x_i, ↓x_b, ↓x_n, ↓x_st, ↓x_g, ↓x_tup, ↓x_lst, ↓x_bin, ↓x_neg, ↓x_nt, ↓x_cmp, ↓x_chain, ↓x_isN, ↓x_notN, ↓x_and, ↓x_or, ↓x_ite, ↓x_ix, ↓x_cut, ↓x_rev, ↓x_stp, ↓x_callB, ↓x_callkB, ↓x_bi, ↓x_comp, ↓x_pop, ↓x_popA, ↓x_jg, ↓x_jn, ↓x_jp, ↓x_scut, ↓x_slen, ↓srcK, ↓srcL, ↓t_yes, ↓t_and', ↓t_or', ↓t_nt', ↓t_ex, ↓e_nil, ↓e_cons, ↓a_nil', ↓a_cons', ↓rs_nil, ↓rs_cons, ↓frzS_v, ↓frzS_n, ↓asgs_nil, ↓asgs_cons, ↓rd_z, ↓rd_s, ↓set_z, ↓set_s, ↓at_mk, ↓isJar_j, ↓der_v, ↓der_n, ↓der_sl, ↓frz_v, ↓frz_n, ↓frz_sl, ↓asg_v, ↓asg_n, ↓asg_sl, ↓opW, ↓cmpW, ↓eqw_int, ↓eqw_str, ↓eqw_tup, ↓eqw_lst, ↓ordW, ↓truW, ↓noOw, ↓ixW, ↓biW, ↓tgW, ↓tgsW, ↓opwW, ↓itW, ↓wipe_nil, ↓wipe_cons, ↓unwipe, ↓isOw, true_and, Bool.and_true, Bool.not_true, Bool.not_false, Bool.false_eq_true, ↓reduceIte, ↓blk_ap, s00, a0]
      exact h
end G01

-- BLK
set_option linter.all false
set_option maxRecDepth 100000
set_option exponentiation.threshold 200000
namespace G01
open PySem PySem.Spec PyProof.Rows L2 G
theorem p_vector {n : Nat} {g : Gh} {K : D → Gh → Prop} {X : Exn → Gh → Prop} (hg : GOK g) (h : ∀ u g', Sp u → GOK g' → K (pD u) g') : callW T (n + 3) 4 [JAR] g K X := by
  refine call_df (np := 1) (ns := 4) (b := d4.b) rfl rfl ?_
  have e0 : startE 4 [JAR] g = ⟨[.fz JAR, .un, .un, .un], g⟩ := rfl
  rw [e0]
  simp -implicitDefEqProofs only [↓s_cs, ↓nx_ap, ↓s_nil, ↓s_set, ↓s_par, ↓s_unp, ↓s_ret, ↓s_retN, ↓s_drop, ↓s_if, ↓s_whl, ↓s_for, ↓s_app, ↓s_ext, ↓s_put, ↓s_ja, ↓s_ji, ↓s_js, ↓s_jl, ↓s_rais, ↓s_pass, ↓s_brk, ↓s_cont, ↓s_tri, ↓hd_nil, ↓hd_cons, ↓un_s, ↓un_n, ↓hu_ret, ↓hu_ifr, ↓hx_b, ↓hx_s, ↓hx_i, ↓hx_n, ↓hx_fld, ↓hx_isA, ↓hx_nt, ↓hx_and, ↓hx_ite, ↓hx_lst, ↓hx_tup, ↓hxs_nil, ↓hxs_cons, ↓ra_none, ↓ra_some, ↓x_calldB, ↓x_lw, ↓x_dct0, ↓x_v, ↓x_i, ↓x_b, ↓x_n, ↓x_st, ↓x_g, ↓x_tup, ↓x_lst, ↓x_bin, ↓x_neg, ↓x_nt, ↓x_cmp, ↓x_chain, ↓x_isN, ↓x_notN, ↓x_and, ↓x_or, ↓x_ite, ↓x_ix, ↓x_cut, ↓x_rev, ↓x_stp, ↓x_callB, ↓x_callkB, ↓x_bi, ↓x_comp, ↓x_pop, ↓x_popA, ↓x_jg, ↓x_jn, ↓x_jp, ↓x_scut, ↓x_slen, ↓srcK, ↓srcL, ↓t_yes, ↓t_and', ↓t_or', ↓t_nt', ↓t_ex, ↓e_nil, ↓e_cons, ↓a_nil', ↓a_cons', ↓rs_nil, ↓rs_cons, ↓frzS_v, ↓frzS_n, ↓asgs_nil, ↓asgs_cons, ↓rd_z, ↓rd_s, ↓set_z, ↓set_s, ↓at_mk, ↓isJar_j, ↓der_v, ↓der_n, ↓der_sl, ↓frz_v, ↓frz_n, ↓frz_sl, ↓asg_v, ↓asg_n, ↓asg_sl, ↓opW, ↓cmpW, ↓eqw_int, ↓eqw_str, ↓eqw_tup, ↓eqw_lst, ↓ordW, ↓truW, ↓noOw, ↓ixW, ↓biW, ↓tgW, ↓tgsW, ↓opwW, ↓itW, ↓wipe_nil, ↓wipe_cons, ↓unwipe, ↓isOw, true_and, Bool.and_true, Bool.not_true, Bool.not_false, Bool.false_eq_true, ↓reduceIte, ↓blk_ap, ↓d4]
  refine p_draw (n := n + 1) hg (by decide) (by decide) fun w g1 w0 w1 hg1 => ?_
  try simp -implicitDefEqProofs only [↓s_cs, ↓nx_ap, ↓s_nil, ↓s_set, ↓s_par, ↓s_unp, ↓s_ret, ↓s_retN, ↓s_drop, ↓s_if, ↓s_whl, ↓s_for, ↓s_app, ↓s_ext, ↓s_put, ↓s_ja, ↓s_ji, ↓s_js, ↓s_jl, ↓s_rais, ↓s_pass, ↓s_brk, ↓s_cont, ↓s_tri, ↓hd_nil, ↓hd_cons, ↓un_s, ↓un_n, ↓hu_ret, ↓hu_ifr, ↓hx_b, ↓hx_s, ↓hx_i, ↓hx_n, ↓hx_fld, ↓hx_isA, ↓hx_nt, ↓hx_and, ↓hx_ite, ↓hx_lst, ↓hx_tup, ↓hxs_nil, ↓hxs_cons, ↓ra_none, ↓ra_some, ↓x_calldB, ↓x_lw, ↓x_dct0, ↓x_v, ↓x_i, ↓x_b, ↓x_n, ↓x_st, ↓x_g, ↓x_tup, ↓x_lst, ↓x_bin, ↓x_neg, ↓x_nt, ↓x_cmp, ↓x_chain, ↓x_isN, ↓x_notN, ↓x_and, ↓x_or, ↓x_ite, ↓x_ix, ↓x_cut, ↓x_rev, ↓x_stp, ↓x_callB, ↓x_callkB, ↓x_bi, ↓x_comp, ↓x_pop, ↓x_popA, ↓x_jg, ↓x_jn, ↓x_jp, ↓x_scut, ↓x_slen, ↓srcK, ↓srcL, ↓t_yes, ↓t_and', ↓t_or', ↓t_nt', ↓t_ex, ↓e_nil, ↓e_cons, ↓a_nil', ↓a_cons', ↓rs_nil, ↓rs_cons, ↓frzS_v, ↓frzS_n, ↓asgs_nil, ↓asgs_cons, ↓rd_z, ↓rd_s, ↓set_z, ↓set_s, ↓at_mk, ↓isJar_j, ↓der_v, ↓der_n, ↓der_sl, ↓frz_v, ↓frz_n, ↓frz_sl, ↓asg_v, ↓asg_n, ↓asg_sl, ↓opW, ↓cmpW, ↓eqw_int, ↓eqw_str, ↓eqw_tup, ↓eqw_lst, ↓ordW, ↓truW, ↓noOw, ↓ixW, ↓biW, ↓tgW, ↓tgsW, ↓opwW, ↓itW, ↓wipe_nil, ↓wipe_cons, ↓unwipe, ↓isOw, true_and, Bool.and_true, Bool.not_true, Bool.not_false, Bool.false_eq_true, ↓reduceIte, ↓blk_ap]
  refine p_pick (n := n) (.inl rfl) hg1 (by show 1 ≤ 6; decide) (by show 6 < 10 ^ 9; decide) fun x g2 hx hg2 => ?_
  obtain ⟨a, rfl, ha⟩ : ∃ a : Int, x = .int a ∧ -(10 ^ 8) ≤ a ∧ a ≤ 10 ^ 8 := by
    simp only [List.mem_cons, List.not_mem_nil, or_false] at hx
    rcases hx with rfl | rfl | rfl | rfl | rfl | rfl <;> exact ⟨_, rfl, by decide, by decide⟩
  try simp -implicitDefEqProofs only [↓s_cs, ↓nx_ap, ↓s_nil, ↓s_set, ↓s_par, ↓s_unp, ↓s_ret, ↓s_retN, ↓s_drop, ↓s_if, ↓s_whl, ↓s_for, ↓s_app, ↓s_ext, ↓s_put, ↓s_ja, ↓s_ji, ↓s_js, ↓s_jl, ↓s_rais, ↓s_pass, ↓s_brk, ↓s_cont, ↓s_tri, ↓hd_nil, ↓hd_cons, ↓un_s, ↓un_n, ↓hu_ret, ↓hu_ifr, ↓hx_b, ↓hx_s, ↓hx_i, ↓hx_n, ↓hx_fld, ↓hx_isA, ↓hx_nt, ↓hx_and, ↓hx_ite, ↓hx_lst, ↓hx_tup, ↓hxs_nil, ↓hxs_cons, ↓ra_none, ↓ra_some, ↓x_calldB, ↓x_lw, ↓x_dct0, ↓x_v, ↓x_i, ↓x_b, ↓x_n, ↓x_st, ↓x_g, ↓x_tup, ↓x_lst, ↓x_bin, ↓x_neg, ↓x_nt, ↓x_cmp, ↓x_chain, ↓x_isN, ↓x_notN, ↓x_and, ↓x_or, ↓x_ite, ↓x_ix, ↓x_cut, ↓x_rev, ↓x_stp, ↓x_callB, ↓x_callkB, ↓x_bi, ↓x_comp, ↓x_pop, ↓x_popA, ↓x_jg, ↓x_jn, ↓x_jp, ↓x_scut, ↓x_slen, ↓srcK, ↓srcL, ↓t_yes, ↓t_and', ↓t_or', ↓t_nt', ↓t_ex, ↓e_nil, ↓e_cons, ↓a_nil', ↓a_cons', ↓rs_nil, ↓rs_cons, ↓frzS_v, ↓frzS_n, ↓asgs_nil, ↓asgs_cons, ↓rd_z, ↓rd_s, ↓set_z, ↓set_s, ↓at_mk, ↓isJar_j, ↓der_v, ↓der_n, ↓der_sl, ↓frz_v, ↓frz_n, ↓frz_sl, ↓asg_v, ↓asg_n, ↓asg_sl, ↓opW, ↓cmpW, ↓eqw_int, ↓eqw_str, ↓eqw_tup, ↓eqw_lst, ↓ordW, ↓truW, ↓noOw, ↓ixW, ↓biW, ↓tgW, ↓tgsW, ↓opwW, ↓itW, ↓wipe_nil, ↓wipe_cons, ↓unwipe, ↓isOw, true_and, Bool.and_true, Bool.not_true, Bool.not_false, Bool.false_eq_true, ↓reduceIte, ↓blk_ap]
  by_cases q : w = 0
  · rw [if_pos (decide_eq_true q)]
    refine p_pick (n := n) (.inl rfl) hg2 (by show 1 ≤ 5; decide) (by show 5 < 10 ^ 9; decide) fun y g3 hy hg3 => ?_
    obtain ⟨b, rfl, hb⟩ : ∃ a : Int, y = .int a ∧ -(10 ^ 8) ≤ a ∧ a ≤ 10 ^ 8 := by
      simp only [List.mem_cons, List.not_mem_nil, or_false] at hy
      rcases hy with rfl | rfl | rfl | rfl | rfl <;> exact ⟨_, rfl, by decide, by decide⟩
    try simp -implicitDefEqProofs only [↓s_cs, ↓nx_ap, ↓s_nil, ↓s_set, ↓s_par, ↓s_unp, ↓s_ret, ↓s_retN, ↓s_drop, ↓s_if, ↓s_whl, ↓s_for, ↓s_app, ↓s_ext, ↓s_put, ↓s_ja, ↓s_ji, ↓s_js, ↓s_jl, ↓s_rais, ↓s_pass, ↓s_brk, ↓s_cont, ↓s_tri, ↓hd_nil, ↓hd_cons, ↓un_s, ↓un_n, ↓hu_ret, ↓hu_ifr, ↓hx_b, ↓hx_s, ↓hx_i, ↓hx_n, ↓hx_fld, ↓hx_isA, ↓hx_nt, ↓hx_and, ↓hx_ite, ↓hx_lst, ↓hx_tup, ↓hxs_nil, ↓hxs_cons, ↓ra_none, ↓ra_some, ↓x_calldB, ↓x_lw, ↓x_dct0, ↓x_v, ↓x_i, ↓x_b, ↓x_n, ↓x_st, ↓x_g, ↓x_tup, ↓x_lst, ↓x_bin, ↓x_neg, ↓x_nt, ↓x_cmp, ↓x_chain, ↓x_isN, ↓x_notN, ↓x_and, ↓x_or, ↓x_ite, ↓x_ix, ↓x_cut, ↓x_rev, ↓x_stp, ↓x_callB, ↓x_callkB, ↓x_bi, ↓x_comp, ↓x_pop, ↓x_popA, ↓x_jg, ↓x_jn, ↓x_jp, ↓x_scut, ↓x_slen, ↓srcK, ↓srcL, ↓t_yes, ↓t_and', ↓t_or', ↓t_nt', ↓t_ex, ↓e_nil, ↓e_cons, ↓a_nil', ↓a_cons', ↓rs_nil, ↓rs_cons, ↓frzS_v, ↓frzS_n, ↓asgs_nil, ↓asgs_cons, ↓rd_z, ↓rd_s, ↓set_z, ↓set_s, ↓at_mk, ↓isJar_j, ↓der_v, ↓der_n, ↓der_sl, ↓frz_v, ↓frz_n, ↓frz_sl, ↓asg_v, ↓asg_n, ↓asg_sl, ↓opW, ↓cmpW, ↓eqw_int, ↓eqw_str, ↓eqw_tup, ↓eqw_lst, ↓ordW, ↓truW, ↓noOw, ↓ixW, ↓biW, ↓tgW, ↓tgsW, ↓opwW, ↓itW, ↓wipe_nil, ↓wipe_cons, ↓unwipe, ↓isOw, true_and, Bool.and_true, Bool.not_true, Bool.not_false, Bool.false_eq_true, ↓reduceIte, ↓blk_ap]
    exact h (a, b) g3 ⟨ha, hb⟩ hg3
  · rw [if_neg (by rw [decide_eq_true_eq]; exact q)]
    have fin : ∀ (m : Int) g3, -1000 ≤ m → m ≤ 1000 → GOK g3 → stsW (callW T (n + 2)) sub (match d4.b with | .cons _ (.cons _ (.cons _ (.cons _ r))) => r | _ => .nil) ⟨[.fz JAR, .fz (.int w), .fz (.int a), .fz (.int m)], g3⟩ { nx := fun r => K .none r.g, rt := fun d r => K d r.g, bk := fun _ => False, ct := fun _ => False, ex := fun e r => X e r.g } := by
      intro m g3 m1 m2 hg3
      simp -implicitDefEqProofs only [↓s_cs, ↓nx_ap, ↓s_nil, ↓s_set, ↓s_par, ↓s_unp, ↓s_ret, ↓s_retN, ↓s_drop, ↓s_if, ↓s_whl, ↓s_for, ↓s_app, ↓s_ext, ↓s_put, ↓s_ja, ↓s_ji, ↓s_js, ↓s_jl, ↓s_rais, ↓s_pass, ↓s_brk, ↓s_cont, ↓s_tri, ↓hd_nil, ↓hd_cons, ↓un_s, ↓un_n, ↓hu_ret, ↓hu_ifr, ↓hx_b, ↓hx_s, ↓hx_i, ↓hx_n, ↓hx_fld, ↓hx_isA, ↓hx_nt, ↓hx_and, ↓hx_ite, ↓hx_lst, ↓hx_tup, ↓hxs_nil, ↓hxs_cons, ↓ra_none, ↓ra_some, ↓x_calldB, ↓x_lw, ↓x_dct0, ↓x_v, ↓x_i, ↓x_b, ↓x_n, ↓x_st, ↓x_g, ↓x_tup, ↓x_lst, ↓x_bin, ↓x_neg, ↓x_nt, ↓x_cmp, ↓x_chain, ↓x_isN, ↓x_notN, ↓x_and, ↓x_or, ↓x_ite, ↓x_ix, ↓x_cut, ↓x_rev, ↓x_stp, ↓x_callB, ↓x_callkB, ↓x_bi, ↓x_comp, ↓x_pop, ↓x_popA, ↓x_jg, ↓x_jn, ↓x_jp, ↓x_scut, ↓x_slen, ↓srcK, ↓srcL, ↓t_yes, ↓t_and', ↓t_or', ↓t_nt', ↓t_ex, ↓e_nil, ↓e_cons, ↓a_nil', ↓a_cons', ↓rs_nil, ↓rs_cons, ↓frzS_v, ↓frzS_n, ↓asgs_nil, ↓asgs_cons, ↓rd_z, ↓rd_s, ↓set_z, ↓set_s, ↓at_mk, ↓isJar_j, ↓der_v, ↓der_n, ↓der_sl, ↓frz_v, ↓frz_n, ↓frz_sl, ↓asg_v, ↓asg_n, ↓asg_sl, ↓opW, ↓cmpW, ↓eqw_int, ↓eqw_str, ↓eqw_tup, ↓eqw_lst, ↓ordW, ↓truW, ↓noOw, ↓ixW, ↓biW, ↓tgW, ↓tgsW, ↓opwW, ↓itW, ↓wipe_nil, ↓wipe_cons, ↓unwipe, ↓isOw, true_and, Bool.and_true, Bool.not_true, Bool.not_false, Bool.false_eq_true, ↓reduceIte, ↓blk_ap, ↓d4]
      refine p_draw (n := n + 1) hg3 (by decide) (by decide) fun x g4 x0 x1 hg4 => ?_
      try simp -implicitDefEqProofs only [↓s_cs, ↓nx_ap, ↓s_nil, ↓s_set, ↓s_par, ↓s_unp, ↓s_ret, ↓s_retN, ↓s_drop, ↓s_if, ↓s_whl, ↓s_for, ↓s_app, ↓s_ext, ↓s_put, ↓s_ja, ↓s_ji, ↓s_js, ↓s_jl, ↓s_rais, ↓s_pass, ↓s_brk, ↓s_cont, ↓s_tri, ↓hd_nil, ↓hd_cons, ↓un_s, ↓un_n, ↓hu_ret, ↓hu_ifr, ↓hx_b, ↓hx_s, ↓hx_i, ↓hx_n, ↓hx_fld, ↓hx_isA, ↓hx_nt, ↓hx_and, ↓hx_ite, ↓hx_lst, ↓hx_tup, ↓hxs_nil, ↓hxs_cons, ↓ra_none, ↓ra_some, ↓x_calldB, ↓x_lw, ↓x_dct0, ↓x_v, ↓x_i, ↓x_b, ↓x_n, ↓x_st, ↓x_g, ↓x_tup, ↓x_lst, ↓x_bin, ↓x_neg, ↓x_nt, ↓x_cmp, ↓x_chain, ↓x_isN, ↓x_notN, ↓x_and, ↓x_or, ↓x_ite, ↓x_ix, ↓x_cut, ↓x_rev, ↓x_stp, ↓x_callB, ↓x_callkB, ↓x_bi, ↓x_comp, ↓x_pop, ↓x_popA, ↓x_jg, ↓x_jn, ↓x_jp, ↓x_scut, ↓x_slen, ↓srcK, ↓srcL, ↓t_yes, ↓t_and', ↓t_or', ↓t_nt', ↓t_ex, ↓e_nil, ↓e_cons, ↓a_nil', ↓a_cons', ↓rs_nil, ↓rs_cons, ↓frzS_v, ↓frzS_n, ↓asgs_nil, ↓asgs_cons, ↓rd_z, ↓rd_s, ↓set_z, ↓set_s, ↓at_mk, ↓isJar_j, ↓der_v, ↓der_n, ↓der_sl, ↓frz_v, ↓frz_n, ↓frz_sl, ↓asg_v, ↓asg_n, ↓asg_sl, ↓opW, ↓cmpW, ↓eqw_int, ↓eqw_str, ↓eqw_tup, ↓eqw_lst, ↓ordW, ↓truW, ↓noOw, ↓ixW, ↓biW, ↓tgW, ↓tgsW, ↓opwW, ↓itW, ↓wipe_nil, ↓wipe_cons, ↓unwipe, ↓isOw, true_and, Bool.and_true, Bool.not_true, Bool.not_false, Bool.false_eq_true, ↓reduceIte, ↓blk_ap]
      refine ⟨mulS (by omega), p_draw (n := n + 1) hg4 (by decide) (by decide) fun y g5 y0 y1 hg5 => ?_⟩
      try simp -implicitDefEqProofs only [↓s_cs, ↓nx_ap, ↓s_nil, ↓s_set, ↓s_par, ↓s_unp, ↓s_ret, ↓s_retN, ↓s_drop, ↓s_if, ↓s_whl, ↓s_for, ↓s_app, ↓s_ext, ↓s_put, ↓s_ja, ↓s_ji, ↓s_js, ↓s_jl, ↓s_rais, ↓s_pass, ↓s_brk, ↓s_cont, ↓s_tri, ↓hd_nil, ↓hd_cons, ↓un_s, ↓un_n, ↓hu_ret, ↓hu_ifr, ↓hx_b, ↓hx_s, ↓hx_i, ↓hx_n, ↓hx_fld, ↓hx_isA, ↓hx_nt, ↓hx_and, ↓hx_ite, ↓hx_lst, ↓hx_tup, ↓hxs_nil, ↓hxs_cons, ↓ra_none, ↓ra_some, ↓x_calldB, ↓x_lw, ↓x_dct0, ↓x_v, ↓x_i, ↓x_b, ↓x_n, ↓x_st, ↓x_g, ↓x_tup, ↓x_lst, ↓x_bin, ↓x_neg, ↓x_nt, ↓x_cmp, ↓x_chain, ↓x_isN, ↓x_notN, ↓x_and, ↓x_or, ↓x_ite, ↓x_ix, ↓x_cut, ↓x_rev, ↓x_stp, ↓x_callB, ↓x_callkB, ↓x_bi, ↓x_comp, ↓x_pop, ↓x_popA, ↓x_jg, ↓x_jn, ↓x_jp, ↓x_scut, ↓x_slen, ↓srcK, ↓srcL, ↓t_yes, ↓t_and', ↓t_or', ↓t_nt', ↓t_ex, ↓e_nil, ↓e_cons, ↓a_nil', ↓a_cons', ↓rs_nil, ↓rs_cons, ↓frzS_v, ↓frzS_n, ↓asgs_nil, ↓asgs_cons, ↓rd_z, ↓rd_s, ↓set_z, ↓set_s, ↓at_mk, ↓isJar_j, ↓der_v, ↓der_n, ↓der_sl, ↓frz_v, ↓frz_n, ↓frz_sl, ↓asg_v, ↓asg_n, ↓asg_sl, ↓opW, ↓cmpW, ↓eqw_int, ↓eqw_str, ↓eqw_tup, ↓eqw_lst, ↓ordW, ↓truW, ↓noOw, ↓ixW, ↓biW, ↓tgW, ↓tgsW, ↓opwW, ↓itW, ↓wipe_nil, ↓wipe_cons, ↓unwipe, ↓isOw, true_and, Bool.and_true, Bool.not_true, Bool.not_false, Bool.false_eq_true, ↓reduceIte, ↓blk_ap]
      refine ⟨mulS (by omega), h (m * (x - 7), m * (y - 7)) g5 ?_ hg5⟩
      have b1 : (m * (x - 7)).natAbs ≤ 1000 * 10 := by rw [Int.natAbs_mul]; exact Nat.mul_le_mul (by omega) (by omega)
      have b2 : (m * (y - 7)).natAbs ≤ 1000 * 10 := by rw [Int.natAbs_mul]; exact Nat.mul_le_mul (by omega) (by omega)
      unfold Sp
      dsimp only
      omega
    by_cases q1 : 1 < w
    · rw [if_pos (decide_eq_true q1)]
      refine p_pick (n := n) (.inl rfl) hg2 (by show 1 ≤ 6; decide) (by show 6 < 10 ^ 9; decide) fun y g3 hy hg3 => ?_
      obtain ⟨b, rfl, hb1, hb2⟩ : ∃ a : Int, y = .int a ∧ -1000 ≤ a ∧ a ≤ 1000 := by
        simp only [List.mem_cons, List.not_mem_nil, or_false] at hy
        rcases hy with rfl | rfl | rfl | rfl | rfl | rfl <;> exact ⟨_, rfl, by decide, by decide⟩
      have := fin b g3 hb1 hb2 hg3
      try simp -implicitDefEqProofs only [↓s_cs, ↓s_nil, ↓s_set, ↓s_par, ↓s_unp, ↓s_ret, ↓s_retN, ↓s_drop, ↓s_if, ↓s_whl, ↓s_for, ↓s_app, ↓s_ext, ↓s_put, ↓s_ja, ↓s_ji, ↓s_js, ↓s_jl, ↓s_rais, ↓s_pass, ↓s_brk, ↓s_cont, ↓s_tri, ↓hd_nil, ↓hd_cons, ↓un_s, ↓un_n, ↓hu_ret, ↓hu_ifr, ↓hx_b, ↓hx_s, ↓hx_i, ↓hx_n, ↓hx_fld, ↓hx_isA, ↓hx_nt, ↓hx_and, ↓hx_ite, ↓hx_lst, ↓hx_tup, ↓hxs_nil, ↓hxs_cons, ↓ra_none, ↓ra_some, ↓x_calldB, ↓x_lw, ↓x_dct0, ↓x_v, ↓x_i, ↓x_b, ↓x_n, ↓x_st, ↓x_g, ↓x_tup, ↓x_lst, ↓x_bin, ↓x_neg, ↓x_nt, ↓x_cmp, ↓x_chain, ↓x_isN, ↓x_notN, ↓x_and, ↓x_or, ↓x_ite, ↓x_ix, ↓x_cut, ↓x_rev, ↓x_stp, ↓x_callB, ↓x_callkB, ↓x_bi, ↓x_comp, ↓x_pop, ↓x_popA, ↓x_jg, ↓x_jn, ↓x_jp, ↓x_scut, ↓x_slen, ↓srcK, ↓srcL, ↓t_yes, ↓t_and', ↓t_or', ↓t_nt', ↓t_ex, ↓e_nil, ↓e_cons, ↓a_nil', ↓a_cons', ↓rs_nil, ↓rs_cons, ↓frzS_v, ↓frzS_n, ↓asgs_nil, ↓asgs_cons, ↓rd_z, ↓rd_s, ↓set_z, ↓set_s, ↓at_mk, ↓isJar_j, ↓der_v, ↓der_n, ↓der_sl, ↓frz_v, ↓frz_n, ↓frz_sl, ↓asg_v, ↓asg_n, ↓asg_sl, ↓opW, ↓cmpW, ↓eqw_int, ↓eqw_str, ↓eqw_tup, ↓eqw_lst, ↓ordW, ↓truW, ↓noOw, ↓ixW, ↓biW, ↓tgW, ↓tgsW, ↓opwW, ↓itW, ↓wipe_nil, ↓wipe_cons, ↓unwipe, ↓isOw, true_and, Bool.and_true, Bool.not_true, Bool.not_false, Bool.false_eq_true, ↓reduceIte, ↓blk_ap]
      rw [nx_ap]
      exact this
    · rw [if_neg (by rw [decide_eq_true_eq]; exact q1)]
      have := fin 0 g2 (by decide) (by decide) hg2
      simp only [d4] at this
      try simp -implicitDefEqProofs only [↓s_cs, ↓nx_ap, ↓s_nil, ↓s_set, ↓s_par, ↓s_unp, ↓s_ret, ↓s_retN, ↓s_drop, ↓s_if, ↓s_whl, ↓s_for, ↓s_app, ↓s_ext, ↓s_put, ↓s_ja, ↓s_ji, ↓s_js, ↓s_jl, ↓s_rais, ↓s_pass, ↓s_brk, ↓s_cont, ↓s_tri, ↓hd_nil, ↓hd_cons, ↓un_s, ↓un_n, ↓hu_ret, ↓hu_ifr, ↓hx_b, ↓hx_s, ↓hx_i, ↓hx_n, ↓hx_fld, ↓hx_isA, ↓hx_nt, ↓hx_and, ↓hx_ite, ↓hx_lst, ↓hx_tup, ↓hxs_nil, ↓hxs_cons, ↓ra_none, ↓ra_some, ↓x_calldB, ↓x_lw, ↓x_dct0, ↓x_v, ↓x_i, ↓x_b, ↓x_n, ↓x_st, ↓x_g, ↓x_tup, ↓x_lst, ↓x_bin, ↓x_neg, ↓x_nt, ↓x_cmp, ↓x_chain, ↓x_isN, ↓x_notN, ↓x_and, ↓x_or, ↓x_ite, ↓x_ix, ↓x_cut, ↓x_rev, ↓x_stp, ↓x_callB, ↓x_callkB, ↓x_bi, ↓x_comp, ↓x_pop, ↓x_popA, ↓x_jg, ↓x_jn, ↓x_jp, ↓x_scut, ↓x_slen, ↓srcK, ↓srcL, ↓t_yes, ↓t_and', ↓t_or', ↓t_nt', ↓t_ex, ↓e_nil, ↓e_cons, ↓a_nil', ↓a_cons', ↓rs_nil, ↓rs_cons, ↓frzS_v, ↓frzS_n, ↓asgs_nil, ↓asgs_cons, ↓rd_z, ↓rd_s, ↓set_z, ↓set_s, ↓at_mk, ↓isJar_j, ↓der_v, ↓der_n, ↓der_sl, ↓frz_v, ↓frz_n, ↓frz_sl, ↓asg_v, ↓asg_n, ↓asg_sl, ↓opW, ↓cmpW, ↓eqw_int, ↓eqw_str, ↓eqw_tup, ↓eqw_lst, ↓ordW, ↓truW, ↓noOw, ↓ixW, ↓biW, ↓tgW, ↓tgsW, ↓opwW, ↓itW, ↓wipe_nil, ↓wipe_cons, ↓unwipe, ↓isOw, true_and, Bool.and_true, Bool.not_true, Bool.not_false, Bool.false_eq_true, ↓reduceIte, ↓blk_ap] at this
      try simp -implicitDefEqProofs only [↓s_cs, ↓nx_ap, ↓s_nil, ↓s_set, ↓s_par, ↓s_unp, ↓s_ret, ↓s_retN, ↓s_drop, ↓s_if, ↓s_whl, ↓s_for, ↓s_app, ↓s_ext, ↓s_put, ↓s_ja, ↓s_ji, ↓s_js, ↓s_jl, ↓s_rais, ↓s_pass, ↓s_brk, ↓s_cont, ↓s_tri, ↓hd_nil, ↓hd_cons, ↓un_s, ↓un_n, ↓hu_ret, ↓hu_ifr, ↓hx_b, ↓hx_s, ↓hx_i, ↓hx_n, ↓hx_fld, ↓hx_isA, ↓hx_nt, ↓hx_and, ↓hx_ite, ↓hx_lst, ↓hx_tup, ↓hxs_nil, ↓hxs_cons, ↓ra_none, ↓ra_some, ↓x_calldB, ↓x_lw, ↓x_dct0, ↓x_v, ↓x_i, ↓x_b, ↓x_n, ↓x_st, ↓x_g, ↓x_tup, ↓x_lst, ↓x_bin, ↓x_neg, ↓x_nt, ↓x_cmp, ↓x_chain, ↓x_isN, ↓x_notN, ↓x_and, ↓x_or, ↓x_ite, ↓x_ix, ↓x_cut, ↓x_rev, ↓x_stp, ↓x_callB, ↓x_callkB, ↓x_bi, ↓x_comp, ↓x_pop, ↓x_popA, ↓x_jg, ↓x_jn, ↓x_jp, ↓x_scut, ↓x_slen, ↓srcK, ↓srcL, ↓t_yes, ↓t_and', ↓t_or', ↓t_nt', ↓t_ex, ↓e_nil, ↓e_cons, ↓a_nil', ↓a_cons', ↓rs_nil, ↓rs_cons, ↓frzS_v, ↓frzS_n, ↓asgs_nil, ↓asgs_cons, ↓rd_z, ↓rd_s, ↓set_z, ↓set_s, ↓at_mk, ↓isJar_j, ↓der_v, ↓der_n, ↓der_sl, ↓frz_v, ↓frz_n, ↓frz_sl, ↓asg_v, ↓asg_n, ↓asg_sl, ↓opW, ↓cmpW, ↓eqw_int, ↓eqw_str, ↓eqw_tup, ↓eqw_lst, ↓ordW, ↓truW, ↓noOw, ↓ixW, ↓biW, ↓tgW, ↓tgsW, ↓opwW, ↓itW, ↓wipe_nil, ↓wipe_cons, ↓unwipe, ↓isOw, true_and, Bool.and_true, Bool.not_true, Bool.not_false, Bool.false_eq_true, ↓reduceIte, ↓blk_ap]
      first | exact this | done
end G01

-- BLK
set_option linter.all false
set_option maxRecDepth 100000
set_option exponentiation.threshold 200000
namespace G01
open PySem PySem.Spec PyProof.Rows L2 G
theorem i_val {x : Int} {k : Nat} (h : x.natAbs < 10 ^ 60) (hk : 61 ≤ k) : G.Val 0 k (.int x) := (val_int (k := 60) (by decide) (by decide) h).mono (Nat.le_refl _) hk
theorem s_val {s : Str} {m : Nat} (h : (PyData.str s).shown.length ≤ m) : G.Val 0 m (.str s) := ⟨rfl, Nat.le_refl _, rfl, h⟩
theorem b60 {x : Int} (h : -(10 ^ 40) ≤ x ∧ x ≤ 10 ^ 40) : x.natAbs < 10 ^ 60 := by omega
theorem pD_val {u : Int × Int} (h1 : u.1.natAbs < 10 ^ 60) (h2 : u.2.natAbs < 10 ^ 60) : G.Val 1 200 (pD u) := by
  refine (val_tup (dp := 0) (m := 61) (c := 2) (fun d hd => ?_) (Nat.le_refl _)).mono (Nat.le_refl _) (by decide)
  simp only [List.mem_cons, List.not_mem_nil, or_false] at hd
  rcases hd with rfl | rfl
  · exact i_val h1 (Nat.le_refl _)
  · exact i_val h2 (Nat.le_refl _)
theorem sp_val {u : Int × Int} (h : Sp u) : G.Val 1 200 (pD u) := pD_val (by have := h.1; omega) (by have := h.2; omega)
theorem told_val {u : Int × Int} (hu : Sp u) : G.Val 2 800 (toldF u) := by
  have gl := gcd_le hu
  unfold toldF
  split
  · refine (val_lst (dp := 1) (m := 200) (c := 2) (fun d hd => ?_) (Nat.le_refl _)).mono (Nat.le_refl _) (by decide)
    simp only [List.mem_cons, List.not_mem_nil, or_false] at hd
    have bd : ∀ x : Int, -(10 ^ 8) ≤ x ∧ x ≤ 10 ^ 8 → (x.fdiv ((Int.gcd u.1 u.2 : Nat) : Int)).natAbs < 10 ^ 60 := fun x hx => by
      rw [Int.fdiv_eq_ediv_of_nonneg _ (by omega)]
      have := Int.natAbs_ediv_le_natAbs x ((Int.gcd u.1 u.2 : Nat) : Int)
      omega
    rcases hd with rfl | rfl
    · exact (s_val (m := 30) (by decide +kernel)).mono (by decide) (by decide)
    · exact pD_val (u := (u.1.fdiv (Int.gcd u.1 u.2), u.2.fdiv (Int.gcd u.1 u.2))) (bd _ hu.1) (bd _ hu.2)
  · refine (val_lst (dp := 1) (m := 200) (c := 2) (fun d hd => ?_) (Nat.le_refl _)).mono (Nat.le_refl _) (by decide)
    simp only [List.mem_cons, List.not_mem_nil, or_false] at hd
    rcases hd with rfl | rfl
    · exact (s_val (m := 30) (by decide +kernel)).mono (by decide) (by decide)
    · exact val_bool.mono (by decide) (by decide)
theorem dt_bd {u v : Int × Int} (hu : Sp u) (hv : Sp v) : (dt u v).natAbs < 10 ^ 60 := by
  have a1 : (u.1 * v.2).natAbs ≤ 10 ^ 8 * 10 ^ 8 := by rw [Int.natAbs_mul]; exact Nat.mul_le_mul (by have := hu.1; omega) (by have := hv.2; omega)
  have a2 : (u.2 * v.1).natAbs ≤ 10 ^ 8 * 10 ^ 8 := by rw [Int.natAbs_mul]; exact Nat.mul_le_mul (by have := hu.2; omega) (by have := hv.1; omega)
  unfold dt
  omega
theorem z1 : 100000 ≤ SZ := by decide
theorem lst_val {ds : List D} {dp : Nat} (h : ∀ d ∈ ds, G.Val dp 800 d) (hl : ds.length ≤ 100) : G.Val (dp + 1) 100000 (.list ds) := (val_lst (c := 100) h hl).mono (Nat.le_refl _) (by decide)
theorem p_vecs {n : Nat} {g : Gh} {K : D → Gh → Prop} {X : Exn → Gh → Prop} (hg : GOK g) (h : ∀ g', GOK g' → K (.bool true) g') : callW T (n + 4) 11 [JAR] g K X := by
  refine call_df (np := 1) (ns := 8) (b := d11.b) rfl rfl ?_
  have e0 : startE 8 [JAR] g = ⟨[.fz JAR, .un, .un, .un, .un, .un, .un, .un], g⟩ := rfl
  rw [e0]
  simp -implicitDefEqProofs only [↓s_cs, ↓nx_ap, ↓s_nil, ↓s_set, ↓s_par, ↓s_unp, ↓s_ret, ↓s_retN, ↓s_drop, ↓s_if, ↓s_whl, ↓s_for, ↓s_app, ↓s_ext, ↓s_put, ↓s_ja, ↓s_ji, ↓s_js, ↓s_jl, ↓s_rais, ↓s_pass, ↓s_brk, ↓s_cont, ↓s_tri, ↓hd_nil, ↓hd_cons, ↓un_s, ↓un_n, ↓hu_ret, ↓hu_ifr, ↓hx_b, ↓hx_s, ↓hx_i, ↓hx_n, ↓hx_fld, ↓hx_isA, ↓hx_nt, ↓hx_and, ↓hx_ite, ↓hx_lst, ↓hx_tup, ↓hxs_nil, ↓hxs_cons, ↓ra_none, ↓ra_some, ↓x_calldB, ↓x_lw, ↓x_dct0, ↓x_v, ↓x_i, ↓x_b, ↓x_n, ↓x_st, ↓x_g, ↓x_tup, ↓x_lst, ↓x_bin, ↓x_neg, ↓x_nt, ↓x_cmp, ↓x_chain, ↓x_isN, ↓x_notN, ↓x_and, ↓x_or, ↓x_ite, ↓x_ix, ↓x_cut, ↓x_rev, ↓x_stp, ↓x_callB, ↓x_callkB, ↓x_bi, ↓x_comp, ↓x_pop, ↓x_popA, ↓x_jg, ↓x_jn, ↓x_jp, ↓x_scut, ↓x_slen, ↓srcK, ↓srcL, ↓t_yes, ↓t_and', ↓t_or', ↓t_nt', ↓t_ex, ↓e_nil, ↓e_cons, ↓a_nil', ↓a_cons', ↓rs_nil, ↓rs_cons, ↓frzS_v, ↓frzS_n, ↓asgs_nil, ↓asgs_cons, ↓rd_z, ↓rd_s, ↓set_z, ↓set_s, ↓at_mk, ↓isJar_j, ↓der_v, ↓der_n, ↓der_sl, ↓frz_v, ↓frz_n, ↓frz_sl, ↓asg_v, ↓asg_n, ↓asg_sl, ↓opW, ↓cmpW, ↓eqw_int, ↓eqw_str, ↓eqw_tup, ↓eqw_lst, ↓ordW, ↓truW, ↓noOw, ↓ixW, ↓biW, ↓tgW, ↓tgsW, ↓opwW, ↓itW, ↓wipe_nil, ↓wipe_cons, ↓unwipe, ↓isOw, true_and, Bool.and_true, Bool.not_true, Bool.not_false, Bool.false_eq_true, ↓reduceIte, ↓blk_ap, ↓d11]
  refine p_vector (n := n) hg fun u g1 hu hg1 => ?_
  try simp -implicitDefEqProofs only [↓s_cs, ↓nx_ap, ↓s_nil, ↓s_set, ↓s_par, ↓s_unp, ↓s_ret, ↓s_retN, ↓s_drop, ↓s_if, ↓s_whl, ↓s_for, ↓s_app, ↓s_ext, ↓s_put, ↓s_ja, ↓s_ji, ↓s_js, ↓s_jl, ↓s_rais, ↓s_pass, ↓s_brk, ↓s_cont, ↓s_tri, ↓hd_nil, ↓hd_cons, ↓un_s, ↓un_n, ↓hu_ret, ↓hu_ifr, ↓hx_b, ↓hx_s, ↓hx_i, ↓hx_n, ↓hx_fld, ↓hx_isA, ↓hx_nt, ↓hx_and, ↓hx_ite, ↓hx_lst, ↓hx_tup, ↓hxs_nil, ↓hxs_cons, ↓ra_none, ↓ra_some, ↓x_calldB, ↓x_lw, ↓x_dct0, ↓x_v, ↓x_i, ↓x_b, ↓x_n, ↓x_st, ↓x_g, ↓x_tup, ↓x_lst, ↓x_bin, ↓x_neg, ↓x_nt, ↓x_cmp, ↓x_chain, ↓x_isN, ↓x_notN, ↓x_and, ↓x_or, ↓x_ite, ↓x_ix, ↓x_cut, ↓x_rev, ↓x_stp, ↓x_callB, ↓x_callkB, ↓x_bi, ↓x_comp, ↓x_pop, ↓x_popA, ↓x_jg, ↓x_jn, ↓x_jp, ↓x_scut, ↓x_slen, ↓srcK, ↓srcL, ↓t_yes, ↓t_and', ↓t_or', ↓t_nt', ↓t_ex, ↓e_nil, ↓e_cons, ↓a_nil', ↓a_cons', ↓rs_nil, ↓rs_cons, ↓frzS_v, ↓frzS_n, ↓asgs_nil, ↓asgs_cons, ↓rd_z, ↓rd_s, ↓set_z, ↓set_s, ↓at_mk, ↓isJar_j, ↓der_v, ↓der_n, ↓der_sl, ↓frz_v, ↓frz_n, ↓frz_sl, ↓asg_v, ↓asg_n, ↓asg_sl, ↓opW, ↓cmpW, ↓eqw_int, ↓eqw_str, ↓eqw_tup, ↓eqw_lst, ↓ordW, ↓truW, ↓noOw, ↓ixW, ↓biW, ↓tgW, ↓tgsW, ↓opwW, ↓itW, ↓wipe_nil, ↓wipe_cons, ↓unwipe, ↓isOw, true_and, Bool.and_true, Bool.not_true, Bool.not_false, Bool.false_eq_true, ↓reduceIte, ↓blk_ap]
  refine p_vector (n := n) hg1 fun v g2 hv hg2 => ?_
  try simp -implicitDefEqProofs only [↓s_cs, ↓nx_ap, ↓s_nil, ↓s_set, ↓s_par, ↓s_unp, ↓s_ret, ↓s_retN, ↓s_drop, ↓s_if, ↓s_whl, ↓s_for, ↓s_app, ↓s_ext, ↓s_put, ↓s_ja, ↓s_ji, ↓s_js, ↓s_jl, ↓s_rais, ↓s_pass, ↓s_brk, ↓s_cont, ↓s_tri, ↓hd_nil, ↓hd_cons, ↓un_s, ↓un_n, ↓hu_ret, ↓hu_ifr, ↓hx_b, ↓hx_s, ↓hx_i, ↓hx_n, ↓hx_fld, ↓hx_isA, ↓hx_nt, ↓hx_and, ↓hx_ite, ↓hx_lst, ↓hx_tup, ↓hxs_nil, ↓hxs_cons, ↓ra_none, ↓ra_some, ↓x_calldB, ↓x_lw, ↓x_dct0, ↓x_v, ↓x_i, ↓x_b, ↓x_n, ↓x_st, ↓x_g, ↓x_tup, ↓x_lst, ↓x_bin, ↓x_neg, ↓x_nt, ↓x_cmp, ↓x_chain, ↓x_isN, ↓x_notN, ↓x_and, ↓x_or, ↓x_ite, ↓x_ix, ↓x_cut, ↓x_rev, ↓x_stp, ↓x_callB, ↓x_callkB, ↓x_bi, ↓x_comp, ↓x_pop, ↓x_popA, ↓x_jg, ↓x_jn, ↓x_jp, ↓x_scut, ↓x_slen, ↓srcK, ↓srcL, ↓t_yes, ↓t_and', ↓t_or', ↓t_nt', ↓t_ex, ↓e_nil, ↓e_cons, ↓a_nil', ↓a_cons', ↓rs_nil, ↓rs_cons, ↓frzS_v, ↓frzS_n, ↓asgs_nil, ↓asgs_cons, ↓rd_z, ↓rd_s, ↓set_z, ↓set_s, ↓at_mk, ↓isJar_j, ↓der_v, ↓der_n, ↓der_sl, ↓frz_v, ↓frz_n, ↓frz_sl, ↓asg_v, ↓asg_n, ↓asg_sl, ↓opW, ↓cmpW, ↓eqw_int, ↓eqw_str, ↓eqw_tup, ↓eqw_lst, ↓ordW, ↓truW, ↓noOw, ↓ixW, ↓biW, ↓tgW, ↓tgsW, ↓opwW, ↓itW, ↓wipe_nil, ↓wipe_cons, ↓unwipe, ↓isOw, true_and, Bool.and_true, Bool.not_true, Bool.not_false, Bool.false_eq_true, ↓reduceIte, ↓blk_ap]
  have vk : G.Val 2 100000 (.list [pD u, pD v]) := lst_val (fun d hd => by
    simp only [List.mem_cons, List.not_mem_nil, or_false] at hd
    rcases hd with rfl | rfl
    · exact (sp_val hu).mono (Nat.le_refl _) (by decide)
    · exact (sp_val hv).mono (Nat.le_refl _) (by decide)) (by show 2 ≤ 100; decide)
  have pu0 : ∀ w : Int × Int, pD w = .tuple [.int w.1, .int w.2] := fun _ => rfl
  refine vk.rp (by decide) z1 ?_
  try simp -implicitDefEqProofs only [↓s_cs, ↓nx_ap, ↓s_nil, ↓s_set, ↓s_par, ↓s_unp, ↓s_ret, ↓s_retN, ↓s_drop, ↓s_if, ↓s_whl, ↓s_for, ↓s_app, ↓s_ext, ↓s_put, ↓s_ja, ↓s_ji, ↓s_js, ↓s_jl, ↓s_rais, ↓s_pass, ↓s_brk, ↓s_cont, ↓s_tri, ↓hd_nil, ↓hd_cons, ↓un_s, ↓un_n, ↓hu_ret, ↓hu_ifr, ↓hx_b, ↓hx_s, ↓hx_i, ↓hx_n, ↓hx_fld, ↓hx_isA, ↓hx_nt, ↓hx_and, ↓hx_ite, ↓hx_lst, ↓hx_tup, ↓hxs_nil, ↓hxs_cons, ↓ra_none, ↓ra_some, ↓x_calldB, ↓x_lw, ↓x_dct0, ↓x_v, ↓x_i, ↓x_b, ↓x_n, ↓x_st, ↓x_g, ↓x_tup, ↓x_lst, ↓x_bin, ↓x_neg, ↓x_nt, ↓x_cmp, ↓x_chain, ↓x_isN, ↓x_notN, ↓x_and, ↓x_or, ↓x_ite, ↓x_ix, ↓x_cut, ↓x_rev, ↓x_stp, ↓x_callB, ↓x_callkB, ↓x_bi, ↓x_comp, ↓x_pop, ↓x_popA, ↓x_jg, ↓x_jn, ↓x_jp, ↓x_scut, ↓x_slen, ↓srcK, ↓srcL, ↓t_yes, ↓t_and', ↓t_or', ↓t_nt', ↓t_ex, ↓e_nil, ↓e_cons, ↓a_nil', ↓a_cons', ↓rs_nil, ↓rs_cons, ↓frzS_v, ↓frzS_n, ↓asgs_nil, ↓asgs_cons, ↓rd_z, ↓rd_s, ↓set_z, ↓set_s, ↓at_mk, ↓isJar_j, ↓der_v, ↓der_n, ↓der_sl, ↓frz_v, ↓frz_n, ↓frz_sl, ↓asg_v, ↓asg_n, ↓asg_sl, ↓opW, ↓cmpW, ↓eqw_int, ↓eqw_str, ↓eqw_tup, ↓eqw_lst, ↓ordW, ↓truW, ↓noOw, ↓ixW, ↓biW, ↓tgW, ↓tgsW, ↓opwW, ↓itW, ↓wipe_nil, ↓wipe_cons, ↓unwipe, ↓isOw, true_and, Bool.and_true, Bool.not_true, Bool.not_false, Bool.false_eq_true, ↓reduceIte, ↓blk_ap, pD, q0, q1]
  refine p_gcd (n := n + 2) ?_
  try simp -implicitDefEqProofs only [↓s_cs, ↓nx_ap, ↓s_nil, ↓s_set, ↓s_par, ↓s_unp, ↓s_ret, ↓s_retN, ↓s_drop, ↓s_if, ↓s_whl, ↓s_for, ↓s_app, ↓s_ext, ↓s_put, ↓s_ja, ↓s_ji, ↓s_js, ↓s_jl, ↓s_rais, ↓s_pass, ↓s_brk, ↓s_cont, ↓s_tri, ↓hd_nil, ↓hd_cons, ↓un_s, ↓un_n, ↓hu_ret, ↓hu_ifr, ↓hx_b, ↓hx_s, ↓hx_i, ↓hx_n, ↓hx_fld, ↓hx_isA, ↓hx_nt, ↓hx_and, ↓hx_ite, ↓hx_lst, ↓hx_tup, ↓hxs_nil, ↓hxs_cons, ↓ra_none, ↓ra_some, ↓x_calldB, ↓x_lw, ↓x_dct0, ↓x_v, ↓x_i, ↓x_b, ↓x_n, ↓x_st, ↓x_g, ↓x_tup, ↓x_lst, ↓x_bin, ↓x_neg, ↓x_nt, ↓x_cmp, ↓x_chain, ↓x_isN, ↓x_notN, ↓x_and, ↓x_or, ↓x_ite, ↓x_ix, ↓x_cut, ↓x_rev, ↓x_stp, ↓x_callB, ↓x_callkB, ↓x_bi, ↓x_comp, ↓x_pop, ↓x_popA, ↓x_jg, ↓x_jn, ↓x_jp, ↓x_scut, ↓x_slen, ↓srcK, ↓srcL, ↓t_yes, ↓t_and', ↓t_or', ↓t_nt', ↓t_ex, ↓e_nil, ↓e_cons, ↓a_nil', ↓a_cons', ↓rs_nil, ↓rs_cons, ↓frzS_v, ↓frzS_n, ↓asgs_nil, ↓asgs_cons, ↓rd_z, ↓rd_s, ↓set_z, ↓set_s, ↓at_mk, ↓isJar_j, ↓der_v, ↓der_n, ↓der_sl, ↓frz_v, ↓frz_n, ↓frz_sl, ↓asg_v, ↓asg_n, ↓asg_sl, ↓opW, ↓cmpW, ↓eqw_int, ↓eqw_str, ↓eqw_tup, ↓eqw_lst, ↓ordW, ↓truW, ↓noOw, ↓ixW, ↓biW, ↓tgW, ↓tgsW, ↓opwW, ↓itW, ↓wipe_nil, ↓wipe_cons, ↓unwipe, ↓isOw, true_and, Bool.and_true, Bool.not_true, Bool.not_false, Bool.false_eq_true, ↓reduceIte, ↓blk_ap]
  have gl := gcd_le hu
  have dv : 0 < Int.gcd u.1 u.2 → DivOk ((Int.gcd u.1 u.2 : Nat) : Int) := fun q => .inr ⟨by omega, by omega⟩
  have rest : ∀ (ds : List D), .list ds = toldF u → stsW (callW T (n + 3)) sub (match d11.b with | .cons _ (.cons _ (.cons _ (.cons _ r))) => r | _ => .nil) ⟨[.fz JAR, .fz (pD u), .fz (pD v), .fz (.str (PyData.list [pD u, pD v]).shown), .fz (.int ((Int.gcd u.1 u.2 : Nat) : Int)), .ow ds, .un, .un], g2⟩ { nx := fun r => K .none r.g, rt := fun d r => K d r.g, bk := fun _ => False, ct := fun _ => False, ex := fun e r => X e r.g } := by
    intro ds ed
    simp -implicitDefEqProofs only [↓s_cs, ↓nx_ap, ↓s_nil, ↓s_set, ↓s_par, ↓s_unp, ↓s_ret, ↓s_retN, ↓s_drop, ↓s_if, ↓s_whl, ↓s_for, ↓s_app, ↓s_ext, ↓s_put, ↓s_ja, ↓s_ji, ↓s_js, ↓s_jl, ↓s_rais, ↓s_pass, ↓s_brk, ↓s_cont, ↓s_tri, ↓hd_nil, ↓hd_cons, ↓un_s, ↓un_n, ↓hu_ret, ↓hu_ifr, ↓hx_b, ↓hx_s, ↓hx_i, ↓hx_n, ↓hx_fld, ↓hx_isA, ↓hx_nt, ↓hx_and, ↓hx_ite, ↓hx_lst, ↓hx_tup, ↓hxs_nil, ↓hxs_cons, ↓ra_none, ↓ra_some, ↓x_calldB, ↓x_lw, ↓x_dct0, ↓x_v, ↓x_i, ↓x_b, ↓x_n, ↓x_st, ↓x_g, ↓x_tup, ↓x_lst, ↓x_bin, ↓x_neg, ↓x_nt, ↓x_cmp, ↓x_chain, ↓x_isN, ↓x_notN, ↓x_and, ↓x_or, ↓x_ite, ↓x_ix, ↓x_cut, ↓x_rev, ↓x_stp, ↓x_callB, ↓x_callkB, ↓x_bi, ↓x_comp, ↓x_pop, ↓x_popA, ↓x_jg, ↓x_jn, ↓x_jp, ↓x_scut, ↓x_slen, ↓srcK, ↓srcL, ↓t_yes, ↓t_and', ↓t_or', ↓t_nt', ↓t_ex, ↓e_nil, ↓e_cons, ↓a_nil', ↓a_cons', ↓rs_nil, ↓rs_cons, ↓frzS_v, ↓frzS_n, ↓asgs_nil, ↓asgs_cons, ↓rd_z, ↓rd_s, ↓set_z, ↓set_s, ↓at_mk, ↓isJar_j, ↓der_v, ↓der_n, ↓der_sl, ↓frz_v, ↓frz_n, ↓frz_sl, ↓asg_v, ↓asg_n, ↓asg_sl, ↓opW, ↓cmpW, ↓eqw_int, ↓eqw_str, ↓eqw_tup, ↓eqw_lst, ↓ordW, ↓truW, ↓noOw, ↓ixW, ↓biW, ↓tgW, ↓tgsW, ↓opwW, ↓itW, ↓wipe_nil, ↓wipe_cons, ↓unwipe, ↓isOw, true_and, Bool.and_true, Bool.not_true, Bool.not_false, Bool.false_eq_true, ↓reduceIte, ↓blk_ap, ↓d11]
    refine p_det (n := n + 2) hu ?_
    have ls : ∀ a c : D, List.map (fun p => ([] ++ [a, c]).getD p PyData.none) [1, 0] = [c, a] := fun _ _ => rfl
    have lst : ∀ v : D, List.map (fun p => ([] ++ [v]).getD p PyData.none) [0] = [v] := fun _ => rfl
    try simp -implicitDefEqProofs only [↓s_cs, ↓nx_ap, ↓s_nil, ↓s_set, ↓s_par, ↓s_unp, ↓s_ret, ↓s_retN, ↓s_drop, ↓s_if, ↓s_whl, ↓s_for, ↓s_app, ↓s_ext, ↓s_put, ↓s_ja, ↓s_ji, ↓s_js, ↓s_jl, ↓s_rais, ↓s_pass, ↓s_brk, ↓s_cont, ↓s_tri, ↓hd_nil, ↓hd_cons, ↓un_s, ↓un_n, ↓hu_ret, ↓hu_ifr, ↓hx_b, ↓hx_s, ↓hx_i, ↓hx_n, ↓hx_fld, ↓hx_isA, ↓hx_nt, ↓hx_and, ↓hx_ite, ↓hx_lst, ↓hx_tup, ↓hxs_nil, ↓hxs_cons, ↓ra_none, ↓ra_some, ↓x_calldB, ↓x_lw, ↓x_dct0, ↓x_v, ↓x_i, ↓x_b, ↓x_n, ↓x_st, ↓x_g, ↓x_tup, ↓x_lst, ↓x_bin, ↓x_neg, ↓x_nt, ↓x_cmp, ↓x_chain, ↓x_isN, ↓x_notN, ↓x_and, ↓x_or, ↓x_ite, ↓x_ix, ↓x_cut, ↓x_rev, ↓x_stp, ↓x_callB, ↓x_callkB, ↓x_bi, ↓x_comp, ↓x_pop, ↓x_popA, ↓x_jg, ↓x_jn, ↓x_jp, ↓x_scut, ↓x_slen, ↓srcK, ↓srcL, ↓t_yes, ↓t_and', ↓t_or', ↓t_nt', ↓t_ex, ↓e_nil, ↓e_cons, ↓a_nil', ↓a_cons', ↓rs_nil, ↓rs_cons, ↓frzS_v, ↓frzS_n, ↓asgs_nil, ↓asgs_cons, ↓rd_z, ↓rd_s, ↓set_z, ↓set_s, ↓at_mk, ↓isJar_j, ↓der_v, ↓der_n, ↓der_sl, ↓frz_v, ↓frz_n, ↓frz_sl, ↓asg_v, ↓asg_n, ↓asg_sl, ↓opW, ↓cmpW, ↓eqw_int, ↓eqw_str, ↓eqw_tup, ↓eqw_lst, ↓ordW, ↓truW, ↓noOw, ↓ixW, ↓biW, ↓tgW, ↓tgsW, ↓opwW, ↓itW, ↓wipe_nil, ↓wipe_cons, ↓unwipe, ↓isOw, true_and, Bool.and_true, Bool.not_true, Bool.not_false, Bool.false_eq_true, ↓reduceIte, ↓blk_ap, ls]
    refine p_det (n := n + 2) hu ?_
    try simp -implicitDefEqProofs only [↓s_cs, ↓nx_ap, ↓s_nil, ↓s_set, ↓s_par, ↓s_unp, ↓s_ret, ↓s_retN, ↓s_drop, ↓s_if, ↓s_whl, ↓s_for, ↓s_app, ↓s_ext, ↓s_put, ↓s_ja, ↓s_ji, ↓s_js, ↓s_jl, ↓s_rais, ↓s_pass, ↓s_brk, ↓s_cont, ↓s_tri, ↓hd_nil, ↓hd_cons, ↓un_s, ↓un_n, ↓hu_ret, ↓hu_ifr, ↓hx_b, ↓hx_s, ↓hx_i, ↓hx_n, ↓hx_fld, ↓hx_isA, ↓hx_nt, ↓hx_and, ↓hx_ite, ↓hx_lst, ↓hx_tup, ↓hxs_nil, ↓hxs_cons, ↓ra_none, ↓ra_some, ↓x_calldB, ↓x_lw, ↓x_dct0, ↓x_v, ↓x_i, ↓x_b, ↓x_n, ↓x_st, ↓x_g, ↓x_tup, ↓x_lst, ↓x_bin, ↓x_neg, ↓x_nt, ↓x_cmp, ↓x_chain, ↓x_isN, ↓x_notN, ↓x_and, ↓x_or, ↓x_ite, ↓x_ix, ↓x_cut, ↓x_rev, ↓x_stp, ↓x_callB, ↓x_callkB, ↓x_bi, ↓x_comp, ↓x_pop, ↓x_popA, ↓x_jg, ↓x_jn, ↓x_jp, ↓x_scut, ↓x_slen, ↓srcK, ↓srcL, ↓t_yes, ↓t_and', ↓t_or', ↓t_nt', ↓t_ex, ↓e_nil, ↓e_cons, ↓a_nil', ↓a_cons', ↓rs_nil, ↓rs_cons, ↓frzS_v, ↓frzS_n, ↓asgs_nil, ↓asgs_cons, ↓rd_z, ↓rd_s, ↓set_z, ↓set_s, ↓at_mk, ↓isJar_j, ↓der_v, ↓der_n, ↓der_sl, ↓frz_v, ↓frz_n, ↓frz_sl, ↓asg_v, ↓asg_n, ↓asg_sl, ↓opW, ↓cmpW, ↓eqw_int, ↓eqw_str, ↓eqw_tup, ↓eqw_lst, ↓ordW, ↓truW, ↓noOw, ↓ixW, ↓biW, ↓tgW, ↓tgsW, ↓opwW, ↓itW, ↓wipe_nil, ↓wipe_cons, ↓unwipe, ↓isOw, true_and, Bool.and_true, Bool.not_true, Bool.not_false, Bool.false_eq_true, ↓reduceIte, ↓blk_ap]
    refine p_det (n := n + 2) hv ?_
    try simp -implicitDefEqProofs only [↓s_cs, ↓nx_ap, ↓s_nil, ↓s_set, ↓s_par, ↓s_unp, ↓s_ret, ↓s_retN, ↓s_drop, ↓s_if, ↓s_whl, ↓s_for, ↓s_app, ↓s_ext, ↓s_put, ↓s_ja, ↓s_ji, ↓s_js, ↓s_jl, ↓s_rais, ↓s_pass, ↓s_brk, ↓s_cont, ↓s_tri, ↓hd_nil, ↓hd_cons, ↓un_s, ↓un_n, ↓hu_ret, ↓hu_ifr, ↓hx_b, ↓hx_s, ↓hx_i, ↓hx_n, ↓hx_fld, ↓hx_isA, ↓hx_nt, ↓hx_and, ↓hx_ite, ↓hx_lst, ↓hx_tup, ↓hxs_nil, ↓hxs_cons, ↓ra_none, ↓ra_some, ↓x_calldB, ↓x_lw, ↓x_dct0, ↓x_v, ↓x_i, ↓x_b, ↓x_n, ↓x_st, ↓x_g, ↓x_tup, ↓x_lst, ↓x_bin, ↓x_neg, ↓x_nt, ↓x_cmp, ↓x_chain, ↓x_isN, ↓x_notN, ↓x_and, ↓x_or, ↓x_ite, ↓x_ix, ↓x_cut, ↓x_rev, ↓x_stp, ↓x_callB, ↓x_callkB, ↓x_bi, ↓x_comp, ↓x_pop, ↓x_popA, ↓x_jg, ↓x_jn, ↓x_jp, ↓x_scut, ↓x_slen, ↓srcK, ↓srcL, ↓t_yes, ↓t_and', ↓t_or', ↓t_nt', ↓t_ex, ↓e_nil, ↓e_cons, ↓a_nil', ↓a_cons', ↓rs_nil, ↓rs_cons, ↓frzS_v, ↓frzS_n, ↓asgs_nil, ↓asgs_cons, ↓rd_z, ↓rd_s, ↓set_z, ↓set_s, ↓at_mk, ↓isJar_j, ↓der_v, ↓der_n, ↓der_sl, ↓frz_v, ↓frz_n, ↓frz_sl, ↓asg_v, ↓asg_n, ↓asg_sl, ↓opW, ↓cmpW, ↓eqw_int, ↓eqw_str, ↓eqw_tup, ↓eqw_lst, ↓ordW, ↓truW, ↓noOw, ↓ixW, ↓biW, ↓tgW, ↓tgsW, ↓opwW, ↓itW, ↓wipe_nil, ↓wipe_cons, ↓unwipe, ↓isOw, true_and, Bool.and_true, Bool.not_true, Bool.not_false, Bool.false_eq_true, ↓reduceIte, ↓blk_ap]
    refine p_steps (n := n + 2) ?_
    try simp -implicitDefEqProofs only [↓s_cs, ↓nx_ap, ↓s_nil, ↓s_set, ↓s_par, ↓s_unp, ↓s_ret, ↓s_retN, ↓s_drop, ↓s_if, ↓s_whl, ↓s_for, ↓s_app, ↓s_ext, ↓s_put, ↓s_ja, ↓s_ji, ↓s_js, ↓s_jl, ↓s_rais, ↓s_pass, ↓s_brk, ↓s_cont, ↓s_tri, ↓hd_nil, ↓hd_cons, ↓un_s, ↓un_n, ↓hu_ret, ↓hu_ifr, ↓hx_b, ↓hx_s, ↓hx_i, ↓hx_n, ↓hx_fld, ↓hx_isA, ↓hx_nt, ↓hx_and, ↓hx_ite, ↓hx_lst, ↓hx_tup, ↓hxs_nil, ↓hxs_cons, ↓ra_none, ↓ra_some, ↓x_calldB, ↓x_lw, ↓x_dct0, ↓x_v, ↓x_i, ↓x_b, ↓x_n, ↓x_st, ↓x_g, ↓x_tup, ↓x_lst, ↓x_bin, ↓x_neg, ↓x_nt, ↓x_cmp, ↓x_chain, ↓x_isN, ↓x_notN, ↓x_and, ↓x_or, ↓x_ite, ↓x_ix, ↓x_cut, ↓x_rev, ↓x_stp, ↓x_callB, ↓x_callkB, ↓x_bi, ↓x_comp, ↓x_pop, ↓x_popA, ↓x_jg, ↓x_jn, ↓x_jp, ↓x_scut, ↓x_slen, ↓srcK, ↓srcL, ↓t_yes, ↓t_and', ↓t_or', ↓t_nt', ↓t_ex, ↓e_nil, ↓e_cons, ↓a_nil', ↓a_cons', ↓rs_nil, ↓rs_cons, ↓frzS_v, ↓frzS_n, ↓asgs_nil, ↓asgs_cons, ↓rd_z, ↓rd_s, ↓set_z, ↓set_s, ↓at_mk, ↓isJar_j, ↓der_v, ↓der_n, ↓der_sl, ↓frz_v, ↓frz_n, ↓frz_sl, ↓asg_v, ↓asg_n, ↓asg_sl, ↓opW, ↓cmpW, ↓eqw_int, ↓eqw_str, ↓eqw_tup, ↓eqw_lst, ↓ordW, ↓truW, ↓noOw, ↓ixW, ↓biW, ↓tgW, ↓tgsW, ↓opwW, ↓itW, ↓wipe_nil, ↓wipe_cons, ↓unwipe, ↓isOw, true_and, Bool.and_true, Bool.not_true, Bool.not_false, Bool.false_eq_true, ↓reduceIte, ↓blk_ap, lst]
    refine p_steps (n := n + 2) ?_
    try simp -implicitDefEqProofs only [↓s_cs, ↓nx_ap, ↓s_nil, ↓s_set, ↓s_par, ↓s_unp, ↓s_ret, ↓s_retN, ↓s_drop, ↓s_if, ↓s_whl, ↓s_for, ↓s_app, ↓s_ext, ↓s_put, ↓s_ja, ↓s_ji, ↓s_js, ↓s_jl, ↓s_rais, ↓s_pass, ↓s_brk, ↓s_cont, ↓s_tri, ↓hd_nil, ↓hd_cons, ↓un_s, ↓un_n, ↓hu_ret, ↓hu_ifr, ↓hx_b, ↓hx_s, ↓hx_i, ↓hx_n, ↓hx_fld, ↓hx_isA, ↓hx_nt, ↓hx_and, ↓hx_ite, ↓hx_lst, ↓hx_tup, ↓hxs_nil, ↓hxs_cons, ↓ra_none, ↓ra_some, ↓x_calldB, ↓x_lw, ↓x_dct0, ↓x_v, ↓x_i, ↓x_b, ↓x_n, ↓x_st, ↓x_g, ↓x_tup, ↓x_lst, ↓x_bin, ↓x_neg, ↓x_nt, ↓x_cmp, ↓x_chain, ↓x_isN, ↓x_notN, ↓x_and, ↓x_or, ↓x_ite, ↓x_ix, ↓x_cut, ↓x_rev, ↓x_stp, ↓x_callB, ↓x_callkB, ↓x_bi, ↓x_comp, ↓x_pop, ↓x_popA, ↓x_jg, ↓x_jn, ↓x_jp, ↓x_scut, ↓x_slen, ↓srcK, ↓srcL, ↓t_yes, ↓t_and', ↓t_or', ↓t_nt', ↓t_ex, ↓e_nil, ↓e_cons, ↓a_nil', ↓a_cons', ↓rs_nil, ↓rs_cons, ↓frzS_v, ↓frzS_n, ↓asgs_nil, ↓asgs_cons, ↓rd_z, ↓rd_s, ↓set_z, ↓set_s, ↓at_mk, ↓isJar_j, ↓der_v, ↓der_n, ↓der_sl, ↓frz_v, ↓frz_n, ↓frz_sl, ↓asg_v, ↓asg_n, ↓asg_sl, ↓opW, ↓cmpW, ↓eqw_int, ↓eqw_str, ↓eqw_tup, ↓eqw_lst, ↓ordW, ↓truW, ↓noOw, ↓ixW, ↓biW, ↓tgW, ↓tgsW, ↓opwW, ↓itW, ↓wipe_nil, ↓wipe_cons, ↓unwipe, ↓isOw, true_and, Bool.and_true, Bool.not_true, Bool.not_false, Bool.false_eq_true, ↓reduceIte, ↓blk_ap]
    refine p_ldet (n := n + 2) hu ?_
    try simp -implicitDefEqProofs only [↓s_cs, ↓nx_ap, ↓s_nil, ↓s_set, ↓s_par, ↓s_unp, ↓s_ret, ↓s_retN, ↓s_drop, ↓s_if, ↓s_whl, ↓s_for, ↓s_app, ↓s_ext, ↓s_put, ↓s_ja, ↓s_ji, ↓s_js, ↓s_jl, ↓s_rais, ↓s_pass, ↓s_brk, ↓s_cont, ↓s_tri, ↓hd_nil, ↓hd_cons, ↓un_s, ↓un_n, ↓hu_ret, ↓hu_ifr, ↓hx_b, ↓hx_s, ↓hx_i, ↓hx_n, ↓hx_fld, ↓hx_isA, ↓hx_nt, ↓hx_and, ↓hx_ite, ↓hx_lst, ↓hx_tup, ↓hxs_nil, ↓hxs_cons, ↓ra_none, ↓ra_some, ↓x_calldB, ↓x_lw, ↓x_dct0, ↓x_v, ↓x_i, ↓x_b, ↓x_n, ↓x_st, ↓x_g, ↓x_tup, ↓x_lst, ↓x_bin, ↓x_neg, ↓x_nt, ↓x_cmp, ↓x_chain, ↓x_isN, ↓x_notN, ↓x_and, ↓x_or, ↓x_ite, ↓x_ix, ↓x_cut, ↓x_rev, ↓x_stp, ↓x_callB, ↓x_callkB, ↓x_bi, ↓x_comp, ↓x_pop, ↓x_popA, ↓x_jg, ↓x_jn, ↓x_jp, ↓x_scut, ↓x_slen, ↓srcK, ↓srcL, ↓t_yes, ↓t_and', ↓t_or', ↓t_nt', ↓t_ex, ↓e_nil, ↓e_cons, ↓a_nil', ↓a_cons', ↓rs_nil, ↓rs_cons, ↓frzS_v, ↓frzS_n, ↓asgs_nil, ↓asgs_cons, ↓rd_z, ↓rd_s, ↓set_z, ↓set_s, ↓at_mk, ↓isJar_j, ↓der_v, ↓der_n, ↓der_sl, ↓frz_v, ↓frz_n, ↓frz_sl, ↓asg_v, ↓asg_n, ↓asg_sl, ↓opW, ↓cmpW, ↓eqw_int, ↓eqw_str, ↓eqw_tup, ↓eqw_lst, ↓ordW, ↓truW, ↓noOw, ↓ixW, ↓biW, ↓tgW, ↓tgsW, ↓opwW, ↓itW, ↓wipe_nil, ↓wipe_cons, ↓unwipe, ↓isOw, true_and, Bool.and_true, Bool.not_true, Bool.not_false, Bool.false_eq_true, ↓reduceIte, ↓blk_ap]
    refine ⟨by decide, by decide, by show 1 * 2 ≤ SZ; decide, ?_⟩
    refine p_ldet (n := n + 2) hv ?_
    have r2 : ∀ x : D, (List.replicate (Int.toNat 2) [x]).flatten = [x, x] := fun _ => rfl
    try simp -implicitDefEqProofs only [↓s_cs, ↓nx_ap, ↓s_nil, ↓s_set, ↓s_par, ↓s_unp, ↓s_ret, ↓s_retN, ↓s_drop, ↓s_if, ↓s_whl, ↓s_for, ↓s_app, ↓s_ext, ↓s_put, ↓s_ja, ↓s_ji, ↓s_js, ↓s_jl, ↓s_rais, ↓s_pass, ↓s_brk, ↓s_cont, ↓s_tri, ↓hd_nil, ↓hd_cons, ↓un_s, ↓un_n, ↓hu_ret, ↓hu_ifr, ↓hx_b, ↓hx_s, ↓hx_i, ↓hx_n, ↓hx_fld, ↓hx_isA, ↓hx_nt, ↓hx_and, ↓hx_ite, ↓hx_lst, ↓hx_tup, ↓hxs_nil, ↓hxs_cons, ↓ra_none, ↓ra_some, ↓x_calldB, ↓x_lw, ↓x_dct0, ↓x_v, ↓x_i, ↓x_b, ↓x_n, ↓x_st, ↓x_g, ↓x_tup, ↓x_lst, ↓x_bin, ↓x_neg, ↓x_nt, ↓x_cmp, ↓x_chain, ↓x_isN, ↓x_notN, ↓x_and, ↓x_or, ↓x_ite, ↓x_ix, ↓x_cut, ↓x_rev, ↓x_stp, ↓x_callB, ↓x_callkB, ↓x_bi, ↓x_comp, ↓x_pop, ↓x_popA, ↓x_jg, ↓x_jn, ↓x_jp, ↓x_scut, ↓x_slen, ↓srcK, ↓srcL, ↓t_yes, ↓t_and', ↓t_or', ↓t_nt', ↓t_ex, ↓e_nil, ↓e_cons, ↓a_nil', ↓a_cons', ↓rs_nil, ↓rs_cons, ↓frzS_v, ↓frzS_n, ↓asgs_nil, ↓asgs_cons, ↓rd_z, ↓rd_s, ↓set_z, ↓set_s, ↓at_mk, ↓isJar_j, ↓der_v, ↓der_n, ↓der_sl, ↓frz_v, ↓frz_n, ↓frz_sl, ↓asg_v, ↓asg_n, ↓asg_sl, ↓opW, ↓cmpW, ↓eqw_int, ↓eqw_str, ↓eqw_tup, ↓eqw_lst, ↓ordW, ↓truW, ↓noOw, ↓ixW, ↓biW, ↓tgW, ↓tgsW, ↓opwW, ↓itW, ↓wipe_nil, ↓wipe_cons, ↓unwipe, ↓isOw, true_and, Bool.and_true, Bool.not_true, Bool.not_false, Bool.false_eq_true, ↓reduceIte, ↓blk_ap, r2]
    refine ⟨by show 2 + 1 ≤ SZ; decide, by decide, by decide, by show 1 * 2 ≤ SZ; decide, by show 3 + 2 ≤ SZ; decide, ?_⟩
    refine p_told (n := n) hu ?_
    try simp -implicitDefEqProofs only [↓s_cs, ↓nx_ap, ↓s_nil, ↓s_set, ↓s_par, ↓s_unp, ↓s_ret, ↓s_retN, ↓s_drop, ↓s_if, ↓s_whl, ↓s_for, ↓s_app, ↓s_ext, ↓s_put, ↓s_ja, ↓s_ji, ↓s_js, ↓s_jl, ↓s_rais, ↓s_pass, ↓s_brk, ↓s_cont, ↓s_tri, ↓hd_nil, ↓hd_cons, ↓un_s, ↓un_n, ↓hu_ret, ↓hu_ifr, ↓hx_b, ↓hx_s, ↓hx_i, ↓hx_n, ↓hx_fld, ↓hx_isA, ↓hx_nt, ↓hx_and, ↓hx_ite, ↓hx_lst, ↓hx_tup, ↓hxs_nil, ↓hxs_cons, ↓ra_none, ↓ra_some, ↓x_calldB, ↓x_lw, ↓x_dct0, ↓x_v, ↓x_i, ↓x_b, ↓x_n, ↓x_st, ↓x_g, ↓x_tup, ↓x_lst, ↓x_bin, ↓x_neg, ↓x_nt, ↓x_cmp, ↓x_chain, ↓x_isN, ↓x_notN, ↓x_and, ↓x_or, ↓x_ite, ↓x_ix, ↓x_cut, ↓x_rev, ↓x_stp, ↓x_callB, ↓x_callkB, ↓x_bi, ↓x_comp, ↓x_pop, ↓x_popA, ↓x_jg, ↓x_jn, ↓x_jp, ↓x_scut, ↓x_slen, ↓srcK, ↓srcL, ↓t_yes, ↓t_and', ↓t_or', ↓t_nt', ↓t_ex, ↓e_nil, ↓e_cons, ↓a_nil', ↓a_cons', ↓rs_nil, ↓rs_cons, ↓frzS_v, ↓frzS_n, ↓asgs_nil, ↓asgs_cons, ↓rd_z, ↓rd_s, ↓set_z, ↓set_s, ↓at_mk, ↓isJar_j, ↓der_v, ↓der_n, ↓der_sl, ↓frz_v, ↓frz_n, ↓frz_sl, ↓asg_v, ↓asg_n, ↓asg_sl, ↓opW, ↓cmpW, ↓eqw_int, ↓eqw_str, ↓eqw_tup, ↓eqw_lst, ↓ordW, ↓truW, ↓noOw, ↓ixW, ↓biW, ↓tgW, ↓tgsW, ↓opwW, ↓itW, ↓wipe_nil, ↓wipe_cons, ↓unwipe, ↓isOw, true_and, Bool.and_true, Bool.not_true, Bool.not_false, Bool.false_eq_true, ↓reduceIte, ↓blk_ap]
    refine p_told (n := n) hu ?_
    try simp -implicitDefEqProofs only [↓s_cs, ↓nx_ap, ↓s_nil, ↓s_set, ↓s_par, ↓s_unp, ↓s_ret, ↓s_retN, ↓s_drop, ↓s_if, ↓s_whl, ↓s_for, ↓s_app, ↓s_ext, ↓s_put, ↓s_ja, ↓s_ji, ↓s_js, ↓s_jl, ↓s_rais, ↓s_pass, ↓s_brk, ↓s_cont, ↓s_tri, ↓hd_nil, ↓hd_cons, ↓un_s, ↓un_n, ↓hu_ret, ↓hu_ifr, ↓hx_b, ↓hx_s, ↓hx_i, ↓hx_n, ↓hx_fld, ↓hx_isA, ↓hx_nt, ↓hx_and, ↓hx_ite, ↓hx_lst, ↓hx_tup, ↓hxs_nil, ↓hxs_cons, ↓ra_none, ↓ra_some, ↓x_calldB, ↓x_lw, ↓x_dct0, ↓x_v, ↓x_i, ↓x_b, ↓x_n, ↓x_st, ↓x_g, ↓x_tup, ↓x_lst, ↓x_bin, ↓x_neg, ↓x_nt, ↓x_cmp, ↓x_chain, ↓x_isN, ↓x_notN, ↓x_and, ↓x_or, ↓x_ite, ↓x_ix, ↓x_cut, ↓x_rev, ↓x_stp, ↓x_callB, ↓x_callkB, ↓x_bi, ↓x_comp, ↓x_pop, ↓x_popA, ↓x_jg, ↓x_jn, ↓x_jp, ↓x_scut, ↓x_slen, ↓srcK, ↓srcL, ↓t_yes, ↓t_and', ↓t_or', ↓t_nt', ↓t_ex, ↓e_nil, ↓e_cons, ↓a_nil', ↓a_cons', ↓rs_nil, ↓rs_cons, ↓frzS_v, ↓frzS_n, ↓asgs_nil, ↓asgs_cons, ↓rd_z, ↓rd_s, ↓set_z, ↓set_s, ↓at_mk, ↓isJar_j, ↓der_v, ↓der_n, ↓der_sl, ↓frz_v, ↓frz_n, ↓frz_sl, ↓asg_v, ↓asg_n, ↓asg_sl, ↓opW, ↓cmpW, ↓eqw_int, ↓eqw_str, ↓eqw_tup, ↓eqw_lst, ↓ordW, ↓truW, ↓noOw, ↓ixW, ↓biW, ↓tgW, ↓tgsW, ↓opwW, ↓itW, ↓wipe_nil, ↓wipe_cons, ↓unwipe, ↓isOw, true_and, Bool.and_true, Bool.not_true, Bool.not_false, Bool.false_eq_true, ↓reduceIte, ↓blk_ap, ed]
    have vt : G.Val 3 100000 (.list [.int (dt u v), .int (dt u v), .int (dt v u), .int ((Int.gcd u.1 u.2 : Nat) : Int), .int ((Int.gcd u.1 u.2 : Nat) : Int), toldF u, toldF u]) := lst_val (dp := 2) (fun d hd => by
      simp only [List.mem_cons, List.not_mem_nil, or_false] at hd
      rcases hd with rfl | rfl | rfl | rfl | rfl | rfl | rfl
      · exact (i_val (k := 800) (dt_bd hu hv) (by decide)).mono (by decide) (Nat.le_refl _)
      · exact (i_val (k := 800) (dt_bd hu hv) (by decide)).mono (by decide) (Nat.le_refl _)
      · exact (i_val (k := 800) (dt_bd hv hu) (by decide)).mono (by decide) (Nat.le_refl _)
      · exact (i_val (k := 800) (b60 ⟨by omega, by omega⟩) (by decide)).mono (by decide) (Nat.le_refl _)
      · exact (i_val (k := 800) (b60 ⟨by omega, by omega⟩) (by decide)).mono (by decide) (Nat.le_refl _)
      · exact told_val hu
      · exact told_val hu) (by show 7 ≤ 100; decide)
    refine ⟨by show 5 + 2 ≤ SZ; decide, vt.rp (by decide) z1 ⟨by show 5 + 2 ≤ SZ; decide, vt.rp (by decide) z1 ?_⟩⟩
    have ee : ∀ x : Str, decide (x = x) = true := fun x => decide_eq_true rfl
    refine (if_pos (decide_eq_true rfl)).mpr ?_
    refine vk.rp (by decide) z1 ?_
    have hh := h g2 hg2
    simpa using hh
  by_cases q : 0 < Int.gcd u.1 u.2
  · rw [if_pos (decide_eq_true (show (0 : Int) < ((Int.gcd u.1 u.2 : Nat) : Int) by omega))]
    have := rest [.str "told", primF u] (by unfold toldF; rw [if_pos q])
    simp only [d11] at this
    refine ⟨dv q, dv q, ?_⟩
    try simp -implicitDefEqProofs only [↓s_cs, ↓nx_ap, ↓s_nil, ↓s_set, ↓s_par, ↓s_unp, ↓s_ret, ↓s_retN, ↓s_drop, ↓s_if, ↓s_whl, ↓s_for, ↓s_app, ↓s_ext, ↓s_put, ↓s_ja, ↓s_ji, ↓s_js, ↓s_jl, ↓s_rais, ↓s_pass, ↓s_brk, ↓s_cont, ↓s_tri, ↓hd_nil, ↓hd_cons, ↓un_s, ↓un_n, ↓hu_ret, ↓hu_ifr, ↓hx_b, ↓hx_s, ↓hx_i, ↓hx_n, ↓hx_fld, ↓hx_isA, ↓hx_nt, ↓hx_and, ↓hx_ite, ↓hx_lst, ↓hx_tup, ↓hxs_nil, ↓hxs_cons, ↓ra_none, ↓ra_some, ↓x_calldB, ↓x_lw, ↓x_dct0, ↓x_v, ↓x_i, ↓x_b, ↓x_n, ↓x_st, ↓x_g, ↓x_tup, ↓x_lst, ↓x_bin, ↓x_neg, ↓x_nt, ↓x_cmp, ↓x_chain, ↓x_isN, ↓x_notN, ↓x_and, ↓x_or, ↓x_ite, ↓x_ix, ↓x_cut, ↓x_rev, ↓x_stp, ↓x_callB, ↓x_callkB, ↓x_bi, ↓x_comp, ↓x_pop, ↓x_popA, ↓x_jg, ↓x_jn, ↓x_jp, ↓x_scut, ↓x_slen, ↓srcK, ↓srcL, ↓t_yes, ↓t_and', ↓t_or', ↓t_nt', ↓t_ex, ↓e_nil, ↓e_cons, ↓a_nil', ↓a_cons', ↓rs_nil, ↓rs_cons, ↓frzS_v, ↓frzS_n, ↓asgs_nil, ↓asgs_cons, ↓rd_z, ↓rd_s, ↓set_z, ↓set_s, ↓at_mk, ↓isJar_j, ↓der_v, ↓der_n, ↓der_sl, ↓frz_v, ↓frz_n, ↓frz_sl, ↓asg_v, ↓asg_n, ↓asg_sl, ↓opW, ↓cmpW, ↓eqw_int, ↓eqw_str, ↓eqw_tup, ↓eqw_lst, ↓ordW, ↓truW, ↓noOw, ↓ixW, ↓biW, ↓tgW, ↓tgsW, ↓opwW, ↓itW, ↓wipe_nil, ↓wipe_cons, ↓unwipe, ↓isOw, true_and, Bool.and_true, Bool.not_true, Bool.not_false, Bool.false_eq_true, ↓reduceIte, ↓blk_ap] at this
    exact this
  · rw [if_neg (by rw [decide_eq_true_eq]; omega)]
    have := rest [.str "unfit", .bool true] (by unfold toldF; rw [if_neg q])
    simp only [d11] at this
    try simp -implicitDefEqProofs only [↓s_cs, ↓nx_ap, ↓s_nil, ↓s_set, ↓s_par, ↓s_unp, ↓s_ret, ↓s_retN, ↓s_drop, ↓s_if, ↓s_whl, ↓s_for, ↓s_app, ↓s_ext, ↓s_put, ↓s_ja, ↓s_ji, ↓s_js, ↓s_jl, ↓s_rais, ↓s_pass, ↓s_brk, ↓s_cont, ↓s_tri, ↓hd_nil, ↓hd_cons, ↓un_s, ↓un_n, ↓hu_ret, ↓hu_ifr, ↓hx_b, ↓hx_s, ↓hx_i, ↓hx_n, ↓hx_fld, ↓hx_isA, ↓hx_nt, ↓hx_and, ↓hx_ite, ↓hx_lst, ↓hx_tup, ↓hxs_nil, ↓hxs_cons, ↓ra_none, ↓ra_some, ↓x_calldB, ↓x_lw, ↓x_dct0, ↓x_v, ↓x_i, ↓x_b, ↓x_n, ↓x_st, ↓x_g, ↓x_tup, ↓x_lst, ↓x_bin, ↓x_neg, ↓x_nt, ↓x_cmp, ↓x_chain, ↓x_isN, ↓x_notN, ↓x_and, ↓x_or, ↓x_ite, ↓x_ix, ↓x_cut, ↓x_rev, ↓x_stp, ↓x_callB, ↓x_callkB, ↓x_bi, ↓x_comp, ↓x_pop, ↓x_popA, ↓x_jg, ↓x_jn, ↓x_jp, ↓x_scut, ↓x_slen, ↓srcK, ↓srcL, ↓t_yes, ↓t_and', ↓t_or', ↓t_nt', ↓t_ex, ↓e_nil, ↓e_cons, ↓a_nil', ↓a_cons', ↓rs_nil, ↓rs_cons, ↓frzS_v, ↓frzS_n, ↓asgs_nil, ↓asgs_cons, ↓rd_z, ↓rd_s, ↓set_z, ↓set_s, ↓at_mk, ↓isJar_j, ↓der_v, ↓der_n, ↓der_sl, ↓frz_v, ↓frz_n, ↓frz_sl, ↓asg_v, ↓asg_n, ↓asg_sl, ↓opW, ↓cmpW, ↓eqw_int, ↓eqw_str, ↓eqw_tup, ↓eqw_lst, ↓ordW, ↓truW, ↓noOw, ↓ixW, ↓biW, ↓tgW, ↓tgsW, ↓opwW, ↓itW, ↓wipe_nil, ↓wipe_cons, ↓unwipe, ↓isOw, true_and, Bool.and_true, Bool.not_true, Bool.not_false, Bool.false_eq_true, ↓reduceIte, ↓blk_ap] at this
    exact this
end G01

-- BLK
set_option linter.all false
set_option maxRecDepth 100000
set_option exponentiation.threshold 200000
namespace G01
open PySem PySem.Spec PyProof.Rows L2 G
theorem det_behind (o t : Fr) : (behind o t).det = t.det * o.det := by
  unfold behind Fr.det
  dsimp only
  grind
theorem one_mul {x y : Int} (h1 : One x) (h2 : One y) : One (x * y) := by rcases h1 with rfl | rfl <;> rcases h2 with rfl | rfl <;> simp [One]
theorem mul_bd {a b : Int} {m B : Nat} (h1 : -(m : Int) ≤ a ∧ a ≤ m) (h2 : -(B : Int) ≤ b ∧ b ≤ B) : -((m * B : Nat) : Int) ≤ a * b ∧ a * b ≤ ((m * B : Nat) : Int) := by
  have : (a * b).natAbs ≤ m * B := by
    rw [Int.natAbs_mul]
    exact Nat.mul_le_mul (by omega) (by omega)
  omega
theorem s4_behind {o t : Fr} {m B : Nat} (ho : S4 (B : Int) o) (ht : S4 (m : Int) t) : S4 ((2 * (m * B) : Nat) : Int) (behind o t) := by
  obtain ⟨a1, a2, a3, a4⟩ := ho
  obtain ⟨b1, b2, b3, b4⟩ := ht
  have c1 := mul_bd b1 a1
  have c2 := mul_bd b2 a3
  have c3 := mul_bd b1 a2
  have c4 := mul_bd b2 a4
  have c5 := mul_bd b3 a1
  have c6 := mul_bd b4 a3
  have c7 := mul_bd b3 a2
  have c8 := mul_bd b4 a4
  unfold S4 behind
  dsimp only
  omega
theorem S4.mono {f : Fr} {a b : Int} (h : S4 a f) (hab : a ≤ b) : S4 b f := by unfold S4 at *; omega
theorem p_frame {n : Nat} {g : Gh} {b : Bool} {K : D → Gh → Prop} {X : Exn → Gh → Prop} (hg : GOK g) (h : ∀ f g', S4 (10 ^ 17) f → One f.det → GOK g' → K (fD f) g') : callW T (n + 3) 13 [JAR, .bool b] g K X := by
  refine call_df (np := 2) (ns := 7) (b := d13.b) rfl rfl ?_
  have e0 : startE 7 [JAR, .bool b] g = ⟨[.fz JAR, .fz (.bool b), .un, .un, .un, .un, .un], g⟩ := rfl
  rw [e0]
  simp -implicitDefEqProofs only [↓s_cs, ↓nx_ap, ↓s_nil, ↓s_set, ↓s_par, ↓s_unp, ↓s_ret, ↓s_retN, ↓s_drop, ↓s_if, ↓s_whl, ↓s_for, ↓s_app, ↓s_ext, ↓s_put, ↓s_ja, ↓s_ji, ↓s_js, ↓s_jl, ↓s_rais, ↓s_pass, ↓s_brk, ↓s_cont, ↓s_tri, ↓hd_nil, ↓hd_cons, ↓un_s, ↓un_n, ↓hu_ret, ↓hu_ifr, ↓hx_b, ↓hx_s, ↓hx_i, ↓hx_n, ↓hx_fld, ↓hx_isA, ↓hx_nt, ↓hx_and, ↓hx_ite, ↓hx_lst, ↓hx_tup, ↓hxs_nil, ↓hxs_cons, ↓ra_none, ↓ra_some, ↓x_calldB, ↓x_lw, ↓x_dct0, ↓x_v, ↓x_i, ↓x_b, ↓x_n, ↓x_st, ↓x_g, ↓x_tup, ↓x_lst, ↓x_bin, ↓x_neg, ↓x_nt, ↓x_cmp, ↓x_chain, ↓x_isN, ↓x_notN, ↓x_and, ↓x_or, ↓x_ite, ↓x_ix, ↓x_cut, ↓x_rev, ↓x_stp, ↓x_callB, ↓x_callkB, ↓x_bi, ↓x_comp, ↓x_pop, ↓x_popA, ↓x_jg, ↓x_jn, ↓x_jp, ↓x_scut, ↓x_slen, ↓srcK, ↓srcL, ↓t_yes, ↓t_and', ↓t_or', ↓t_nt', ↓t_ex, ↓e_nil, ↓e_cons, ↓a_nil', ↓a_cons', ↓rs_nil, ↓rs_cons, ↓frzS_v, ↓frzS_n, ↓asgs_nil, ↓asgs_cons, ↓rd_z, ↓rd_s, ↓set_z, ↓set_s, ↓at_mk, ↓isJar_j, ↓der_v, ↓der_n, ↓der_sl, ↓frz_v, ↓frz_n, ↓frz_sl, ↓asg_v, ↓asg_n, ↓asg_sl, ↓opW, ↓cmpW, ↓eqw_int, ↓eqw_str, ↓eqw_tup, ↓eqw_lst, ↓ordW, ↓truW, ↓noOw, ↓ixW, ↓biW, ↓tgW, ↓tgsW, ↓opwW, ↓itW, ↓wipe_nil, ↓wipe_cons, ↓unwipe, ↓isOw, true_and, Bool.and_true, Bool.not_true, Bool.not_false, Bool.false_eq_true, ↓reduceIte, ↓blk_ap, ↓d13]
  refine p_draw (n := n + 1) hg (by decide) (by decide) fun p g1 p0 p1 hg1 => ?_
  try simp -implicitDefEqProofs only [↓s_cs, ↓nx_ap, ↓s_nil, ↓s_set, ↓s_par, ↓s_unp, ↓s_ret, ↓s_retN, ↓s_drop, ↓s_if, ↓s_whl, ↓s_for, ↓s_app, ↓s_ext, ↓s_put, ↓s_ja, ↓s_ji, ↓s_js, ↓s_jl, ↓s_rais, ↓s_pass, ↓s_brk, ↓s_cont, ↓s_tri, ↓hd_nil, ↓hd_cons, ↓un_s, ↓un_n, ↓hu_ret, ↓hu_ifr, ↓hx_b, ↓hx_s, ↓hx_i, ↓hx_n, ↓hx_fld, ↓hx_isA, ↓hx_nt, ↓hx_and, ↓hx_ite, ↓hx_lst, ↓hx_tup, ↓hxs_nil, ↓hxs_cons, ↓ra_none, ↓ra_some, ↓x_calldB, ↓x_lw, ↓x_dct0, ↓x_v, ↓x_i, ↓x_b, ↓x_n, ↓x_st, ↓x_g, ↓x_tup, ↓x_lst, ↓x_bin, ↓x_neg, ↓x_nt, ↓x_cmp, ↓x_chain, ↓x_isN, ↓x_notN, ↓x_and, ↓x_or, ↓x_ite, ↓x_ix, ↓x_cut, ↓x_rev, ↓x_stp, ↓x_callB, ↓x_callkB, ↓x_bi, ↓x_comp, ↓x_pop, ↓x_popA, ↓x_jg, ↓x_jn, ↓x_jp, ↓x_scut, ↓x_slen, ↓srcK, ↓srcL, ↓t_yes, ↓t_and', ↓t_or', ↓t_nt', ↓t_ex, ↓e_nil, ↓e_cons, ↓a_nil', ↓a_cons', ↓rs_nil, ↓rs_cons, ↓frzS_v, ↓frzS_n, ↓asgs_nil, ↓asgs_cons, ↓rd_z, ↓rd_s, ↓set_z, ↓set_s, ↓at_mk, ↓isJar_j, ↓der_v, ↓der_n, ↓der_sl, ↓frz_v, ↓frz_n, ↓frz_sl, ↓asg_v, ↓asg_n, ↓asg_sl, ↓opW, ↓cmpW, ↓eqw_int, ↓eqw_str, ↓eqw_tup, ↓eqw_lst, ↓ordW, ↓truW, ↓noOw, ↓ixW, ↓biW, ↓tgW, ↓tgsW, ↓opwW, ↓itW, ↓wipe_nil, ↓wipe_cons, ↓unwipe, ↓isOw, true_and, Bool.and_true, Bool.not_true, Bool.not_false, Bool.false_eq_true, ↓reduceIte, ↓blk_ap]
  refine p_draw (n := n + 1) hg1 (by decide) (by decide) fun q g2 q0 q1 hg2 => ?_
  try simp -implicitDefEqProofs only [↓s_cs, ↓nx_ap, ↓s_nil, ↓s_set, ↓s_par, ↓s_unp, ↓s_ret, ↓s_retN, ↓s_drop, ↓s_if, ↓s_whl, ↓s_for, ↓s_app, ↓s_ext, ↓s_put, ↓s_ja, ↓s_ji, ↓s_js, ↓s_jl, ↓s_rais, ↓s_pass, ↓s_brk, ↓s_cont, ↓s_tri, ↓hd_nil, ↓hd_cons, ↓un_s, ↓un_n, ↓hu_ret, ↓hu_ifr, ↓hx_b, ↓hx_s, ↓hx_i, ↓hx_n, ↓hx_fld, ↓hx_isA, ↓hx_nt, ↓hx_and, ↓hx_ite, ↓hx_lst, ↓hx_tup, ↓hxs_nil, ↓hxs_cons, ↓ra_none, ↓ra_some, ↓x_calldB, ↓x_lw, ↓x_dct0, ↓x_v, ↓x_i, ↓x_b, ↓x_n, ↓x_st, ↓x_g, ↓x_tup, ↓x_lst, ↓x_bin, ↓x_neg, ↓x_nt, ↓x_cmp, ↓x_chain, ↓x_isN, ↓x_notN, ↓x_and, ↓x_or, ↓x_ite, ↓x_ix, ↓x_cut, ↓x_rev, ↓x_stp, ↓x_callB, ↓x_callkB, ↓x_bi, ↓x_comp, ↓x_pop, ↓x_popA, ↓x_jg, ↓x_jn, ↓x_jp, ↓x_scut, ↓x_slen, ↓srcK, ↓srcL, ↓t_yes, ↓t_and', ↓t_or', ↓t_nt', ↓t_ex, ↓e_nil, ↓e_cons, ↓a_nil', ↓a_cons', ↓rs_nil, ↓rs_cons, ↓frzS_v, ↓frzS_n, ↓asgs_nil, ↓asgs_cons, ↓rd_z, ↓rd_s, ↓set_z, ↓set_s, ↓at_mk, ↓isJar_j, ↓der_v, ↓der_n, ↓der_sl, ↓frz_v, ↓frz_n, ↓frz_sl, ↓asg_v, ↓asg_n, ↓asg_sl, ↓opW, ↓cmpW, ↓eqw_int, ↓eqw_str, ↓eqw_tup, ↓eqw_lst, ↓ordW, ↓truW, ↓noOw, ↓ixW, ↓biW, ↓tgW, ↓tgsW, ↓opwW, ↓itW, ↓wipe_nil, ↓wipe_cons, ↓unwipe, ↓isOw, true_and, Bool.and_true, Bool.not_true, Bool.not_false, Bool.false_eq_true, ↓reduceIte, ↓blk_ap]
  refine p_draw (n := n + 1) hg2 (by decide) (by decide) fun t g3 t0 t1 hg3 => ?_
  obtain ⟨t, rfl⟩ : ∃ k : Nat, t = k := ⟨t.toNat, by omega⟩
  try simp -implicitDefEqProofs only [↓s_cs, ↓nx_ap, ↓s_nil, ↓s_set, ↓s_par, ↓s_unp, ↓s_ret, ↓s_retN, ↓s_drop, ↓s_if, ↓s_whl, ↓s_for, ↓s_app, ↓s_ext, ↓s_put, ↓s_ja, ↓s_ji, ↓s_js, ↓s_jl, ↓s_rais, ↓s_pass, ↓s_brk, ↓s_cont, ↓s_tri, ↓hd_nil, ↓hd_cons, ↓un_s, ↓un_n, ↓hu_ret, ↓hu_ifr, ↓hx_b, ↓hx_s, ↓hx_i, ↓hx_n, ↓hx_fld, ↓hx_isA, ↓hx_nt, ↓hx_and, ↓hx_ite, ↓hx_lst, ↓hx_tup, ↓hxs_nil, ↓hxs_cons, ↓ra_none, ↓ra_some, ↓x_calldB, ↓x_lw, ↓x_dct0, ↓x_v, ↓x_i, ↓x_b, ↓x_n, ↓x_st, ↓x_g, ↓x_tup, ↓x_lst, ↓x_bin, ↓x_neg, ↓x_nt, ↓x_cmp, ↓x_chain, ↓x_isN, ↓x_notN, ↓x_and, ↓x_or, ↓x_ite, ↓x_ix, ↓x_cut, ↓x_rev, ↓x_stp, ↓x_callB, ↓x_callkB, ↓x_bi, ↓x_comp, ↓x_pop, ↓x_popA, ↓x_jg, ↓x_jn, ↓x_jp, ↓x_scut, ↓x_slen, ↓srcK, ↓srcL, ↓t_yes, ↓t_and', ↓t_or', ↓t_nt', ↓t_ex, ↓e_nil, ↓e_cons, ↓a_nil', ↓a_cons', ↓rs_nil, ↓rs_cons, ↓frzS_v, ↓frzS_n, ↓asgs_nil, ↓asgs_cons, ↓rd_z, ↓rd_s, ↓set_z, ↓set_s, ↓at_mk, ↓isJar_j, ↓der_v, ↓der_n, ↓der_sl, ↓frz_v, ↓frz_n, ↓frz_sl, ↓asg_v, ↓asg_n, ↓asg_sl, ↓opW, ↓cmpW, ↓eqw_int, ↓eqw_str, ↓eqw_tup, ↓eqw_lst, ↓ordW, ↓truW, ↓noOw, ↓ixW, ↓biW, ↓tgW, ↓tgsW, ↓opwW, ↓itW, ↓wipe_nil, ↓wipe_cons, ↓unwipe, ↓isOw, true_and, Bool.and_true, Bool.not_true, Bool.not_false, Bool.false_eq_true, ↓reduceIte, ↓blk_ap]
  refine ⟨⟨by omega, by unfold SZ; omega⟩, for_inv (fun i r => ∃ (f : Fr) (s3 s4 s5 : Slot) (g' : Gh), r = ⟨[.fz JAR, .fz (.bool b), .fz (fD f), s3, s4, s5, .un], g'⟩ ∧ i ≤ 3 ∧ S4 ((4 ^ i : Nat) : Int) f ∧ One f.det ∧ GOK g') ?_ ?_ ?_⟩
  · exact ⟨⟨1, 0, 0, 1, p - 4, q - 4⟩, _, _, _, g3, rfl, by decide, by unfold S4; simp, .inl rfl, hg3⟩
  · rintro i d r hd ⟨f, s3, s4, s5, g', rfl, hi, hs, ho, hg'⟩ kk hk
    obtain ⟨hi2, rfl⟩ := range_get hd
    simp -implicitDefEqProofs only [↓s_cs, ↓nx_ap, ↓s_nil, ↓s_set, ↓s_par, ↓s_unp, ↓s_ret, ↓s_retN, ↓s_drop, ↓s_if, ↓s_whl, ↓s_for, ↓s_app, ↓s_ext, ↓s_put, ↓s_ja, ↓s_ji, ↓s_js, ↓s_jl, ↓s_rais, ↓s_pass, ↓s_brk, ↓s_cont, ↓s_tri, ↓hd_nil, ↓hd_cons, ↓un_s, ↓un_n, ↓hu_ret, ↓hu_ifr, ↓hx_b, ↓hx_s, ↓hx_i, ↓hx_n, ↓hx_fld, ↓hx_isA, ↓hx_nt, ↓hx_and, ↓hx_ite, ↓hx_lst, ↓hx_tup, ↓hxs_nil, ↓hxs_cons, ↓ra_none, ↓ra_some, ↓x_calldB, ↓x_lw, ↓x_dct0, ↓x_v, ↓x_i, ↓x_b, ↓x_n, ↓x_st, ↓x_g, ↓x_tup, ↓x_lst, ↓x_bin, ↓x_neg, ↓x_nt, ↓x_cmp, ↓x_chain, ↓x_isN, ↓x_notN, ↓x_and, ↓x_or, ↓x_ite, ↓x_ix, ↓x_cut, ↓x_rev, ↓x_stp, ↓x_callB, ↓x_callkB, ↓x_bi, ↓x_comp, ↓x_pop, ↓x_popA, ↓x_jg, ↓x_jn, ↓x_jp, ↓x_scut, ↓x_slen, ↓srcK, ↓srcL, ↓t_yes, ↓t_and', ↓t_or', ↓t_nt', ↓t_ex, ↓e_nil, ↓e_cons, ↓a_nil', ↓a_cons', ↓rs_nil, ↓rs_cons, ↓frzS_v, ↓frzS_n, ↓asgs_nil, ↓asgs_cons, ↓rd_z, ↓rd_s, ↓set_z, ↓set_s, ↓at_mk, ↓isJar_j, ↓der_v, ↓der_n, ↓der_sl, ↓frz_v, ↓frz_n, ↓frz_sl, ↓asg_v, ↓asg_n, ↓asg_sl, ↓opW, ↓cmpW, ↓eqw_int, ↓eqw_str, ↓eqw_tup, ↓eqw_lst, ↓ordW, ↓truW, ↓noOw, ↓ixW, ↓biW, ↓tgW, ↓tgsW, ↓opwW, ↓itW, ↓wipe_nil, ↓wipe_cons, ↓unwipe, ↓isOw, true_and, Bool.and_true, Bool.not_true, Bool.not_false, Bool.false_eq_true, ↓reduceIte, ↓blk_ap, ↓forF, ↓d13_1]
    refine p_draw (n := n + 1) hg' (by decide) (by decide) fun by_ g4 y0 y1 hg4 => ?_
    try simp -implicitDefEqProofs only [↓s_cs, ↓nx_ap, ↓s_nil, ↓s_set, ↓s_par, ↓s_unp, ↓s_ret, ↓s_retN, ↓s_drop, ↓s_if, ↓s_whl, ↓s_for, ↓s_app, ↓s_ext, ↓s_put, ↓s_ja, ↓s_ji, ↓s_js, ↓s_jl, ↓s_rais, ↓s_pass, ↓s_brk, ↓s_cont, ↓s_tri, ↓hd_nil, ↓hd_cons, ↓un_s, ↓un_n, ↓hu_ret, ↓hu_ifr, ↓hx_b, ↓hx_s, ↓hx_i, ↓hx_n, ↓hx_fld, ↓hx_isA, ↓hx_nt, ↓hx_and, ↓hx_ite, ↓hx_lst, ↓hx_tup, ↓hxs_nil, ↓hxs_cons, ↓ra_none, ↓ra_some, ↓x_calldB, ↓x_lw, ↓x_dct0, ↓x_v, ↓x_i, ↓x_b, ↓x_n, ↓x_st, ↓x_g, ↓x_tup, ↓x_lst, ↓x_bin, ↓x_neg, ↓x_nt, ↓x_cmp, ↓x_chain, ↓x_isN, ↓x_notN, ↓x_and, ↓x_or, ↓x_ite, ↓x_ix, ↓x_cut, ↓x_rev, ↓x_stp, ↓x_callB, ↓x_callkB, ↓x_bi, ↓x_comp, ↓x_pop, ↓x_popA, ↓x_jg, ↓x_jn, ↓x_jp, ↓x_scut, ↓x_slen, ↓srcK, ↓srcL, ↓t_yes, ↓t_and', ↓t_or', ↓t_nt', ↓t_ex, ↓e_nil, ↓e_cons, ↓a_nil', ↓a_cons', ↓rs_nil, ↓rs_cons, ↓frzS_v, ↓frzS_n, ↓asgs_nil, ↓asgs_cons, ↓rd_z, ↓rd_s, ↓set_z, ↓set_s, ↓at_mk, ↓isJar_j, ↓der_v, ↓der_n, ↓der_sl, ↓frz_v, ↓frz_n, ↓frz_sl, ↓asg_v, ↓asg_n, ↓asg_sl, ↓opW, ↓cmpW, ↓eqw_int, ↓eqw_str, ↓eqw_tup, ↓eqw_lst, ↓ordW, ↓truW, ↓noOw, ↓ixW, ↓biW, ↓tgW, ↓tgsW, ↓opwW, ↓itW, ↓wipe_nil, ↓wipe_cons, ↓unwipe, ↓isOw, true_and, Bool.and_true, Bool.not_true, Bool.not_false, Bool.false_eq_true, ↓reduceIte, ↓blk_ap]
    have yb : -2 ≤ by_ - 2 ∧ by_ - 2 ≤ 2 := by omega
    generalize by_ - 2 = y at yb
    refine p_pick (n := n) (.inl rfl) hg4 (by show 1 ≤ 4; decide) (by show 4 < 10 ^ 9; decide) fun x g5 hx hg5 => ?_
    obtain ⟨w, rfl, w1, w2⟩ : ∃ w : Fr, x = fD w ∧ S4 ((2 : Nat) : Int) w ∧ One w.det := by
      simp only [List.mem_cons, List.not_mem_nil, or_false] at hx
      rcases hx with rfl | rfl | rfl | rfl
      · exact ⟨⟨1, y, 0, 1, 0, 0⟩, rfl, by unfold S4; dsimp only; omega, .inl (by unfold Fr.det; dsimp only; omega)⟩
      · exact ⟨⟨1, 0, y, 1, 0, 0⟩, rfl, by unfold S4; dsimp only; omega, .inl (by unfold Fr.det; dsimp only; omega)⟩
      · exact ⟨⟨0, 1, 1, 0, 0, 0⟩, rfl, by unfold S4; dsimp only; omega, .inr rfl⟩
      · exact ⟨⟨0, -1, 1, 0, 0, 0⟩, rfl, by unfold S4; dsimp only; omega, .inl rfl⟩
    try simp -implicitDefEqProofs only [↓s_cs, ↓nx_ap, ↓s_nil, ↓s_set, ↓s_par, ↓s_unp, ↓s_ret, ↓s_retN, ↓s_drop, ↓s_if, ↓s_whl, ↓s_for, ↓s_app, ↓s_ext, ↓s_put, ↓s_ja, ↓s_ji, ↓s_js, ↓s_jl, ↓s_rais, ↓s_pass, ↓s_brk, ↓s_cont, ↓s_tri, ↓hd_nil, ↓hd_cons, ↓un_s, ↓un_n, ↓hu_ret, ↓hu_ifr, ↓hx_b, ↓hx_s, ↓hx_i, ↓hx_n, ↓hx_fld, ↓hx_isA, ↓hx_nt, ↓hx_and, ↓hx_ite, ↓hx_lst, ↓hx_tup, ↓hxs_nil, ↓hxs_cons, ↓ra_none, ↓ra_some, ↓x_calldB, ↓x_lw, ↓x_dct0, ↓x_v, ↓x_i, ↓x_b, ↓x_n, ↓x_st, ↓x_g, ↓x_tup, ↓x_lst, ↓x_bin, ↓x_neg, ↓x_nt, ↓x_cmp, ↓x_chain, ↓x_isN, ↓x_notN, ↓x_and, ↓x_or, ↓x_ite, ↓x_ix, ↓x_cut, ↓x_rev, ↓x_stp, ↓x_callB, ↓x_callkB, ↓x_bi, ↓x_comp, ↓x_pop, ↓x_popA, ↓x_jg, ↓x_jn, ↓x_jp, ↓x_scut, ↓x_slen, ↓srcK, ↓srcL, ↓t_yes, ↓t_and', ↓t_or', ↓t_nt', ↓t_ex, ↓e_nil, ↓e_cons, ↓a_nil', ↓a_cons', ↓rs_nil, ↓rs_cons, ↓frzS_v, ↓frzS_n, ↓asgs_nil, ↓asgs_cons, ↓rd_z, ↓rd_s, ↓set_z, ↓set_s, ↓at_mk, ↓isJar_j, ↓der_v, ↓der_n, ↓der_sl, ↓frz_v, ↓frz_n, ↓frz_sl, ↓asg_v, ↓asg_n, ↓asg_sl, ↓opW, ↓cmpW, ↓eqw_int, ↓eqw_str, ↓eqw_tup, ↓eqw_lst, ↓ordW, ↓truW, ↓noOw, ↓ixW, ↓biW, ↓tgW, ↓tgsW, ↓opwW, ↓itW, ↓wipe_nil, ↓wipe_cons, ↓unwipe, ↓isOw, true_and, Bool.and_true, Bool.not_true, Bool.not_false, Bool.false_eq_true, ↓reduceIte, ↓blk_ap]
    refine p_behind (n := n + 1) (w2.elim (fun _ => w1.mono (by decide)) fun _ => w1.mono (by decide)) ?_
    try simp -implicitDefEqProofs only [↓s_cs, ↓nx_ap, ↓s_nil, ↓s_set, ↓s_par, ↓s_unp, ↓s_ret, ↓s_retN, ↓s_drop, ↓s_if, ↓s_whl, ↓s_for, ↓s_app, ↓s_ext, ↓s_put, ↓s_ja, ↓s_ji, ↓s_js, ↓s_jl, ↓s_rais, ↓s_pass, ↓s_brk, ↓s_cont, ↓s_tri, ↓hd_nil, ↓hd_cons, ↓un_s, ↓un_n, ↓hu_ret, ↓hu_ifr, ↓hx_b, ↓hx_s, ↓hx_i, ↓hx_n, ↓hx_fld, ↓hx_isA, ↓hx_nt, ↓hx_and, ↓hx_ite, ↓hx_lst, ↓hx_tup, ↓hxs_nil, ↓hxs_cons, ↓ra_none, ↓ra_some, ↓x_calldB, ↓x_lw, ↓x_dct0, ↓x_v, ↓x_i, ↓x_b, ↓x_n, ↓x_st, ↓x_g, ↓x_tup, ↓x_lst, ↓x_bin, ↓x_neg, ↓x_nt, ↓x_cmp, ↓x_chain, ↓x_isN, ↓x_notN, ↓x_and, ↓x_or, ↓x_ite, ↓x_ix, ↓x_cut, ↓x_rev, ↓x_stp, ↓x_callB, ↓x_callkB, ↓x_bi, ↓x_comp, ↓x_pop, ↓x_popA, ↓x_jg, ↓x_jn, ↓x_jp, ↓x_scut, ↓x_slen, ↓srcK, ↓srcL, ↓t_yes, ↓t_and', ↓t_or', ↓t_nt', ↓t_ex, ↓e_nil, ↓e_cons, ↓a_nil', ↓a_cons', ↓rs_nil, ↓rs_cons, ↓frzS_v, ↓frzS_n, ↓asgs_nil, ↓asgs_cons, ↓rd_z, ↓rd_s, ↓set_z, ↓set_s, ↓at_mk, ↓isJar_j, ↓der_v, ↓der_n, ↓der_sl, ↓frz_v, ↓frz_n, ↓frz_sl, ↓asg_v, ↓asg_n, ↓asg_sl, ↓opW, ↓cmpW, ↓eqw_int, ↓eqw_str, ↓eqw_tup, ↓eqw_lst, ↓ordW, ↓truW, ↓noOw, ↓ixW, ↓biW, ↓tgW, ↓tgsW, ↓opwW, ↓itW, ↓wipe_nil, ↓wipe_cons, ↓unwipe, ↓isOw, true_and, Bool.and_true, Bool.not_true, Bool.not_false, Bool.false_eq_true, ↓reduceIte, ↓blk_ap]
    have sb := s4_behind hs w1
    have pw : 4 ^ (i + 1) = 2 * (2 * 4 ^ i) := by rw [Nat.pow_succ]; omega
    exact hk _ ⟨behind f w, _, _, _, g5, rfl, by omega, by rw [pw]; exact sb, by rw [det_behind]; exact one_mul w2 ho, hg5⟩
  · rintro r ⟨f, s3, s4, s5, g', rfl, hi, hs, ho, hg'⟩
    rw [rangeD_len] at hi hs
    have pw : 4 ^ (t : Int).toNat ≤ 4 ^ 3 := Nat.pow_le_pow_right (by decide) hi
    have hs64 : S4 ((64 : Nat) : Int) f := hs.mono (by have : 4 ^ (t : Int).toNat ≤ 64 := pw; omega)
    try simp -implicitDefEqProofs only [↓s_cs, ↓nx_ap, ↓s_nil, ↓s_set, ↓s_par, ↓s_unp, ↓s_ret, ↓s_retN, ↓s_drop, ↓s_if, ↓s_whl, ↓s_for, ↓s_app, ↓s_ext, ↓s_put, ↓s_ja, ↓s_ji, ↓s_js, ↓s_jl, ↓s_rais, ↓s_pass, ↓s_brk, ↓s_cont, ↓s_tri, ↓hd_nil, ↓hd_cons, ↓un_s, ↓un_n, ↓hu_ret, ↓hu_ifr, ↓hx_b, ↓hx_s, ↓hx_i, ↓hx_n, ↓hx_fld, ↓hx_isA, ↓hx_nt, ↓hx_and, ↓hx_ite, ↓hx_lst, ↓hx_tup, ↓hxs_nil, ↓hxs_cons, ↓ra_none, ↓ra_some, ↓x_calldB, ↓x_lw, ↓x_dct0, ↓x_v, ↓x_i, ↓x_b, ↓x_n, ↓x_st, ↓x_g, ↓x_tup, ↓x_lst, ↓x_bin, ↓x_neg, ↓x_nt, ↓x_cmp, ↓x_chain, ↓x_isN, ↓x_notN, ↓x_and, ↓x_or, ↓x_ite, ↓x_ix, ↓x_cut, ↓x_rev, ↓x_stp, ↓x_callB, ↓x_callkB, ↓x_bi, ↓x_comp, ↓x_pop, ↓x_popA, ↓x_jg, ↓x_jn, ↓x_jp, ↓x_scut, ↓x_slen, ↓srcK, ↓srcL, ↓t_yes, ↓t_and', ↓t_or', ↓t_nt', ↓t_ex, ↓e_nil, ↓e_cons, ↓a_nil', ↓a_cons', ↓rs_nil, ↓rs_cons, ↓frzS_v, ↓frzS_n, ↓asgs_nil, ↓asgs_cons, ↓rd_z, ↓rd_s, ↓set_z, ↓set_s, ↓at_mk, ↓isJar_j, ↓der_v, ↓der_n, ↓der_sl, ↓frz_v, ↓frz_n, ↓frz_sl, ↓asg_v, ↓asg_n, ↓asg_sl, ↓opW, ↓cmpW, ↓eqw_int, ↓eqw_str, ↓eqw_tup, ↓eqw_lst, ↓ordW, ↓truW, ↓noOw, ↓ixW, ↓biW, ↓tgW, ↓tgsW, ↓opwW, ↓itW, ↓wipe_nil, ↓wipe_cons, ↓unwipe, ↓isOw, true_and, Bool.and_true, Bool.not_true, Bool.not_false, Bool.false_eq_true, ↓reduceIte, ↓blk_ap]
    cases b with
    | false =>
      rw [if_neg (by decide)]
      exact h f g' (hs64.mono (by decide)) ho hg'
    | true =>
      rw [if_pos rfl]
      refine p_pick (n := n) (.inl rfl) hg' (by show 1 ≤ 5; decide) (by show 5 < 10 ^ 9; decide) fun x g4 hx hg4 => ?_
      obtain ⟨y, rfl, y1, y2⟩ : ∃ a : Int, x = .int a ∧ -40000 ≤ a ∧ a ≤ 40000 := by
        simp only [List.mem_cons, List.not_mem_nil, or_false] at hx
        rcases hx with rfl | rfl | rfl | rfl | rfl <;> exact ⟨_, rfl, by decide, by decide⟩
      try simp -implicitDefEqProofs only [↓s_cs, ↓nx_ap, ↓s_nil, ↓s_set, ↓s_par, ↓s_unp, ↓s_ret, ↓s_retN, ↓s_drop, ↓s_if, ↓s_whl, ↓s_for, ↓s_app, ↓s_ext, ↓s_put, ↓s_ja, ↓s_ji, ↓s_js, ↓s_jl, ↓s_rais, ↓s_pass, ↓s_brk, ↓s_cont, ↓s_tri, ↓hd_nil, ↓hd_cons, ↓un_s, ↓un_n, ↓hu_ret, ↓hu_ifr, ↓hx_b, ↓hx_s, ↓hx_i, ↓hx_n, ↓hx_fld, ↓hx_isA, ↓hx_nt, ↓hx_and, ↓hx_ite, ↓hx_lst, ↓hx_tup, ↓hxs_nil, ↓hxs_cons, ↓ra_none, ↓ra_some, ↓x_calldB, ↓x_lw, ↓x_dct0, ↓x_v, ↓x_i, ↓x_b, ↓x_n, ↓x_st, ↓x_g, ↓x_tup, ↓x_lst, ↓x_bin, ↓x_neg, ↓x_nt, ↓x_cmp, ↓x_chain, ↓x_isN, ↓x_notN, ↓x_and, ↓x_or, ↓x_ite, ↓x_ix, ↓x_cut, ↓x_rev, ↓x_stp, ↓x_callB, ↓x_callkB, ↓x_bi, ↓x_comp, ↓x_pop, ↓x_popA, ↓x_jg, ↓x_jn, ↓x_jp, ↓x_scut, ↓x_slen, ↓srcK, ↓srcL, ↓t_yes, ↓t_and', ↓t_or', ↓t_nt', ↓t_ex, ↓e_nil, ↓e_cons, ↓a_nil', ↓a_cons', ↓rs_nil, ↓rs_cons, ↓frzS_v, ↓frzS_n, ↓asgs_nil, ↓asgs_cons, ↓rd_z, ↓rd_s, ↓set_z, ↓set_s, ↓at_mk, ↓isJar_j, ↓der_v, ↓der_n, ↓der_sl, ↓frz_v, ↓frz_n, ↓frz_sl, ↓asg_v, ↓asg_n, ↓asg_sl, ↓opW, ↓cmpW, ↓eqw_int, ↓eqw_str, ↓eqw_tup, ↓eqw_lst, ↓ordW, ↓truW, ↓noOw, ↓ixW, ↓biW, ↓tgW, ↓tgsW, ↓opwW, ↓itW, ↓wipe_nil, ↓wipe_cons, ↓unwipe, ↓isOw, true_and, Bool.and_true, Bool.not_true, Bool.not_false, Bool.false_eq_true, ↓reduceIte, ↓blk_ap]
      refine p_pick (n := n) (.inl rfl) hg4 (by show 1 ≤ 3; decide) (by show 3 < 10 ^ 9; decide) fun x g5 hx hg5 => ?_
      obtain ⟨z, rfl⟩ : ∃ a : Int, x = .int a := by
        simp only [List.mem_cons, List.not_mem_nil, or_false] at hx
        rcases hx with rfl | rfl | rfl <;> exact ⟨_, rfl⟩
      try simp -implicitDefEqProofs only [↓s_cs, ↓nx_ap, ↓s_nil, ↓s_set, ↓s_par, ↓s_unp, ↓s_ret, ↓s_retN, ↓s_drop, ↓s_if, ↓s_whl, ↓s_for, ↓s_app, ↓s_ext, ↓s_put, ↓s_ja, ↓s_ji, ↓s_js, ↓s_jl, ↓s_rais, ↓s_pass, ↓s_brk, ↓s_cont, ↓s_tri, ↓hd_nil, ↓hd_cons, ↓un_s, ↓un_n, ↓hu_ret, ↓hu_ifr, ↓hx_b, ↓hx_s, ↓hx_i, ↓hx_n, ↓hx_fld, ↓hx_isA, ↓hx_nt, ↓hx_and, ↓hx_ite, ↓hx_lst, ↓hx_tup, ↓hxs_nil, ↓hxs_cons, ↓ra_none, ↓ra_some, ↓x_calldB, ↓x_lw, ↓x_dct0, ↓x_v, ↓x_i, ↓x_b, ↓x_n, ↓x_st, ↓x_g, ↓x_tup, ↓x_lst, ↓x_bin, ↓x_neg, ↓x_nt, ↓x_cmp, ↓x_chain, ↓x_isN, ↓x_notN, ↓x_and, ↓x_or, ↓x_ite, ↓x_ix, ↓x_cut, ↓x_rev, ↓x_stp, ↓x_callB, ↓x_callkB, ↓x_bi, ↓x_comp, ↓x_pop, ↓x_popA, ↓x_jg, ↓x_jn, ↓x_jp, ↓x_scut, ↓x_slen, ↓srcK, ↓srcL, ↓t_yes, ↓t_and', ↓t_or', ↓t_nt', ↓t_ex, ↓e_nil, ↓e_cons, ↓a_nil', ↓a_cons', ↓rs_nil, ↓rs_cons, ↓frzS_v, ↓frzS_n, ↓asgs_nil, ↓asgs_cons, ↓rd_z, ↓rd_s, ↓set_z, ↓set_s, ↓at_mk, ↓isJar_j, ↓der_v, ↓der_n, ↓der_sl, ↓frz_v, ↓frz_n, ↓frz_sl, ↓asg_v, ↓asg_n, ↓asg_sl, ↓opW, ↓cmpW, ↓eqw_int, ↓eqw_str, ↓eqw_tup, ↓eqw_lst, ↓ordW, ↓truW, ↓noOw, ↓ixW, ↓biW, ↓tgW, ↓tgsW, ↓opwW, ↓itW, ↓wipe_nil, ↓wipe_cons, ↓unwipe, ↓isOw, true_and, Bool.and_true, Bool.not_true, Bool.not_false, Bool.false_eq_true, ↓reduceIte, ↓blk_ap]
      refine p_pick (n := n) (.inl rfl) hg5 (by show 1 ≤ 3; decide) (by show 3 < 10 ^ 9; decide) fun x g6 hx hg6 => ?_
      obtain ⟨w, rfl, w1, w2⟩ : ∃ w : Fr, x = fD w ∧ S4 ((40000 : Nat) : Int) w ∧ One w.det := by
        simp only [List.mem_cons, List.not_mem_nil, or_false] at hx
        rcases hx with rfl | rfl | rfl
        · exact ⟨⟨1, y, 0, 1, z, 0⟩, rfl, by unfold S4; dsimp only; omega, .inl (by unfold Fr.det; dsimp only; omega)⟩
        · exact ⟨⟨1, 0, y, 1, 0, z⟩, rfl, by unfold S4; dsimp only; omega, .inl (by unfold Fr.det; dsimp only; omega)⟩
        · exact ⟨⟨1, 0, 0, 1, z, -z⟩, rfl, by unfold S4; dsimp only; omega, .inl (by unfold Fr.det; dsimp only; omega)⟩
      try simp -implicitDefEqProofs only [↓s_cs, ↓nx_ap, ↓s_nil, ↓s_set, ↓s_par, ↓s_unp, ↓s_ret, ↓s_retN, ↓s_drop, ↓s_if, ↓s_whl, ↓s_for, ↓s_app, ↓s_ext, ↓s_put, ↓s_ja, ↓s_ji, ↓s_js, ↓s_jl, ↓s_rais, ↓s_pass, ↓s_brk, ↓s_cont, ↓s_tri, ↓hd_nil, ↓hd_cons, ↓un_s, ↓un_n, ↓hu_ret, ↓hu_ifr, ↓hx_b, ↓hx_s, ↓hx_i, ↓hx_n, ↓hx_fld, ↓hx_isA, ↓hx_nt, ↓hx_and, ↓hx_ite, ↓hx_lst, ↓hx_tup, ↓hxs_nil, ↓hxs_cons, ↓ra_none, ↓ra_some, ↓x_calldB, ↓x_lw, ↓x_dct0, ↓x_v, ↓x_i, ↓x_b, ↓x_n, ↓x_st, ↓x_g, ↓x_tup, ↓x_lst, ↓x_bin, ↓x_neg, ↓x_nt, ↓x_cmp, ↓x_chain, ↓x_isN, ↓x_notN, ↓x_and, ↓x_or, ↓x_ite, ↓x_ix, ↓x_cut, ↓x_rev, ↓x_stp, ↓x_callB, ↓x_callkB, ↓x_bi, ↓x_comp, ↓x_pop, ↓x_popA, ↓x_jg, ↓x_jn, ↓x_jp, ↓x_scut, ↓x_slen, ↓srcK, ↓srcL, ↓t_yes, ↓t_and', ↓t_or', ↓t_nt', ↓t_ex, ↓e_nil, ↓e_cons, ↓a_nil', ↓a_cons', ↓rs_nil, ↓rs_cons, ↓frzS_v, ↓frzS_n, ↓asgs_nil, ↓asgs_cons, ↓rd_z, ↓rd_s, ↓set_z, ↓set_s, ↓at_mk, ↓isJar_j, ↓der_v, ↓der_n, ↓der_sl, ↓frz_v, ↓frz_n, ↓frz_sl, ↓asg_v, ↓asg_n, ↓asg_sl, ↓opW, ↓cmpW, ↓eqw_int, ↓eqw_str, ↓eqw_tup, ↓eqw_lst, ↓ordW, ↓truW, ↓noOw, ↓ixW, ↓biW, ↓tgW, ↓tgsW, ↓opwW, ↓itW, ↓wipe_nil, ↓wipe_cons, ↓unwipe, ↓isOw, true_and, Bool.and_true, Bool.not_true, Bool.not_false, Bool.false_eq_true, ↓reduceIte, ↓blk_ap]
      refine p_behind (n := n + 1) (w1.mono (by decide)) ?_
      try simp -implicitDefEqProofs only [↓s_cs, ↓nx_ap, ↓s_nil, ↓s_set, ↓s_par, ↓s_unp, ↓s_ret, ↓s_retN, ↓s_drop, ↓s_if, ↓s_whl, ↓s_for, ↓s_app, ↓s_ext, ↓s_put, ↓s_ja, ↓s_ji, ↓s_js, ↓s_jl, ↓s_rais, ↓s_pass, ↓s_brk, ↓s_cont, ↓s_tri, ↓hd_nil, ↓hd_cons, ↓un_s, ↓un_n, ↓hu_ret, ↓hu_ifr, ↓hx_b, ↓hx_s, ↓hx_i, ↓hx_n, ↓hx_fld, ↓hx_isA, ↓hx_nt, ↓hx_and, ↓hx_ite, ↓hx_lst, ↓hx_tup, ↓hxs_nil, ↓hxs_cons, ↓ra_none, ↓ra_some, ↓x_calldB, ↓x_lw, ↓x_dct0, ↓x_v, ↓x_i, ↓x_b, ↓x_n, ↓x_st, ↓x_g, ↓x_tup, ↓x_lst, ↓x_bin, ↓x_neg, ↓x_nt, ↓x_cmp, ↓x_chain, ↓x_isN, ↓x_notN, ↓x_and, ↓x_or, ↓x_ite, ↓x_ix, ↓x_cut, ↓x_rev, ↓x_stp, ↓x_callB, ↓x_callkB, ↓x_bi, ↓x_comp, ↓x_pop, ↓x_popA, ↓x_jg, ↓x_jn, ↓x_jp, ↓x_scut, ↓x_slen, ↓srcK, ↓srcL, ↓t_yes, ↓t_and', ↓t_or', ↓t_nt', ↓t_ex, ↓e_nil, ↓e_cons, ↓a_nil', ↓a_cons', ↓rs_nil, ↓rs_cons, ↓frzS_v, ↓frzS_n, ↓asgs_nil, ↓asgs_cons, ↓rd_z, ↓rd_s, ↓set_z, ↓set_s, ↓at_mk, ↓isJar_j, ↓der_v, ↓der_n, ↓der_sl, ↓frz_v, ↓frz_n, ↓frz_sl, ↓asg_v, ↓asg_n, ↓asg_sl, ↓opW, ↓cmpW, ↓eqw_int, ↓eqw_str, ↓eqw_tup, ↓eqw_lst, ↓ordW, ↓truW, ↓noOw, ↓ixW, ↓biW, ↓tgW, ↓tgsW, ↓opwW, ↓itW, ↓wipe_nil, ↓wipe_cons, ↓unwipe, ↓isOw, true_and, Bool.and_true, Bool.not_true, Bool.not_false, Bool.false_eq_true, ↓reduceIte, ↓blk_ap]
      exact h _ g6 ((s4_behind hs64 w1).mono (by decide)) (by rw [det_behind]; exact one_mul w2 ho) hg6
/-- near frames -/
structure NF (f : Fr) : Prop where
  s : S4 (10 ^ 6) f
  p : -(10 ^ 6) ≤ f.p ∧ f.p ≤ 10 ^ 6
  q : -(10 ^ 6) ≤ f.q ∧ f.q ≤ 10 ^ 6
  o : One f.det
theorem p_near {n : Nat} {g : Gh} {f : Fr} {K : D → Gh → Prop} {X : Exn → Gh → Prop} (h : ∀ b : Bool, (b = true → S4 (10 ^ 6) f ∧ (-(10 ^ 6) ≤ f.p ∧ f.p ≤ 10 ^ 6) ∧ (-(10 ^ 6) ≤ f.q ∧ f.q ≤ 10 ^ 6)) → K (.bool b) g) : callW T (n + 1) 14 [fD f] g K X := by
  refine call_df (np := 1) (ns := 2) (b := d14.b) rfl rfl ?_
  have e0 : startE 2 [fD f] g = ⟨[.fz (fD f), .un], g⟩ := rfl
  rw [e0]
  unfold fD
  simp -implicitDefEqProofs only [↓s_cs, ↓nx_ap, ↓s_nil, ↓s_set, ↓s_par, ↓s_unp, ↓s_ret, ↓s_retN, ↓s_drop, ↓s_if, ↓s_whl, ↓s_for, ↓s_app, ↓s_ext, ↓s_put, ↓s_ja, ↓s_ji, ↓s_js, ↓s_jl, ↓s_rais, ↓s_pass, ↓s_brk, ↓s_cont, ↓s_tri, ↓hd_nil, ↓hd_cons, ↓un_s, ↓un_n, ↓hu_ret, ↓hu_ifr, ↓hx_b, ↓hx_s, ↓hx_i, ↓hx_n, ↓hx_fld, ↓hx_isA, ↓hx_nt, ↓hx_and, ↓hx_ite, ↓hx_lst, ↓hx_tup, ↓hxs_nil, ↓hxs_cons, ↓ra_none, ↓ra_some, ↓x_calldB, ↓x_lw, ↓x_dct0, ↓x_v, ↓x_i, ↓x_b, ↓x_n, ↓x_st, ↓x_g, ↓x_tup, ↓x_lst, ↓x_bin, ↓x_neg, ↓x_nt, ↓x_cmp, ↓x_chain, ↓x_isN, ↓x_notN, ↓x_and, ↓x_or, ↓x_ite, ↓x_ix, ↓x_cut, ↓x_rev, ↓x_stp, ↓x_callB, ↓x_callkB, ↓x_bi, ↓x_comp, ↓x_pop, ↓x_popA, ↓x_jg, ↓x_jn, ↓x_jp, ↓x_scut, ↓x_slen, ↓srcK, ↓srcL, ↓t_yes, ↓t_and', ↓t_or', ↓t_nt', ↓t_ex, ↓e_nil, ↓e_cons, ↓a_nil', ↓a_cons', ↓rs_nil, ↓rs_cons, ↓frzS_v, ↓frzS_n, ↓asgs_nil, ↓asgs_cons, ↓rd_z, ↓rd_s, ↓set_z, ↓set_s, ↓at_mk, ↓isJar_j, ↓der_v, ↓der_n, ↓der_sl, ↓frz_v, ↓frz_n, ↓frz_sl, ↓asg_v, ↓asg_n, ↓asg_sl, ↓opW, ↓cmpW, ↓eqw_int, ↓eqw_str, ↓eqw_tup, ↓eqw_lst, ↓ordW, ↓truW, ↓noOw, ↓ixW, ↓biW, ↓tgW, ↓tgsW, ↓opwW, ↓itW, ↓wipe_nil, ↓wipe_cons, ↓unwipe, ↓isOw, true_and, Bool.and_true, Bool.not_true, Bool.not_false, Bool.false_eq_true, ↓reduceIte, ↓blk_ap, ↓d14]
  have e1 : ([PyData.int f.a, .int f.b, .int f.c, .int f.d, .int f.p, .int f.q] : List D) = [f.a, f.b, f.c, f.d, f.p, f.q].map .int := rfl
  rw [e1]
  refine turns_pic _ (fun i => .int (if i < 0 then -i else i)) ?_ ?_
  · intro i hi kk hk
    simp -implicitDefEqProofs only [↓s_cs, ↓nx_ap, ↓s_nil, ↓s_set, ↓s_par, ↓s_unp, ↓s_ret, ↓s_retN, ↓s_drop, ↓s_if, ↓s_whl, ↓s_for, ↓s_app, ↓s_ext, ↓s_put, ↓s_ja, ↓s_ji, ↓s_js, ↓s_jl, ↓s_rais, ↓s_pass, ↓s_brk, ↓s_cont, ↓s_tri, ↓hd_nil, ↓hd_cons, ↓un_s, ↓un_n, ↓hu_ret, ↓hu_ifr, ↓hx_b, ↓hx_s, ↓hx_i, ↓hx_n, ↓hx_fld, ↓hx_isA, ↓hx_nt, ↓hx_and, ↓hx_ite, ↓hx_lst, ↓hx_tup, ↓hxs_nil, ↓hxs_cons, ↓ra_none, ↓ra_some, ↓x_calldB, ↓x_lw, ↓x_dct0, ↓x_v, ↓x_i, ↓x_b, ↓x_n, ↓x_st, ↓x_g, ↓x_tup, ↓x_lst, ↓x_bin, ↓x_neg, ↓x_nt, ↓x_cmp, ↓x_chain, ↓x_isN, ↓x_notN, ↓x_and, ↓x_or, ↓x_ite, ↓x_ix, ↓x_cut, ↓x_rev, ↓x_stp, ↓x_callB, ↓x_callkB, ↓x_bi, ↓x_comp, ↓x_pop, ↓x_popA, ↓x_jg, ↓x_jn, ↓x_jp, ↓x_scut, ↓x_slen, ↓srcK, ↓srcL, ↓t_yes, ↓t_and', ↓t_or', ↓t_nt', ↓t_ex, ↓e_nil, ↓e_cons, ↓a_nil', ↓a_cons', ↓rs_nil, ↓rs_cons, ↓frzS_v, ↓frzS_n, ↓asgs_nil, ↓asgs_cons, ↓rd_z, ↓rd_s, ↓set_z, ↓set_s, ↓at_mk, ↓isJar_j, ↓der_v, ↓der_n, ↓der_sl, ↓frz_v, ↓frz_n, ↓frz_sl, ↓asg_v, ↓asg_n, ↓asg_sl, ↓opW, ↓cmpW, ↓eqw_int, ↓eqw_str, ↓eqw_tup, ↓eqw_lst, ↓ordW, ↓truW, ↓noOw, ↓ixW, ↓biW, ↓tgW, ↓tgsW, ↓opwW, ↓itW, ↓wipe_nil, ↓wipe_cons, ↓unwipe, ↓isOw, true_and, Bool.and_true, Bool.not_true, Bool.not_false, Bool.false_eq_true, ↓reduceIte, ↓blk_ap, ↓compF]
    exact hk
  · rw [List.nil_append]
    have e2 : (([f.a, f.b, f.c, f.d, f.p, f.q] : List Int).map fun i => PyData.int (if i < 0 then -i else i)) = (([f.a, f.b, f.c, f.d, f.p, f.q] : List Int).map fun i => (if i < 0 then -i else i)).map .int := by rw [List.map_map]; rfl
    rw [e2]
    try simp -implicitDefEqProofs only [↓s_cs, ↓nx_ap, ↓s_nil, ↓s_set, ↓s_par, ↓s_unp, ↓s_ret, ↓s_retN, ↓s_drop, ↓s_if, ↓s_whl, ↓s_for, ↓s_app, ↓s_ext, ↓s_put, ↓s_ja, ↓s_ji, ↓s_js, ↓s_jl, ↓s_rais, ↓s_pass, ↓s_brk, ↓s_cont, ↓s_tri, ↓hd_nil, ↓hd_cons, ↓un_s, ↓un_n, ↓hu_ret, ↓hu_ifr, ↓hx_b, ↓hx_s, ↓hx_i, ↓hx_n, ↓hx_fld, ↓hx_isA, ↓hx_nt, ↓hx_and, ↓hx_ite, ↓hx_lst, ↓hx_tup, ↓hxs_nil, ↓hxs_cons, ↓ra_none, ↓ra_some, ↓x_calldB, ↓x_lw, ↓x_dct0, ↓x_v, ↓x_i, ↓x_b, ↓x_n, ↓x_st, ↓x_g, ↓x_tup, ↓x_lst, ↓x_bin, ↓x_neg, ↓x_nt, ↓x_cmp, ↓x_chain, ↓x_isN, ↓x_notN, ↓x_and, ↓x_or, ↓x_ite, ↓x_ix, ↓x_cut, ↓x_rev, ↓x_stp, ↓x_callB, ↓x_callkB, ↓x_bi, ↓x_comp, ↓x_pop, ↓x_popA, ↓x_jg, ↓x_jn, ↓x_jp, ↓x_scut, ↓x_slen, ↓srcK, ↓srcL, ↓t_yes, ↓t_and', ↓t_or', ↓t_nt', ↓t_ex, ↓e_nil, ↓e_cons, ↓a_nil', ↓a_cons', ↓rs_nil, ↓rs_cons, ↓frzS_v, ↓frzS_n, ↓asgs_nil, ↓asgs_cons, ↓rd_z, ↓rd_s, ↓set_z, ↓set_s, ↓at_mk, ↓isJar_j, ↓der_v, ↓der_n, ↓der_sl, ↓frz_v, ↓frz_n, ↓frz_sl, ↓asg_v, ↓asg_n, ↓asg_sl, ↓opW, ↓cmpW, ↓eqw_int, ↓eqw_str, ↓eqw_tup, ↓eqw_lst, ↓ordW, ↓truW, ↓noOw, ↓ixW, ↓biW, ↓tgW, ↓tgsW, ↓opwW, ↓itW, ↓wipe_nil, ↓wipe_cons, ↓unwipe, ↓isOw, true_and, Bool.and_true, Bool.not_true, Bool.not_false, Bool.false_eq_true, ↓reduceIte, ↓blk_ap, asInts_map]
    refine ⟨by show 0 < 6; decide, fun m _ hm => ?_⟩
    refine h _ fun z => ?_
    have z := of_decide_eq_true z
    have all : ∀ y ∈ ([f.a, f.b, f.c, f.d, f.p, f.q] : List Int), (if y < 0 then -y else y) ≤ 1000000 := fun y hy => Int.le_trans (hm _ (List.mem_map.mpr ⟨y, hy, rfl⟩)) z
    have one : ∀ y ∈ ([f.a, f.b, f.c, f.d, f.p, f.q] : List Int), -(10 ^ 6) ≤ y ∧ y ≤ 10 ^ 6 := fun y hy => by
      have := all y hy
      split at this <;> omega
    exact ⟨⟨one _ (by simp), one _ (by simp), one _ (by simp), one _ (by simp)⟩, one _ (by simp), one _ (by simp)⟩
theorem p_nearf {n : Nat} {g : Gh} {K : D → Gh → Prop} {X : Exn → Gh → Prop} (hg : GOK g) (h : ∀ f g', NF f → GOK g' → K (fD f) g') : callW T (n + 4) 15 [JAR] g K X := by
  refine call_df (np := 1) (ns := 2) (b := d15.b) rfl rfl ?_
  have e0 : startE 2 [JAR] g = ⟨[.fz JAR, .un], g⟩ := rfl
  rw [e0]
  simp -implicitDefEqProofs only [↓s_cs, ↓nx_ap, ↓s_nil, ↓s_set, ↓s_par, ↓s_unp, ↓s_ret, ↓s_retN, ↓s_drop, ↓s_if, ↓s_whl, ↓s_for, ↓s_app, ↓s_ext, ↓s_put, ↓s_ja, ↓s_ji, ↓s_js, ↓s_jl, ↓s_rais, ↓s_pass, ↓s_brk, ↓s_cont, ↓s_tri, ↓hd_nil, ↓hd_cons, ↓un_s, ↓un_n, ↓hu_ret, ↓hu_ifr, ↓hx_b, ↓hx_s, ↓hx_i, ↓hx_n, ↓hx_fld, ↓hx_isA, ↓hx_nt, ↓hx_and, ↓hx_ite, ↓hx_lst, ↓hx_tup, ↓hxs_nil, ↓hxs_cons, ↓ra_none, ↓ra_some, ↓x_calldB, ↓x_lw, ↓x_dct0, ↓x_v, ↓x_i, ↓x_b, ↓x_n, ↓x_st, ↓x_g, ↓x_tup, ↓x_lst, ↓x_bin, ↓x_neg, ↓x_nt, ↓x_cmp, ↓x_chain, ↓x_isN, ↓x_notN, ↓x_and, ↓x_or, ↓x_ite, ↓x_ix, ↓x_cut, ↓x_rev, ↓x_stp, ↓x_callB, ↓x_callkB, ↓x_bi, ↓x_comp, ↓x_pop, ↓x_popA, ↓x_jg, ↓x_jn, ↓x_jp, ↓x_scut, ↓x_slen, ↓srcK, ↓srcL, ↓t_yes, ↓t_and', ↓t_or', ↓t_nt', ↓t_ex, ↓e_nil, ↓e_cons, ↓a_nil', ↓a_cons', ↓rs_nil, ↓rs_cons, ↓frzS_v, ↓frzS_n, ↓asgs_nil, ↓asgs_cons, ↓rd_z, ↓rd_s, ↓set_z, ↓set_s, ↓at_mk, ↓isJar_j, ↓der_v, ↓der_n, ↓der_sl, ↓frz_v, ↓frz_n, ↓frz_sl, ↓asg_v, ↓asg_n, ↓asg_sl, ↓opW, ↓cmpW, ↓eqw_int, ↓eqw_str, ↓eqw_tup, ↓eqw_lst, ↓ordW, ↓truW, ↓noOw, ↓ixW, ↓biW, ↓tgW, ↓tgsW, ↓opwW, ↓itW, ↓wipe_nil, ↓wipe_cons, ↓unwipe, ↓isOw, true_and, Bool.and_true, Bool.not_true, Bool.not_false, Bool.false_eq_true, ↓reduceIte, ↓blk_ap, ↓d15]
  refine p_draw (n := n + 2) hg (by decide) (by decide) fun w g1 w0 w1 hg1 => ?_
  try simp -implicitDefEqProofs only [↓s_cs, ↓nx_ap, ↓s_nil, ↓s_set, ↓s_par, ↓s_unp, ↓s_ret, ↓s_retN, ↓s_drop, ↓s_if, ↓s_whl, ↓s_for, ↓s_app, ↓s_ext, ↓s_put, ↓s_ja, ↓s_ji, ↓s_js, ↓s_jl, ↓s_rais, ↓s_pass, ↓s_brk, ↓s_cont, ↓s_tri, ↓hd_nil, ↓hd_cons, ↓un_s, ↓un_n, ↓hu_ret, ↓hu_ifr, ↓hx_b, ↓hx_s, ↓hx_i, ↓hx_n, ↓hx_fld, ↓hx_isA, ↓hx_nt, ↓hx_and, ↓hx_ite, ↓hx_lst, ↓hx_tup, ↓hxs_nil, ↓hxs_cons, ↓ra_none, ↓ra_some, ↓x_calldB, ↓x_lw, ↓x_dct0, ↓x_v, ↓x_i, ↓x_b, ↓x_n, ↓x_st, ↓x_g, ↓x_tup, ↓x_lst, ↓x_bin, ↓x_neg, ↓x_nt, ↓x_cmp, ↓x_chain, ↓x_isN, ↓x_notN, ↓x_and, ↓x_or, ↓x_ite, ↓x_ix, ↓x_cut, ↓x_rev, ↓x_stp, ↓x_callB, ↓x_callkB, ↓x_bi, ↓x_comp, ↓x_pop, ↓x_popA, ↓x_jg, ↓x_jn, ↓x_jp, ↓x_scut, ↓x_slen, ↓srcK, ↓srcL, ↓t_yes, ↓t_and', ↓t_or', ↓t_nt', ↓t_ex, ↓e_nil, ↓e_cons, ↓a_nil', ↓a_cons', ↓rs_nil, ↓rs_cons, ↓frzS_v, ↓frzS_n, ↓asgs_nil, ↓asgs_cons, ↓rd_z, ↓rd_s, ↓set_z, ↓set_s, ↓at_mk, ↓isJar_j, ↓der_v, ↓der_n, ↓der_sl, ↓frz_v, ↓frz_n, ↓frz_sl, ↓asg_v, ↓asg_n, ↓asg_sl, ↓opW, ↓cmpW, ↓eqw_int, ↓eqw_str, ↓eqw_tup, ↓eqw_lst, ↓ordW, ↓truW, ↓noOw, ↓ixW, ↓biW, ↓tgW, ↓tgsW, ↓opwW, ↓itW, ↓wipe_nil, ↓wipe_cons, ↓unwipe, ↓isOw, true_and, Bool.and_true, Bool.not_true, Bool.not_false, Bool.false_eq_true, ↓reduceIte, ↓blk_ap]
  refine p_frame (n := n) hg1 fun f g2 hf ho hg2 => ?_
  try simp -implicitDefEqProofs only [↓s_cs, ↓nx_ap, ↓s_nil, ↓s_set, ↓s_par, ↓s_unp, ↓s_ret, ↓s_retN, ↓s_drop, ↓s_if, ↓s_whl, ↓s_for, ↓s_app, ↓s_ext, ↓s_put, ↓s_ja, ↓s_ji, ↓s_js, ↓s_jl, ↓s_rais, ↓s_pass, ↓s_brk, ↓s_cont, ↓s_tri, ↓hd_nil, ↓hd_cons, ↓un_s, ↓un_n, ↓hu_ret, ↓hu_ifr, ↓hx_b, ↓hx_s, ↓hx_i, ↓hx_n, ↓hx_fld, ↓hx_isA, ↓hx_nt, ↓hx_and, ↓hx_ite, ↓hx_lst, ↓hx_tup, ↓hxs_nil, ↓hxs_cons, ↓ra_none, ↓ra_some, ↓x_calldB, ↓x_lw, ↓x_dct0, ↓x_v, ↓x_i, ↓x_b, ↓x_n, ↓x_st, ↓x_g, ↓x_tup, ↓x_lst, ↓x_bin, ↓x_neg, ↓x_nt, ↓x_cmp, ↓x_chain, ↓x_isN, ↓x_notN, ↓x_and, ↓x_or, ↓x_ite, ↓x_ix, ↓x_cut, ↓x_rev, ↓x_stp, ↓x_callB, ↓x_callkB, ↓x_bi, ↓x_comp, ↓x_pop, ↓x_popA, ↓x_jg, ↓x_jn, ↓x_jp, ↓x_scut, ↓x_slen, ↓srcK, ↓srcL, ↓t_yes, ↓t_and', ↓t_or', ↓t_nt', ↓t_ex, ↓e_nil, ↓e_cons, ↓a_nil', ↓a_cons', ↓rs_nil, ↓rs_cons, ↓frzS_v, ↓frzS_n, ↓asgs_nil, ↓asgs_cons, ↓rd_z, ↓rd_s, ↓set_z, ↓set_s, ↓at_mk, ↓isJar_j, ↓der_v, ↓der_n, ↓der_sl, ↓frz_v, ↓frz_n, ↓frz_sl, ↓asg_v, ↓asg_n, ↓asg_sl, ↓opW, ↓cmpW, ↓eqw_int, ↓eqw_str, ↓eqw_tup, ↓eqw_lst, ↓ordW, ↓truW, ↓noOw, ↓ixW, ↓biW, ↓tgW, ↓tgsW, ↓opwW, ↓itW, ↓wipe_nil, ↓wipe_cons, ↓unwipe, ↓isOw, true_and, Bool.and_true, Bool.not_true, Bool.not_false, Bool.false_eq_true, ↓reduceIte, ↓blk_ap]
  refine p_near (n := n + 2) fun b hb => ?_
  try simp -implicitDefEqProofs only [↓s_cs, ↓nx_ap, ↓s_nil, ↓s_set, ↓s_par, ↓s_unp, ↓s_ret, ↓s_retN, ↓s_drop, ↓s_if, ↓s_whl, ↓s_for, ↓s_app, ↓s_ext, ↓s_put, ↓s_ja, ↓s_ji, ↓s_js, ↓s_jl, ↓s_rais, ↓s_pass, ↓s_brk, ↓s_cont, ↓s_tri, ↓hd_nil, ↓hd_cons, ↓un_s, ↓un_n, ↓hu_ret, ↓hu_ifr, ↓hx_b, ↓hx_s, ↓hx_i, ↓hx_n, ↓hx_fld, ↓hx_isA, ↓hx_nt, ↓hx_and, ↓hx_ite, ↓hx_lst, ↓hx_tup, ↓hxs_nil, ↓hxs_cons, ↓ra_none, ↓ra_some, ↓x_calldB, ↓x_lw, ↓x_dct0, ↓x_v, ↓x_i, ↓x_b, ↓x_n, ↓x_st, ↓x_g, ↓x_tup, ↓x_lst, ↓x_bin, ↓x_neg, ↓x_nt, ↓x_cmp, ↓x_chain, ↓x_isN, ↓x_notN, ↓x_and, ↓x_or, ↓x_ite, ↓x_ix, ↓x_cut, ↓x_rev, ↓x_stp, ↓x_callB, ↓x_callkB, ↓x_bi, ↓x_comp, ↓x_pop, ↓x_popA, ↓x_jg, ↓x_jn, ↓x_jp, ↓x_scut, ↓x_slen, ↓srcK, ↓srcL, ↓t_yes, ↓t_and', ↓t_or', ↓t_nt', ↓t_ex, ↓e_nil, ↓e_cons, ↓a_nil', ↓a_cons', ↓rs_nil, ↓rs_cons, ↓frzS_v, ↓frzS_n, ↓asgs_nil, ↓asgs_cons, ↓rd_z, ↓rd_s, ↓set_z, ↓set_s, ↓at_mk, ↓isJar_j, ↓der_v, ↓der_n, ↓der_sl, ↓frz_v, ↓frz_n, ↓frz_sl, ↓asg_v, ↓asg_n, ↓asg_sl, ↓opW, ↓cmpW, ↓eqw_int, ↓eqw_str, ↓eqw_tup, ↓eqw_lst, ↓ordW, ↓truW, ↓noOw, ↓ixW, ↓biW, ↓tgW, ↓tgsW, ↓opwW, ↓itW, ↓wipe_nil, ↓wipe_cons, ↓unwipe, ↓isOw, true_and, Bool.and_true, Bool.not_true, Bool.not_false, Bool.false_eq_true, ↓reduceIte, ↓blk_ap]
  split
  · rename_i z
    obtain ⟨h1, h2, h3⟩ := hb z
    exact h f g2 ⟨h1, h2, h3, ho⟩ hg2
  · exact h ⟨0, -1, 1, 0, 5, -1000000⟩ g2 ⟨by unfold S4; decide, by decide, by decide, .inl rfl⟩ hg2
end G01

-- BLK
set_option linter.all false
set_option maxRecDepth 100000
set_option exponentiation.threshold 200000
namespace G01
open PySem PySem.Spec PyProof.Rows L2 G
def plain : Fr := ⟨1, 0, 0, 1, 0, 0⟩
theorem one_sq {x : Int} (h : One x) : x * x = 1 := by rcases h with rfl | rfl <;> rfl
theorem fr_ext {f g : Fr} (h1 : f.a = g.a) (h2 : f.b = g.b) (h3 : f.c = g.c) (h4 : f.d = g.d) (h5 : f.p = g.p) (h6 : f.q = g.q) : f = g := by
  cases f; cases g
  simp only at h1 h2 h3 h4 h5 h6
  subst h1 h2 h3 h4 h5 h6
  rfl
theorem behind_back {f : Fr} (h : One f.det) : behind f (back f) = plain := by
  have s := one_sq h
  have e : f.det = f.a * f.d - f.b * f.c := rfl
  unfold behind back plain
  generalize f.det = t at *
  apply fr_ext <;> dsimp only <;> grind
theorem back_behind {f : Fr} (h : One f.det) : behind (back f) f = plain := by
  have s := one_sq h
  have e : f.det = f.a * f.d - f.b * f.c := rfl
  unfold behind back plain
  generalize f.det = t at *
  apply fr_ext <;> dsimp only <;> grind
theorem back_on {f : Fr} (h : One f.det) (u : Int × Int) : (back f).on (f.on u) = u := by
  have s := one_sq h
  have e : f.det = f.a * f.d - f.b * f.c := rfl
  unfold Fr.on back
  generalize f.det = t at *
  ext <;> dsimp only <;> grind
theorem det_back {f : Fr} (h : One f.det) : (back f).det = f.det := by
  have s := one_sq h
  have e : f.det = f.a * f.d - f.b * f.c := rfl
  show f.det * f.d * (f.det * f.a) - -f.det * f.b * (-f.det * f.c) = f.det
  generalize f.det = t at *
  grind
theorem back_back {f : Fr} (h : One f.det) : back (back f) = f := by
  have s := one_sq h
  have e : f.det = f.a * f.d - f.b * f.c := rfl
  have d := det_back h
  unfold back at d ⊢
  apply fr_ext <;> dsimp only <;> rw [d] <;> generalize f.det = t at * <;> grind
theorem behind_on (o t : Fr) (u : Int × Int) : (behind o t).on u = t.on (o.on u) := by
  unfold Fr.on behind
  ext <;> dsimp only <;> grind
theorem fD_val {f : Fr} (h : f.a.natAbs < 10 ^ 60 ∧ f.b.natAbs < 10 ^ 60 ∧ f.c.natAbs < 10 ^ 60 ∧ f.d.natAbs < 10 ^ 60 ∧ f.p.natAbs < 10 ^ 60 ∧ f.q.natAbs < 10 ^ 60) : G.Val 1 800 (fD f) := by
  obtain ⟨h1, h2, h3, h4, h5, h6⟩ := h
  refine (val_tup (dp := 0) (m := 61) (c := 6) (fun d hd => ?_) (Nat.le_refl _)).mono (Nat.le_refl _) (by decide)
  simp only [List.mem_cons, List.not_mem_nil, or_false] at hd
  rcases hd with rfl | rfl | rfl | rfl | rfl | rfl <;> exact i_val (by assumption) (Nat.le_refl _)
theorem nf_val {f : Fr} (h : NF f) : G.Val 1 800 (fD f) := by
  obtain ⟨⟨h1, h2, h3, h4⟩, h5, h6, _⟩ := h
  exact fD_val ⟨by omega, by omega, by omega, by omega, by omega, by omega⟩
theorem pt_val {u : Int × Int} (h : (-(10 ^ 40) ≤ u.1 ∧ u.1 ≤ 10 ^ 40) ∧ (-(10 ^ 40) ≤ u.2 ∧ u.2 ≤ 10 ^ 40)) : G.Val 1 800 (pD u) := (pD_val (b60 h.1) (b60 h.2)).mono (Nat.le_refl _) (by decide)
def P2b (m : Nat) (u : Int × Int) : Prop := (-(m : Int) ≤ u.1 ∧ u.1 ≤ m) ∧ (-(m : Int) ≤ u.2 ∧ u.2 ≤ m)
theorem on_bd {f : Fr} {u : Int × Int} {m B C : Nat} (hf : S4 (m : Int) f) (hp : (-(C : Int) ≤ f.p ∧ f.p ≤ C) ∧ (-(C : Int) ≤ f.q ∧ f.q ≤ C)) (hu : P2b B u) : P2b (2 * (m * B) + C) (f.on u) := by
  obtain ⟨h1, h2, h3, h4⟩ := hf
  obtain ⟨u1, u2⟩ := hu
  have a1 := mul_bd h1 u1
  have a2 := mul_bd h2 u2
  have a3 := mul_bd h3 u1
  have a4 := mul_bd h4 u2
  unfold P2b Fr.on
  dsimp only
  omega
theorem pq_behind {o t : Fr} {m B C : Nat} (ht : S4 (m : Int) t) (hp : (-(C : Int) ≤ t.p ∧ t.p ≤ C) ∧ (-(C : Int) ≤ t.q ∧ t.q ≤ C)) (ho : (-(B : Int) ≤ o.p ∧ o.p ≤ B) ∧ (-(B : Int) ≤ o.q ∧ o.q ≤ B)) : P2b (2 * (m * B) + C) ((behind o t).p, (behind o t).q) := on_bd (u := (o.p, o.q)) ht hp ho
theorem pq_back {f : Fr} {m B : Nat} (h : One f.det) (hf : S4 (m : Int) f) (ho : (-(B : Int) ≤ f.p ∧ f.p ≤ B) ∧ (-(B : Int) ≤ f.q ∧ f.q ≤ B)) : P2b (2 * (m * B)) ((back f).p, (back f).q) := by
  obtain ⟨h1, h2, h3, h4⟩ := one_s4 h hf
  have a1 := mul_bd h1 ho.1
  have a2 := mul_bd h2 ho.2
  have a3 := mul_bd h3 ho.1
  have a4 := mul_bd h4 ho.2
  have e1 : (back f).p = -((back f).a * f.p + (back f).b * f.q) := rfl
  have e2 : (back f).q = -((back f).c * f.p + (back f).d * f.q) := rfl
  unfold P2b
  dsimp only
  rw [e1, e2]
  omega
theorem f_val {f : Fr} {m B : Nat} (hm : m < 10 ^ 60) (hB : B < 10 ^ 60) (hf : S4 (m : Int) f) (hp : P2b B (f.p, f.q)) : G.Val 1 800 (fD f) := by
  obtain ⟨h1, h2, h3, h4⟩ := hf
  obtain ⟨h5, h6⟩ := hp
  dsimp only at h5 h6
  exact fD_val ⟨by omega, by omega, by omega, by omega, by omega, by omega⟩
end G01

-- BLK
set_option linter.all false
set_option maxRecDepth 100000
set_option exponentiation.threshold 200000
namespace G01
open PySem PySem.Spec PyProof.Rows L2 G
theorem p_frames {n : Nat} {g : Gh} {K : D → Gh → Prop} {X : Exn → Gh → Prop} (hg : GOK g) (h : ∀ g', GOK g' → K (.bool true) g') : callW T (n + 5) 23 [JAR] g K X := by
  refine call_df (np := 1) (ns := 10) (b := d23.b) rfl rfl ?_
  have e0 : startE 10 [JAR] g = ⟨[.fz JAR, .un, .un, .un, .un, .un, .un, .un, .un, .un], g⟩ := rfl
  rw [e0]
  simp -implicitDefEqProofs only [↓s_cs, ↓nx_ap, ↓s_nil, ↓s_set, ↓s_par, ↓s_unp, ↓s_ret, ↓s_retN, ↓s_drop, ↓s_if, ↓s_whl, ↓s_for, ↓s_app, ↓s_ext, ↓s_put, ↓s_ja, ↓s_ji, ↓s_js, ↓s_jl, ↓s_rais, ↓s_pass, ↓s_brk, ↓s_cont, ↓s_tri, ↓hd_nil, ↓hd_cons, ↓un_s, ↓un_n, ↓hu_ret, ↓hu_ifr, ↓hx_b, ↓hx_s, ↓hx_i, ↓hx_n, ↓hx_fld, ↓hx_isA, ↓hx_nt, ↓hx_and, ↓hx_ite, ↓hx_lst, ↓hx_tup, ↓hxs_nil, ↓hxs_cons, ↓ra_none, ↓ra_some, ↓x_calldB, ↓x_lw, ↓x_dct0, ↓x_v, ↓x_i, ↓x_b, ↓x_n, ↓x_st, ↓x_g, ↓x_tup, ↓x_lst, ↓x_bin, ↓x_neg, ↓x_nt, ↓x_cmp, ↓x_chain, ↓x_isN, ↓x_notN, ↓x_and, ↓x_or, ↓x_ite, ↓x_ix, ↓x_cut, ↓x_rev, ↓x_stp, ↓x_callB, ↓x_callkB, ↓x_bi, ↓x_comp, ↓x_pop, ↓x_popA, ↓x_jg, ↓x_jn, ↓x_jp, ↓x_scut, ↓x_slen, ↓srcK, ↓srcL, ↓t_yes, ↓t_and', ↓t_or', ↓t_nt', ↓t_ex, ↓e_nil, ↓e_cons, ↓a_nil', ↓a_cons', ↓rs_nil, ↓rs_cons, ↓frzS_v, ↓frzS_n, ↓asgs_nil, ↓asgs_cons, ↓rd_z, ↓rd_s, ↓set_z, ↓set_s, ↓at_mk, ↓isJar_j, ↓der_v, ↓der_n, ↓der_sl, ↓frz_v, ↓frz_n, ↓frz_sl, ↓asg_v, ↓asg_n, ↓asg_sl, ↓opW, ↓cmpW, ↓eqw_int, ↓eqw_str, ↓eqw_tup, ↓eqw_lst, ↓ordW, ↓truW, ↓noOw, ↓ixW, ↓biW, ↓tgW, ↓tgsW, ↓opwW, ↓itW, ↓wipe_nil, ↓wipe_cons, ↓unwipe, ↓isOw, true_and, Bool.and_true, Bool.not_true, Bool.not_false, Bool.false_eq_true, ↓reduceIte, ↓blk_ap, ↓d23]
  refine p_nearf (n := n) hg fun one g1 ho hg1 => ?_
  try simp -implicitDefEqProofs only [↓s_cs, ↓nx_ap, ↓s_nil, ↓s_set, ↓s_par, ↓s_unp, ↓s_ret, ↓s_retN, ↓s_drop, ↓s_if, ↓s_whl, ↓s_for, ↓s_app, ↓s_ext, ↓s_put, ↓s_ja, ↓s_ji, ↓s_js, ↓s_jl, ↓s_rais, ↓s_pass, ↓s_brk, ↓s_cont, ↓s_tri, ↓hd_nil, ↓hd_cons, ↓un_s, ↓un_n, ↓hu_ret, ↓hu_ifr, ↓hx_b, ↓hx_s, ↓hx_i, ↓hx_n, ↓hx_fld, ↓hx_isA, ↓hx_nt, ↓hx_and, ↓hx_ite, ↓hx_lst, ↓hx_tup, ↓hxs_nil, ↓hxs_cons, ↓ra_none, ↓ra_some, ↓x_calldB, ↓x_lw, ↓x_dct0, ↓x_v, ↓x_i, ↓x_b, ↓x_n, ↓x_st, ↓x_g, ↓x_tup, ↓x_lst, ↓x_bin, ↓x_neg, ↓x_nt, ↓x_cmp, ↓x_chain, ↓x_isN, ↓x_notN, ↓x_and, ↓x_or, ↓x_ite, ↓x_ix, ↓x_cut, ↓x_rev, ↓x_stp, ↓x_callB, ↓x_callkB, ↓x_bi, ↓x_comp, ↓x_pop, ↓x_popA, ↓x_jg, ↓x_jn, ↓x_jp, ↓x_scut, ↓x_slen, ↓srcK, ↓srcL, ↓t_yes, ↓t_and', ↓t_or', ↓t_nt', ↓t_ex, ↓e_nil, ↓e_cons, ↓a_nil', ↓a_cons', ↓rs_nil, ↓rs_cons, ↓frzS_v, ↓frzS_n, ↓asgs_nil, ↓asgs_cons, ↓rd_z, ↓rd_s, ↓set_z, ↓set_s, ↓at_mk, ↓isJar_j, ↓der_v, ↓der_n, ↓der_sl, ↓frz_v, ↓frz_n, ↓frz_sl, ↓asg_v, ↓asg_n, ↓asg_sl, ↓opW, ↓cmpW, ↓eqw_int, ↓eqw_str, ↓eqw_tup, ↓eqw_lst, ↓ordW, ↓truW, ↓noOw, ↓ixW, ↓biW, ↓tgW, ↓tgsW, ↓opwW, ↓itW, ↓wipe_nil, ↓wipe_cons, ↓unwipe, ↓isOw, true_and, Bool.and_true, Bool.not_true, Bool.not_false, Bool.false_eq_true, ↓reduceIte, ↓blk_ap]
  refine p_nearf (n := n) hg1 fun oth g2 hoth hg2 => ?_
  try simp -implicitDefEqProofs only [↓s_cs, ↓nx_ap, ↓s_nil, ↓s_set, ↓s_par, ↓s_unp, ↓s_ret, ↓s_retN, ↓s_drop, ↓s_if, ↓s_whl, ↓s_for, ↓s_app, ↓s_ext, ↓s_put, ↓s_ja, ↓s_ji, ↓s_js, ↓s_jl, ↓s_rais, ↓s_pass, ↓s_brk, ↓s_cont, ↓s_tri, ↓hd_nil, ↓hd_cons, ↓un_s, ↓un_n, ↓hu_ret, ↓hu_ifr, ↓hx_b, ↓hx_s, ↓hx_i, ↓hx_n, ↓hx_fld, ↓hx_isA, ↓hx_nt, ↓hx_and, ↓hx_ite, ↓hx_lst, ↓hx_tup, ↓hxs_nil, ↓hxs_cons, ↓ra_none, ↓ra_some, ↓x_calldB, ↓x_lw, ↓x_dct0, ↓x_v, ↓x_i, ↓x_b, ↓x_n, ↓x_st, ↓x_g, ↓x_tup, ↓x_lst, ↓x_bin, ↓x_neg, ↓x_nt, ↓x_cmp, ↓x_chain, ↓x_isN, ↓x_notN, ↓x_and, ↓x_or, ↓x_ite, ↓x_ix, ↓x_cut, ↓x_rev, ↓x_stp, ↓x_callB, ↓x_callkB, ↓x_bi, ↓x_comp, ↓x_pop, ↓x_popA, ↓x_jg, ↓x_jn, ↓x_jp, ↓x_scut, ↓x_slen, ↓srcK, ↓srcL, ↓t_yes, ↓t_and', ↓t_or', ↓t_nt', ↓t_ex, ↓e_nil, ↓e_cons, ↓a_nil', ↓a_cons', ↓rs_nil, ↓rs_cons, ↓frzS_v, ↓frzS_n, ↓asgs_nil, ↓asgs_cons, ↓rd_z, ↓rd_s, ↓set_z, ↓set_s, ↓at_mk, ↓isJar_j, ↓der_v, ↓der_n, ↓der_sl, ↓frz_v, ↓frz_n, ↓frz_sl, ↓asg_v, ↓asg_n, ↓asg_sl, ↓opW, ↓cmpW, ↓eqw_int, ↓eqw_str, ↓eqw_tup, ↓eqw_lst, ↓ordW, ↓truW, ↓noOw, ↓ixW, ↓biW, ↓tgW, ↓tgsW, ↓opwW, ↓itW, ↓wipe_nil, ↓wipe_cons, ↓unwipe, ↓isOw, true_and, Bool.and_true, Bool.not_true, Bool.not_false, Bool.false_eq_true, ↓reduceIte, ↓blk_ap]
  refine p_draw (n := n + 3) hg2 (by decide) (by decide) fun x g3 x0 x1 hg3 => ?_
  try simp -implicitDefEqProofs only [↓s_cs, ↓nx_ap, ↓s_nil, ↓s_set, ↓s_par, ↓s_unp, ↓s_ret, ↓s_retN, ↓s_drop, ↓s_if, ↓s_whl, ↓s_for, ↓s_app, ↓s_ext, ↓s_put, ↓s_ja, ↓s_ji, ↓s_js, ↓s_jl, ↓s_rais, ↓s_pass, ↓s_brk, ↓s_cont, ↓s_tri, ↓hd_nil, ↓hd_cons, ↓un_s, ↓un_n, ↓hu_ret, ↓hu_ifr, ↓hx_b, ↓hx_s, ↓hx_i, ↓hx_n, ↓hx_fld, ↓hx_isA, ↓hx_nt, ↓hx_and, ↓hx_ite, ↓hx_lst, ↓hx_tup, ↓hxs_nil, ↓hxs_cons, ↓ra_none, ↓ra_some, ↓x_calldB, ↓x_lw, ↓x_dct0, ↓x_v, ↓x_i, ↓x_b, ↓x_n, ↓x_st, ↓x_g, ↓x_tup, ↓x_lst, ↓x_bin, ↓x_neg, ↓x_nt, ↓x_cmp, ↓x_chain, ↓x_isN, ↓x_notN, ↓x_and, ↓x_or, ↓x_ite, ↓x_ix, ↓x_cut, ↓x_rev, ↓x_stp, ↓x_callB, ↓x_callkB, ↓x_bi, ↓x_comp, ↓x_pop, ↓x_popA, ↓x_jg, ↓x_jn, ↓x_jp, ↓x_scut, ↓x_slen, ↓srcK, ↓srcL, ↓t_yes, ↓t_and', ↓t_or', ↓t_nt', ↓t_ex, ↓e_nil, ↓e_cons, ↓a_nil', ↓a_cons', ↓rs_nil, ↓rs_cons, ↓frzS_v, ↓frzS_n, ↓asgs_nil, ↓asgs_cons, ↓rd_z, ↓rd_s, ↓set_z, ↓set_s, ↓at_mk, ↓isJar_j, ↓der_v, ↓der_n, ↓der_sl, ↓frz_v, ↓frz_n, ↓frz_sl, ↓asg_v, ↓asg_n, ↓asg_sl, ↓opW, ↓cmpW, ↓eqw_int, ↓eqw_str, ↓eqw_tup, ↓eqw_lst, ↓ordW, ↓truW, ↓noOw, ↓ixW, ↓biW, ↓tgW, ↓tgsW, ↓opwW, ↓itW, ↓wipe_nil, ↓wipe_cons, ↓unwipe, ↓isOw, true_and, Bool.and_true, Bool.not_true, Bool.not_false, Bool.false_eq_true, ↓reduceIte, ↓blk_ap]
  refine p_draw (n := n + 3) hg3 (by decide) (by decide) fun y g4 y0 y1 hg4 => ?_
  try simp -implicitDefEqProofs only [↓s_cs, ↓nx_ap, ↓s_nil, ↓s_set, ↓s_par, ↓s_unp, ↓s_ret, ↓s_retN, ↓s_drop, ↓s_if, ↓s_whl, ↓s_for, ↓s_app, ↓s_ext, ↓s_put, ↓s_ja, ↓s_ji, ↓s_js, ↓s_jl, ↓s_rais, ↓s_pass, ↓s_brk, ↓s_cont, ↓s_tri, ↓hd_nil, ↓hd_cons, ↓un_s, ↓un_n, ↓hu_ret, ↓hu_ifr, ↓hx_b, ↓hx_s, ↓hx_i, ↓hx_n, ↓hx_fld, ↓hx_isA, ↓hx_nt, ↓hx_and, ↓hx_ite, ↓hx_lst, ↓hx_tup, ↓hxs_nil, ↓hxs_cons, ↓ra_none, ↓ra_some, ↓x_calldB, ↓x_lw, ↓x_dct0, ↓x_v, ↓x_i, ↓x_b, ↓x_n, ↓x_st, ↓x_g, ↓x_tup, ↓x_lst, ↓x_bin, ↓x_neg, ↓x_nt, ↓x_cmp, ↓x_chain, ↓x_isN, ↓x_notN, ↓x_and, ↓x_or, ↓x_ite, ↓x_ix, ↓x_cut, ↓x_rev, ↓x_stp, ↓x_callB, ↓x_callkB, ↓x_bi, ↓x_comp, ↓x_pop, ↓x_popA, ↓x_jg, ↓x_jn, ↓x_jp, ↓x_scut, ↓x_slen, ↓srcK, ↓srcL, ↓t_yes, ↓t_and', ↓t_or', ↓t_nt', ↓t_ex, ↓e_nil, ↓e_cons, ↓a_nil', ↓a_cons', ↓rs_nil, ↓rs_cons, ↓frzS_v, ↓frzS_n, ↓asgs_nil, ↓asgs_cons, ↓rd_z, ↓rd_s, ↓set_z, ↓set_s, ↓at_mk, ↓isJar_j, ↓der_v, ↓der_n, ↓der_sl, ↓frz_v, ↓frz_n, ↓frz_sl, ↓asg_v, ↓asg_n, ↓asg_sl, ↓opW, ↓cmpW, ↓eqw_int, ↓eqw_str, ↓eqw_tup, ↓eqw_lst, ↓ordW, ↓truW, ↓noOw, ↓ixW, ↓biW, ↓tgW, ↓tgsW, ↓opwW, ↓itW, ↓wipe_nil, ↓wipe_cons, ↓unwipe, ↓isOw, true_and, Bool.and_true, Bool.not_true, Bool.not_false, Bool.false_eq_true, ↓reduceIte, ↓blk_ap]
  refine p_pick (n := n + 2) (.inl rfl) hg4 (by show 1 ≤ 4; decide) (by show 4 < 10 ^ 9; decide) fun pt g5 hpt hg5 => ?_
  obtain ⟨u, rfl, hu⟩ : ∃ u : Int × Int, pt = pD u ∧ P2b (10 ^ 6) u := by
    simp only [List.mem_cons, List.not_mem_nil, or_false] at hpt
    rcases hpt with rfl | rfl | rfl | rfl
    · exact ⟨(0, 0), rfl, by unfold P2b; decide⟩
    · exact ⟨(1, 0), rfl, by unfold P2b; decide⟩
    · exact ⟨(x - 49, y), rfl, by unfold P2b; dsimp only; omega⟩
    · exact ⟨(1000000, -1000000), rfl, by unfold P2b; decide⟩
  have b6 : ∀ {f : Fr}, NF f → (S4 ((10 ^ 6 : Nat) : Int) f ∧ ((-((10 ^ 6 : Nat) : Int) ≤ f.p ∧ f.p ≤ ((10 ^ 6 : Nat) : Int)) ∧ (-((10 ^ 6 : Nat) : Int) ≤ f.q ∧ f.q ≤ ((10 ^ 6 : Nat) : Int)))) := fun hf => ⟨hf.s.mono (by decide), ⟨by have := hf.p; omega, by have := hf.q; omega⟩⟩
  obtain ⟨s1, pq1⟩ := b6 ho
  obtain ⟨s2, pq2⟩ := b6 hoth
  have m1 : S4 (10 ^ 17) one := s1.mono (by decide)
  have m2 : S4 (10 ^ 17) oth := s2.mono (by decide)
  have o1 := ho.o
  have o2 := hoth.o
  have v1 := nf_val ho
  have v2 := nf_val hoth
  have vu : G.Val 1 800 (pD u) := pt_val (by unfold P2b at hu; omega)
  have vk : G.Val 2 100000 (.list [fD one, fD oth, pD u]) := lst_val (fun d hd => by
    simp only [List.mem_cons, List.not_mem_nil, or_false] at hd
    rcases hd with rfl | rfl | rfl
    · exact v1
    · exact v2
    · exact vu) (by show 3 ≤ 100; decide)
  have sF := s4_behind s1 s2
  have pqF := pq_behind s2 pq2 pq1
  have oF : One (behind one oth).det := by rw [det_behind]; exact one_mul o2 o1
  have mF : S4 (10 ^ 17) (behind one oth) := sF.mono (by decide)
  have sB := one_s4 o1 s1
  have pqB := pq_back o1 s1 pq1
  have bon := on_bd s1 pq1 hu
  have vB := f_val (by decide) (by decide) sB pqB
  have vF := f_val (by decide) (by decide) sF pqF
  have vO : G.Val 1 800 (pD (one.on u)) := pt_val (by unfold P2b at bon; omega)
  try simp -implicitDefEqProofs only [↓s_cs, ↓nx_ap, ↓s_nil, ↓s_set, ↓s_par, ↓s_unp, ↓s_ret, ↓s_retN, ↓s_drop, ↓s_if, ↓s_whl, ↓s_for, ↓s_app, ↓s_ext, ↓s_put, ↓s_ja, ↓s_ji, ↓s_js, ↓s_jl, ↓s_rais, ↓s_pass, ↓s_brk, ↓s_cont, ↓s_tri, ↓hd_nil, ↓hd_cons, ↓un_s, ↓un_n, ↓hu_ret, ↓hu_ifr, ↓hx_b, ↓hx_s, ↓hx_i, ↓hx_n, ↓hx_fld, ↓hx_isA, ↓hx_nt, ↓hx_and, ↓hx_ite, ↓hx_lst, ↓hx_tup, ↓hxs_nil, ↓hxs_cons, ↓ra_none, ↓ra_some, ↓x_calldB, ↓x_lw, ↓x_dct0, ↓x_v, ↓x_i, ↓x_b, ↓x_n, ↓x_st, ↓x_g, ↓x_tup, ↓x_lst, ↓x_bin, ↓x_neg, ↓x_nt, ↓x_cmp, ↓x_chain, ↓x_isN, ↓x_notN, ↓x_and, ↓x_or, ↓x_ite, ↓x_ix, ↓x_cut, ↓x_rev, ↓x_stp, ↓x_callB, ↓x_callkB, ↓x_bi, ↓x_comp, ↓x_pop, ↓x_popA, ↓x_jg, ↓x_jn, ↓x_jp, ↓x_scut, ↓x_slen, ↓srcK, ↓srcL, ↓t_yes, ↓t_and', ↓t_or', ↓t_nt', ↓t_ex, ↓e_nil, ↓e_cons, ↓a_nil', ↓a_cons', ↓rs_nil, ↓rs_cons, ↓frzS_v, ↓frzS_n, ↓asgs_nil, ↓asgs_cons, ↓rd_z, ↓rd_s, ↓set_z, ↓set_s, ↓at_mk, ↓isJar_j, ↓der_v, ↓der_n, ↓der_sl, ↓frz_v, ↓frz_n, ↓frz_sl, ↓asg_v, ↓asg_n, ↓asg_sl, ↓opW, ↓cmpW, ↓eqw_int, ↓eqw_str, ↓eqw_tup, ↓eqw_lst, ↓ordW, ↓truW, ↓noOw, ↓ixW, ↓biW, ↓tgW, ↓tgsW, ↓opwW, ↓itW, ↓wipe_nil, ↓wipe_cons, ↓unwipe, ↓isOw, true_and, Bool.and_true, Bool.not_true, Bool.not_false, Bool.false_eq_true, ↓reduceIte, ↓blk_ap]
  refine vk.rp (by decide) z1 ?_
  refine p_lframed (n := n + 3) m1 ?_
  have r2 : ∀ x : D, (List.replicate (Int.toNat 2) [x]).flatten = [x, x] := fun _ => rfl
  have ls : ∀ a c : D, List.map (fun p => ([] ++ [a, c]).getD p PyData.none) [1, 0] = [c, a] := fun _ _ => rfl
  have lst : ∀ v : D, List.map (fun p => ([] ++ [v]).getD p PyData.none) [0] = [v] := fun _ => rfl
  try simp -implicitDefEqProofs only [↓s_cs, ↓nx_ap, ↓s_nil, ↓s_set, ↓s_par, ↓s_unp, ↓s_ret, ↓s_retN, ↓s_drop, ↓s_if, ↓s_whl, ↓s_for, ↓s_app, ↓s_ext, ↓s_put, ↓s_ja, ↓s_ji, ↓s_js, ↓s_jl, ↓s_rais, ↓s_pass, ↓s_brk, ↓s_cont, ↓s_tri, ↓hd_nil, ↓hd_cons, ↓un_s, ↓un_n, ↓hu_ret, ↓hu_ifr, ↓hx_b, ↓hx_s, ↓hx_i, ↓hx_n, ↓hx_fld, ↓hx_isA, ↓hx_nt, ↓hx_and, ↓hx_ite, ↓hx_lst, ↓hx_tup, ↓hxs_nil, ↓hxs_cons, ↓ra_none, ↓ra_some, ↓x_calldB, ↓x_lw, ↓x_dct0, ↓x_v, ↓x_i, ↓x_b, ↓x_n, ↓x_st, ↓x_g, ↓x_tup, ↓x_lst, ↓x_bin, ↓x_neg, ↓x_nt, ↓x_cmp, ↓x_chain, ↓x_isN, ↓x_notN, ↓x_and, ↓x_or, ↓x_ite, ↓x_ix, ↓x_cut, ↓x_rev, ↓x_stp, ↓x_callB, ↓x_callkB, ↓x_bi, ↓x_comp, ↓x_pop, ↓x_popA, ↓x_jg, ↓x_jn, ↓x_jp, ↓x_scut, ↓x_slen, ↓srcK, ↓srcL, ↓t_yes, ↓t_and', ↓t_or', ↓t_nt', ↓t_ex, ↓e_nil, ↓e_cons, ↓a_nil', ↓a_cons', ↓rs_nil, ↓rs_cons, ↓frzS_v, ↓frzS_n, ↓asgs_nil, ↓asgs_cons, ↓rd_z, ↓rd_s, ↓set_z, ↓set_s, ↓at_mk, ↓isJar_j, ↓der_v, ↓der_n, ↓der_sl, ↓frz_v, ↓frz_n, ↓frz_sl, ↓asg_v, ↓asg_n, ↓asg_sl, ↓opW, ↓cmpW, ↓eqw_int, ↓eqw_str, ↓eqw_tup, ↓eqw_lst, ↓ordW, ↓truW, ↓noOw, ↓ixW, ↓biW, ↓tgW, ↓tgsW, ↓opwW, ↓itW, ↓wipe_nil, ↓wipe_cons, ↓unwipe, ↓isOw, true_and, Bool.and_true, Bool.not_true, Bool.not_false, Bool.false_eq_true, ↓reduceIte, ↓blk_ap, r2]
  refine ⟨by decide, by decide, by show 1 * 2 ≤ SZ; decide, p_behind (n := n + 3) m2 ?_⟩
  try simp -implicitDefEqProofs only [↓s_cs, ↓nx_ap, ↓s_nil, ↓s_set, ↓s_par, ↓s_unp, ↓s_ret, ↓s_retN, ↓s_drop, ↓s_if, ↓s_whl, ↓s_for, ↓s_app, ↓s_ext, ↓s_put, ↓s_ja, ↓s_ji, ↓s_js, ↓s_jl, ↓s_rais, ↓s_pass, ↓s_brk, ↓s_cont, ↓s_tri, ↓hd_nil, ↓hd_cons, ↓un_s, ↓un_n, ↓hu_ret, ↓hu_ifr, ↓hx_b, ↓hx_s, ↓hx_i, ↓hx_n, ↓hx_fld, ↓hx_isA, ↓hx_nt, ↓hx_and, ↓hx_ite, ↓hx_lst, ↓hx_tup, ↓hxs_nil, ↓hxs_cons, ↓ra_none, ↓ra_some, ↓x_calldB, ↓x_lw, ↓x_dct0, ↓x_v, ↓x_i, ↓x_b, ↓x_n, ↓x_st, ↓x_g, ↓x_tup, ↓x_lst, ↓x_bin, ↓x_neg, ↓x_nt, ↓x_cmp, ↓x_chain, ↓x_isN, ↓x_notN, ↓x_and, ↓x_or, ↓x_ite, ↓x_ix, ↓x_cut, ↓x_rev, ↓x_stp, ↓x_callB, ↓x_callkB, ↓x_bi, ↓x_comp, ↓x_pop, ↓x_popA, ↓x_jg, ↓x_jn, ↓x_jp, ↓x_scut, ↓x_slen, ↓srcK, ↓srcL, ↓t_yes, ↓t_and', ↓t_or', ↓t_nt', ↓t_ex, ↓e_nil, ↓e_cons, ↓a_nil', ↓a_cons', ↓rs_nil, ↓rs_cons, ↓frzS_v, ↓frzS_n, ↓asgs_nil, ↓asgs_cons, ↓rd_z, ↓rd_s, ↓set_z, ↓set_s, ↓at_mk, ↓isJar_j, ↓der_v, ↓der_n, ↓der_sl, ↓frz_v, ↓frz_n, ↓frz_sl, ↓asg_v, ↓asg_n, ↓asg_sl, ↓opW, ↓cmpW, ↓eqw_int, ↓eqw_str, ↓eqw_tup, ↓eqw_lst, ↓ordW, ↓truW, ↓noOw, ↓ixW, ↓biW, ↓tgW, ↓tgsW, ↓opwW, ↓itW, ↓wipe_nil, ↓wipe_cons, ↓unwipe, ↓isOw, true_and, Bool.and_true, Bool.not_true, Bool.not_false, Bool.false_eq_true, ↓reduceIte, ↓blk_ap, r2]
  refine ⟨by decide, by decide, by show 1 * 2 ≤ SZ; decide, by show 2 + 2 ≤ SZ; decide, p_lback (n := n + 2) m1 o1 ?_⟩
  try simp -implicitDefEqProofs only [↓s_cs, ↓nx_ap, ↓s_nil, ↓s_set, ↓s_par, ↓s_unp, ↓s_ret, ↓s_retN, ↓s_drop, ↓s_if, ↓s_whl, ↓s_for, ↓s_app, ↓s_ext, ↓s_put, ↓s_ja, ↓s_ji, ↓s_js, ↓s_jl, ↓s_rais, ↓s_pass, ↓s_brk, ↓s_cont, ↓s_tri, ↓hd_nil, ↓hd_cons, ↓un_s, ↓un_n, ↓hu_ret, ↓hu_ifr, ↓hx_b, ↓hx_s, ↓hx_i, ↓hx_n, ↓hx_fld, ↓hx_isA, ↓hx_nt, ↓hx_and, ↓hx_ite, ↓hx_lst, ↓hx_tup, ↓hxs_nil, ↓hxs_cons, ↓ra_none, ↓ra_some, ↓x_calldB, ↓x_lw, ↓x_dct0, ↓x_v, ↓x_i, ↓x_b, ↓x_n, ↓x_st, ↓x_g, ↓x_tup, ↓x_lst, ↓x_bin, ↓x_neg, ↓x_nt, ↓x_cmp, ↓x_chain, ↓x_isN, ↓x_notN, ↓x_and, ↓x_or, ↓x_ite, ↓x_ix, ↓x_cut, ↓x_rev, ↓x_stp, ↓x_callB, ↓x_callkB, ↓x_bi, ↓x_comp, ↓x_pop, ↓x_popA, ↓x_jg, ↓x_jn, ↓x_jp, ↓x_scut, ↓x_slen, ↓srcK, ↓srcL, ↓t_yes, ↓t_and', ↓t_or', ↓t_nt', ↓t_ex, ↓e_nil, ↓e_cons, ↓a_nil', ↓a_cons', ↓rs_nil, ↓rs_cons, ↓frzS_v, ↓frzS_n, ↓asgs_nil, ↓asgs_cons, ↓rd_z, ↓rd_s, ↓set_z, ↓set_s, ↓at_mk, ↓isJar_j, ↓der_v, ↓der_n, ↓der_sl, ↓frz_v, ↓frz_n, ↓frz_sl, ↓asg_v, ↓asg_n, ↓asg_sl, ↓opW, ↓cmpW, ↓eqw_int, ↓eqw_str, ↓eqw_tup, ↓eqw_lst, ↓ordW, ↓truW, ↓noOw, ↓ixW, ↓biW, ↓tgW, ↓tgsW, ↓opwW, ↓itW, ↓wipe_nil, ↓wipe_cons, ↓unwipe, ↓isOw, true_and, Bool.and_true, Bool.not_true, Bool.not_false, Bool.false_eq_true, ↓reduceIte, ↓blk_ap, r2]
  refine ⟨by decide, by decide, by show 1 * 2 ≤ SZ; decide, by show 4 + 2 ≤ SZ; decide, p_framed (n := n + 3) (m1.mono (by decide)) ?_⟩
  try simp -implicitDefEqProofs only [↓s_cs, ↓nx_ap, ↓s_nil, ↓s_set, ↓s_par, ↓s_unp, ↓s_ret, ↓s_retN, ↓s_drop, ↓s_if, ↓s_whl, ↓s_for, ↓s_app, ↓s_ext, ↓s_put, ↓s_ja, ↓s_ji, ↓s_js, ↓s_jl, ↓s_rais, ↓s_pass, ↓s_brk, ↓s_cont, ↓s_tri, ↓hd_nil, ↓hd_cons, ↓un_s, ↓un_n, ↓hu_ret, ↓hu_ifr, ↓hx_b, ↓hx_s, ↓hx_i, ↓hx_n, ↓hx_fld, ↓hx_isA, ↓hx_nt, ↓hx_and, ↓hx_ite, ↓hx_lst, ↓hx_tup, ↓hxs_nil, ↓hxs_cons, ↓ra_none, ↓ra_some, ↓x_calldB, ↓x_lw, ↓x_dct0, ↓x_v, ↓x_i, ↓x_b, ↓x_n, ↓x_st, ↓x_g, ↓x_tup, ↓x_lst, ↓x_bin, ↓x_neg, ↓x_nt, ↓x_cmp, ↓x_chain, ↓x_isN, ↓x_notN, ↓x_and, ↓x_or, ↓x_ite, ↓x_ix, ↓x_cut, ↓x_rev, ↓x_stp, ↓x_callB, ↓x_callkB, ↓x_bi, ↓x_comp, ↓x_pop, ↓x_popA, ↓x_jg, ↓x_jn, ↓x_jp, ↓x_scut, ↓x_slen, ↓srcK, ↓srcL, ↓t_yes, ↓t_and', ↓t_or', ↓t_nt', ↓t_ex, ↓e_nil, ↓e_cons, ↓a_nil', ↓a_cons', ↓rs_nil, ↓rs_cons, ↓frzS_v, ↓frzS_n, ↓asgs_nil, ↓asgs_cons, ↓rd_z, ↓rd_s, ↓set_z, ↓set_s, ↓at_mk, ↓isJar_j, ↓der_v, ↓der_n, ↓der_sl, ↓frz_v, ↓frz_n, ↓frz_sl, ↓asg_v, ↓asg_n, ↓asg_sl, ↓opW, ↓cmpW, ↓eqw_int, ↓eqw_str, ↓eqw_tup, ↓eqw_lst, ↓ordW, ↓truW, ↓noOw, ↓ixW, ↓biW, ↓tgW, ↓tgsW, ↓opwW, ↓itW, ↓wipe_nil, ↓wipe_cons, ↓unwipe, ↓isOw, true_and, Bool.and_true, Bool.not_true, Bool.not_false, Bool.false_eq_true, ↓reduceIte, ↓blk_ap, ls]
  refine p_framed (n := n + 3) (m1.mono (by decide)) ?_
  try simp -implicitDefEqProofs only [↓s_cs, ↓nx_ap, ↓s_nil, ↓s_set, ↓s_par, ↓s_unp, ↓s_ret, ↓s_retN, ↓s_drop, ↓s_if, ↓s_whl, ↓s_for, ↓s_app, ↓s_ext, ↓s_put, ↓s_ja, ↓s_ji, ↓s_js, ↓s_jl, ↓s_rais, ↓s_pass, ↓s_brk, ↓s_cont, ↓s_tri, ↓hd_nil, ↓hd_cons, ↓un_s, ↓un_n, ↓hu_ret, ↓hu_ifr, ↓hx_b, ↓hx_s, ↓hx_i, ↓hx_n, ↓hx_fld, ↓hx_isA, ↓hx_nt, ↓hx_and, ↓hx_ite, ↓hx_lst, ↓hx_tup, ↓hxs_nil, ↓hxs_cons, ↓ra_none, ↓ra_some, ↓x_calldB, ↓x_lw, ↓x_dct0, ↓x_v, ↓x_i, ↓x_b, ↓x_n, ↓x_st, ↓x_g, ↓x_tup, ↓x_lst, ↓x_bin, ↓x_neg, ↓x_nt, ↓x_cmp, ↓x_chain, ↓x_isN, ↓x_notN, ↓x_and, ↓x_or, ↓x_ite, ↓x_ix, ↓x_cut, ↓x_rev, ↓x_stp, ↓x_callB, ↓x_callkB, ↓x_bi, ↓x_comp, ↓x_pop, ↓x_popA, ↓x_jg, ↓x_jn, ↓x_jp, ↓x_scut, ↓x_slen, ↓srcK, ↓srcL, ↓t_yes, ↓t_and', ↓t_or', ↓t_nt', ↓t_ex, ↓e_nil, ↓e_cons, ↓a_nil', ↓a_cons', ↓rs_nil, ↓rs_cons, ↓frzS_v, ↓frzS_n, ↓asgs_nil, ↓asgs_cons, ↓rd_z, ↓rd_s, ↓set_z, ↓set_s, ↓at_mk, ↓isJar_j, ↓der_v, ↓der_n, ↓der_sl, ↓frz_v, ↓frz_n, ↓frz_sl, ↓asg_v, ↓asg_n, ↓asg_sl, ↓opW, ↓cmpW, ↓eqw_int, ↓eqw_str, ↓eqw_tup, ↓eqw_lst, ↓ordW, ↓truW, ↓noOw, ↓ixW, ↓biW, ↓tgW, ↓tgsW, ↓opwW, ↓itW, ↓wipe_nil, ↓wipe_cons, ↓unwipe, ↓isOw, true_and, Bool.and_true, Bool.not_true, Bool.not_false, Bool.false_eq_true, ↓reduceIte, ↓blk_ap]
  refine p_fbehind (n := n + 2) m2 ?_
  try simp -implicitDefEqProofs only [↓s_cs, ↓nx_ap, ↓s_nil, ↓s_set, ↓s_par, ↓s_unp, ↓s_ret, ↓s_retN, ↓s_drop, ↓s_if, ↓s_whl, ↓s_for, ↓s_app, ↓s_ext, ↓s_put, ↓s_ja, ↓s_ji, ↓s_js, ↓s_jl, ↓s_rais, ↓s_pass, ↓s_brk, ↓s_cont, ↓s_tri, ↓hd_nil, ↓hd_cons, ↓un_s, ↓un_n, ↓hu_ret, ↓hu_ifr, ↓hx_b, ↓hx_s, ↓hx_i, ↓hx_n, ↓hx_fld, ↓hx_isA, ↓hx_nt, ↓hx_and, ↓hx_ite, ↓hx_lst, ↓hx_tup, ↓hxs_nil, ↓hxs_cons, ↓ra_none, ↓ra_some, ↓x_calldB, ↓x_lw, ↓x_dct0, ↓x_v, ↓x_i, ↓x_b, ↓x_n, ↓x_st, ↓x_g, ↓x_tup, ↓x_lst, ↓x_bin, ↓x_neg, ↓x_nt, ↓x_cmp, ↓x_chain, ↓x_isN, ↓x_notN, ↓x_and, ↓x_or, ↓x_ite, ↓x_ix, ↓x_cut, ↓x_rev, ↓x_stp, ↓x_callB, ↓x_callkB, ↓x_bi, ↓x_comp, ↓x_pop, ↓x_popA, ↓x_jg, ↓x_jn, ↓x_jp, ↓x_scut, ↓x_slen, ↓srcK, ↓srcL, ↓t_yes, ↓t_and', ↓t_or', ↓t_nt', ↓t_ex, ↓e_nil, ↓e_cons, ↓a_nil', ↓a_cons', ↓rs_nil, ↓rs_cons, ↓frzS_v, ↓frzS_n, ↓asgs_nil, ↓asgs_cons, ↓rd_z, ↓rd_s, ↓set_z, ↓set_s, ↓at_mk, ↓isJar_j, ↓der_v, ↓der_n, ↓der_sl, ↓frz_v, ↓frz_n, ↓frz_sl, ↓asg_v, ↓asg_n, ↓asg_sl, ↓opW, ↓cmpW, ↓eqw_int, ↓eqw_str, ↓eqw_tup, ↓eqw_lst, ↓ordW, ↓truW, ↓noOw, ↓ixW, ↓biW, ↓tgW, ↓tgsW, ↓opwW, ↓itW, ↓wipe_nil, ↓wipe_cons, ↓unwipe, ↓isOw, true_and, Bool.and_true, Bool.not_true, Bool.not_false, Bool.false_eq_true, ↓reduceIte, ↓blk_ap, ls]
  refine p_fbehind (n := n + 2) m2 ?_
  try simp -implicitDefEqProofs only [↓s_cs, ↓nx_ap, ↓s_nil, ↓s_set, ↓s_par, ↓s_unp, ↓s_ret, ↓s_retN, ↓s_drop, ↓s_if, ↓s_whl, ↓s_for, ↓s_app, ↓s_ext, ↓s_put, ↓s_ja, ↓s_ji, ↓s_js, ↓s_jl, ↓s_rais, ↓s_pass, ↓s_brk, ↓s_cont, ↓s_tri, ↓hd_nil, ↓hd_cons, ↓un_s, ↓un_n, ↓hu_ret, ↓hu_ifr, ↓hx_b, ↓hx_s, ↓hx_i, ↓hx_n, ↓hx_fld, ↓hx_isA, ↓hx_nt, ↓hx_and, ↓hx_ite, ↓hx_lst, ↓hx_tup, ↓hxs_nil, ↓hxs_cons, ↓ra_none, ↓ra_some, ↓x_calldB, ↓x_lw, ↓x_dct0, ↓x_v, ↓x_i, ↓x_b, ↓x_n, ↓x_st, ↓x_g, ↓x_tup, ↓x_lst, ↓x_bin, ↓x_neg, ↓x_nt, ↓x_cmp, ↓x_chain, ↓x_isN, ↓x_notN, ↓x_and, ↓x_or, ↓x_ite, ↓x_ix, ↓x_cut, ↓x_rev, ↓x_stp, ↓x_callB, ↓x_callkB, ↓x_bi, ↓x_comp, ↓x_pop, ↓x_popA, ↓x_jg, ↓x_jn, ↓x_jp, ↓x_scut, ↓x_slen, ↓srcK, ↓srcL, ↓t_yes, ↓t_and', ↓t_or', ↓t_nt', ↓t_ex, ↓e_nil, ↓e_cons, ↓a_nil', ↓a_cons', ↓rs_nil, ↓rs_cons, ↓frzS_v, ↓frzS_n, ↓asgs_nil, ↓asgs_cons, ↓rd_z, ↓rd_s, ↓set_z, ↓set_s, ↓at_mk, ↓isJar_j, ↓der_v, ↓der_n, ↓der_sl, ↓frz_v, ↓frz_n, ↓frz_sl, ↓asg_v, ↓asg_n, ↓asg_sl, ↓opW, ↓cmpW, ↓eqw_int, ↓eqw_str, ↓eqw_tup, ↓eqw_lst, ↓ordW, ↓truW, ↓noOw, ↓ixW, ↓biW, ↓tgW, ↓tgsW, ↓opwW, ↓itW, ↓wipe_nil, ↓wipe_cons, ↓unwipe, ↓isOw, true_and, Bool.and_true, Bool.not_true, Bool.not_false, Bool.false_eq_true, ↓reduceIte, ↓blk_ap]
  refine p_fback (n := n + 2) m1 o1 ?_
  try simp -implicitDefEqProofs only [↓s_cs, ↓nx_ap, ↓s_nil, ↓s_set, ↓s_par, ↓s_unp, ↓s_ret, ↓s_retN, ↓s_drop, ↓s_if, ↓s_whl, ↓s_for, ↓s_app, ↓s_ext, ↓s_put, ↓s_ja, ↓s_ji, ↓s_js, ↓s_jl, ↓s_rais, ↓s_pass, ↓s_brk, ↓s_cont, ↓s_tri, ↓hd_nil, ↓hd_cons, ↓un_s, ↓un_n, ↓hu_ret, ↓hu_ifr, ↓hx_b, ↓hx_s, ↓hx_i, ↓hx_n, ↓hx_fld, ↓hx_isA, ↓hx_nt, ↓hx_and, ↓hx_ite, ↓hx_lst, ↓hx_tup, ↓hxs_nil, ↓hxs_cons, ↓ra_none, ↓ra_some, ↓x_calldB, ↓x_lw, ↓x_dct0, ↓x_v, ↓x_i, ↓x_b, ↓x_n, ↓x_st, ↓x_g, ↓x_tup, ↓x_lst, ↓x_bin, ↓x_neg, ↓x_nt, ↓x_cmp, ↓x_chain, ↓x_isN, ↓x_notN, ↓x_and, ↓x_or, ↓x_ite, ↓x_ix, ↓x_cut, ↓x_rev, ↓x_stp, ↓x_callB, ↓x_callkB, ↓x_bi, ↓x_comp, ↓x_pop, ↓x_popA, ↓x_jg, ↓x_jn, ↓x_jp, ↓x_scut, ↓x_slen, ↓srcK, ↓srcL, ↓t_yes, ↓t_and', ↓t_or', ↓t_nt', ↓t_ex, ↓e_nil, ↓e_cons, ↓a_nil', ↓a_cons', ↓rs_nil, ↓rs_cons, ↓frzS_v, ↓frzS_n, ↓asgs_nil, ↓asgs_cons, ↓rd_z, ↓rd_s, ↓set_z, ↓set_s, ↓at_mk, ↓isJar_j, ↓der_v, ↓der_n, ↓der_sl, ↓frz_v, ↓frz_n, ↓frz_sl, ↓asg_v, ↓asg_n, ↓asg_sl, ↓opW, ↓cmpW, ↓eqw_int, ↓eqw_str, ↓eqw_tup, ↓eqw_lst, ↓ordW, ↓truW, ↓noOw, ↓ixW, ↓biW, ↓tgW, ↓tgsW, ↓opwW, ↓itW, ↓wipe_nil, ↓wipe_cons, ↓unwipe, ↓isOw, true_and, Bool.and_true, Bool.not_true, Bool.not_false, Bool.false_eq_true, ↓reduceIte, ↓blk_ap, lst]
  refine p_fback (n := n + 2) m1 o1 ?_
  try simp -implicitDefEqProofs only [↓s_cs, ↓nx_ap, ↓s_nil, ↓s_set, ↓s_par, ↓s_unp, ↓s_ret, ↓s_retN, ↓s_drop, ↓s_if, ↓s_whl, ↓s_for, ↓s_app, ↓s_ext, ↓s_put, ↓s_ja, ↓s_ji, ↓s_js, ↓s_jl, ↓s_rais, ↓s_pass, ↓s_brk, ↓s_cont, ↓s_tri, ↓hd_nil, ↓hd_cons, ↓un_s, ↓un_n, ↓hu_ret, ↓hu_ifr, ↓hx_b, ↓hx_s, ↓hx_i, ↓hx_n, ↓hx_fld, ↓hx_isA, ↓hx_nt, ↓hx_and, ↓hx_ite, ↓hx_lst, ↓hx_tup, ↓hxs_nil, ↓hxs_cons, ↓ra_none, ↓ra_some, ↓x_calldB, ↓x_lw, ↓x_dct0, ↓x_v, ↓x_i, ↓x_b, ↓x_n, ↓x_st, ↓x_g, ↓x_tup, ↓x_lst, ↓x_bin, ↓x_neg, ↓x_nt, ↓x_cmp, ↓x_chain, ↓x_isN, ↓x_notN, ↓x_and, ↓x_or, ↓x_ite, ↓x_ix, ↓x_cut, ↓x_rev, ↓x_stp, ↓x_callB, ↓x_callkB, ↓x_bi, ↓x_comp, ↓x_pop, ↓x_popA, ↓x_jg, ↓x_jn, ↓x_jp, ↓x_scut, ↓x_slen, ↓srcK, ↓srcL, ↓t_yes, ↓t_and', ↓t_or', ↓t_nt', ↓t_ex, ↓e_nil, ↓e_cons, ↓a_nil', ↓a_cons', ↓rs_nil, ↓rs_cons, ↓frzS_v, ↓frzS_n, ↓asgs_nil, ↓asgs_cons, ↓rd_z, ↓rd_s, ↓set_z, ↓set_s, ↓at_mk, ↓isJar_j, ↓der_v, ↓der_n, ↓der_sl, ↓frz_v, ↓frz_n, ↓frz_sl, ↓asg_v, ↓asg_n, ↓asg_sl, ↓opW, ↓cmpW, ↓eqw_int, ↓eqw_str, ↓eqw_tup, ↓eqw_lst, ↓ordW, ↓truW, ↓noOw, ↓ixW, ↓biW, ↓tgW, ↓tgsW, ↓opwW, ↓itW, ↓wipe_nil, ↓wipe_cons, ↓unwipe, ↓isOw, true_and, Bool.and_true, Bool.not_true, Bool.not_false, Bool.false_eq_true, ↓reduceIte, ↓blk_ap]
  have v6 : G.Val 2 100000 (.list [pD (one.on u), pD (one.on u), fD (behind one oth), fD (behind one oth), fD (back one), fD (back one)]) := lst_val (fun d hd => by
    simp only [List.mem_cons, List.not_mem_nil, or_false] at hd
    rcases hd with rfl | rfl | rfl | rfl | rfl | rfl
    · exact vO
    · exact vO
    · exact vF
    · exact vF
    · exact vB
    · exact vB) (by show 6 ≤ 100; decide)
  have ea : [pD (one.on u), pD (one.on u), fD (behind one oth)] ++ [fD (behind one oth), fD (back one), fD (back one)] = [pD (one.on u), pD (one.on u), fD (behind one oth), fD (behind one oth), fD (back one), fD (back one)] := rfl
  have eb : [pD (one.on u), pD (one.on u)] ++ [fD (behind one oth), fD (behind one oth)] ++ [fD (back one), fD (back one)] = [pD (one.on u), pD (one.on u), fD (behind one oth), fD (behind one oth), fD (back one), fD (back one)] := rfl
  rw [ea, eb]
  refine ⟨by show 3 + 3 ≤ SZ; decide, v6.rp (by decide) z1 (v6.rp (by decide) z1 ?_)⟩
  rw [if_neg (by simp)]
  have i2 : atD [pD (one.on u), pD (one.on u), fD (behind one oth), fD (behind one oth), fD (back one), fD (back one)] 2 = some (fD (behind one oth)) := rfl
  generalize behind one oth = far at *
  have sK := one_s4 oF sF
  have mK : S4 (10 ^ 17) (back far) := sK.mono (by decide)
  have oK : One (back far).det := by rw [det_back oF]; exact oF
  try simp -implicitDefEqProofs only [↓s_cs, ↓nx_ap, ↓s_nil, ↓s_set, ↓s_par, ↓s_unp, ↓s_ret, ↓s_retN, ↓s_drop, ↓s_if, ↓s_whl, ↓s_for, ↓s_app, ↓s_ext, ↓s_put, ↓s_ja, ↓s_ji, ↓s_js, ↓s_jl, ↓s_rais, ↓s_pass, ↓s_brk, ↓s_cont, ↓s_tri, ↓hd_nil, ↓hd_cons, ↓un_s, ↓un_n, ↓hu_ret, ↓hu_ifr, ↓hx_b, ↓hx_s, ↓hx_i, ↓hx_n, ↓hx_fld, ↓hx_isA, ↓hx_nt, ↓hx_and, ↓hx_ite, ↓hx_lst, ↓hx_tup, ↓hxs_nil, ↓hxs_cons, ↓ra_none, ↓ra_some, ↓x_calldB, ↓x_lw, ↓x_dct0, ↓x_v, ↓x_i, ↓x_b, ↓x_n, ↓x_st, ↓x_g, ↓x_tup, ↓x_lst, ↓x_bin, ↓x_neg, ↓x_nt, ↓x_cmp, ↓x_chain, ↓x_isN, ↓x_notN, ↓x_and, ↓x_or, ↓x_ite, ↓x_ix, ↓x_cut, ↓x_rev, ↓x_stp, ↓x_callB, ↓x_callkB, ↓x_bi, ↓x_comp, ↓x_pop, ↓x_popA, ↓x_jg, ↓x_jn, ↓x_jp, ↓x_scut, ↓x_slen, ↓srcK, ↓srcL, ↓t_yes, ↓t_and', ↓t_or', ↓t_nt', ↓t_ex, ↓e_nil, ↓e_cons, ↓a_nil', ↓a_cons', ↓rs_nil, ↓rs_cons, ↓frzS_v, ↓frzS_n, ↓asgs_nil, ↓asgs_cons, ↓rd_z, ↓rd_s, ↓set_z, ↓set_s, ↓at_mk, ↓isJar_j, ↓der_v, ↓der_n, ↓der_sl, ↓frz_v, ↓frz_n, ↓frz_sl, ↓asg_v, ↓asg_n, ↓asg_sl, ↓opW, ↓cmpW, ↓eqw_int, ↓eqw_str, ↓eqw_tup, ↓eqw_lst, ↓ordW, ↓truW, ↓noOw, ↓ixW, ↓biW, ↓tgW, ↓tgsW, ↓opwW, ↓itW, ↓wipe_nil, ↓wipe_cons, ↓unwipe, ↓isOw, true_and, Bool.and_true, Bool.not_true, Bool.not_false, Bool.false_eq_true, ↓reduceIte, ↓blk_ap, i2]
  refine p_fback (n := n + 2) mF oF ?_
  try simp -implicitDefEqProofs only [↓s_cs, ↓nx_ap, ↓s_nil, ↓s_set, ↓s_par, ↓s_unp, ↓s_ret, ↓s_retN, ↓s_drop, ↓s_if, ↓s_whl, ↓s_for, ↓s_app, ↓s_ext, ↓s_put, ↓s_ja, ↓s_ji, ↓s_js, ↓s_jl, ↓s_rais, ↓s_pass, ↓s_brk, ↓s_cont, ↓s_tri, ↓hd_nil, ↓hd_cons, ↓un_s, ↓un_n, ↓hu_ret, ↓hu_ifr, ↓hx_b, ↓hx_s, ↓hx_i, ↓hx_n, ↓hx_fld, ↓hx_isA, ↓hx_nt, ↓hx_and, ↓hx_ite, ↓hx_lst, ↓hx_tup, ↓hxs_nil, ↓hxs_cons, ↓ra_none, ↓ra_some, ↓x_calldB, ↓x_lw, ↓x_dct0, ↓x_v, ↓x_i, ↓x_b, ↓x_n, ↓x_st, ↓x_g, ↓x_tup, ↓x_lst, ↓x_bin, ↓x_neg, ↓x_nt, ↓x_cmp, ↓x_chain, ↓x_isN, ↓x_notN, ↓x_and, ↓x_or, ↓x_ite, ↓x_ix, ↓x_cut, ↓x_rev, ↓x_stp, ↓x_callB, ↓x_callkB, ↓x_bi, ↓x_comp, ↓x_pop, ↓x_popA, ↓x_jg, ↓x_jn, ↓x_jp, ↓x_scut, ↓x_slen, ↓srcK, ↓srcL, ↓t_yes, ↓t_and', ↓t_or', ↓t_nt', ↓t_ex, ↓e_nil, ↓e_cons, ↓a_nil', ↓a_cons', ↓rs_nil, ↓rs_cons, ↓frzS_v, ↓frzS_n, ↓asgs_nil, ↓asgs_cons, ↓rd_z, ↓rd_s, ↓set_z, ↓set_s, ↓at_mk, ↓isJar_j, ↓der_v, ↓der_n, ↓der_sl, ↓frz_v, ↓frz_n, ↓frz_sl, ↓asg_v, ↓asg_n, ↓asg_sl, ↓opW, ↓cmpW, ↓eqw_int, ↓eqw_str, ↓eqw_tup, ↓eqw_lst, ↓ordW, ↓truW, ↓noOw, ↓ixW, ↓biW, ↓tgW, ↓tgsW, ↓opwW, ↓itW, ↓wipe_nil, ↓wipe_cons, ↓unwipe, ↓isOw, true_and, Bool.and_true, Bool.not_true, Bool.not_false, Bool.false_eq_true, ↓reduceIte, ↓blk_ap]
  refine p_fbehind (n := n + 2) mK ?_
  rw [behind_back oF]
  try simp -implicitDefEqProofs only [↓s_cs, ↓nx_ap, ↓s_nil, ↓s_set, ↓s_par, ↓s_unp, ↓s_ret, ↓s_retN, ↓s_drop, ↓s_if, ↓s_whl, ↓s_for, ↓s_app, ↓s_ext, ↓s_put, ↓s_ja, ↓s_ji, ↓s_js, ↓s_jl, ↓s_rais, ↓s_pass, ↓s_brk, ↓s_cont, ↓s_tri, ↓hd_nil, ↓hd_cons, ↓un_s, ↓un_n, ↓hu_ret, ↓hu_ifr, ↓hx_b, ↓hx_s, ↓hx_i, ↓hx_n, ↓hx_fld, ↓hx_isA, ↓hx_nt, ↓hx_and, ↓hx_ite, ↓hx_lst, ↓hx_tup, ↓hxs_nil, ↓hxs_cons, ↓ra_none, ↓ra_some, ↓x_calldB, ↓x_lw, ↓x_dct0, ↓x_v, ↓x_i, ↓x_b, ↓x_n, ↓x_st, ↓x_g, ↓x_tup, ↓x_lst, ↓x_bin, ↓x_neg, ↓x_nt, ↓x_cmp, ↓x_chain, ↓x_isN, ↓x_notN, ↓x_and, ↓x_or, ↓x_ite, ↓x_ix, ↓x_cut, ↓x_rev, ↓x_stp, ↓x_callB, ↓x_callkB, ↓x_bi, ↓x_comp, ↓x_pop, ↓x_popA, ↓x_jg, ↓x_jn, ↓x_jp, ↓x_scut, ↓x_slen, ↓srcK, ↓srcL, ↓t_yes, ↓t_and', ↓t_or', ↓t_nt', ↓t_ex, ↓e_nil, ↓e_cons, ↓a_nil', ↓a_cons', ↓rs_nil, ↓rs_cons, ↓frzS_v, ↓frzS_n, ↓asgs_nil, ↓asgs_cons, ↓rd_z, ↓rd_s, ↓set_z, ↓set_s, ↓at_mk, ↓isJar_j, ↓der_v, ↓der_n, ↓der_sl, ↓frz_v, ↓frz_n, ↓frz_sl, ↓asg_v, ↓asg_n, ↓asg_sl, ↓opW, ↓cmpW, ↓eqw_int, ↓eqw_str, ↓eqw_tup, ↓eqw_lst, ↓ordW, ↓truW, ↓noOw, ↓ixW, ↓biW, ↓tgW, ↓tgsW, ↓opwW, ↓itW, ↓wipe_nil, ↓wipe_cons, ↓unwipe, ↓isOw, true_and, Bool.and_true, Bool.not_true, Bool.not_false, Bool.false_eq_true, ↓reduceIte, ↓blk_ap]
  refine p_fbehind (n := n + 2) mF ?_
  rw [back_behind oF]
  try simp -implicitDefEqProofs only [↓s_cs, ↓nx_ap, ↓s_nil, ↓s_set, ↓s_par, ↓s_unp, ↓s_ret, ↓s_retN, ↓s_drop, ↓s_if, ↓s_whl, ↓s_for, ↓s_app, ↓s_ext, ↓s_put, ↓s_ja, ↓s_ji, ↓s_js, ↓s_jl, ↓s_rais, ↓s_pass, ↓s_brk, ↓s_cont, ↓s_tri, ↓hd_nil, ↓hd_cons, ↓un_s, ↓un_n, ↓hu_ret, ↓hu_ifr, ↓hx_b, ↓hx_s, ↓hx_i, ↓hx_n, ↓hx_fld, ↓hx_isA, ↓hx_nt, ↓hx_and, ↓hx_ite, ↓hx_lst, ↓hx_tup, ↓hxs_nil, ↓hxs_cons, ↓ra_none, ↓ra_some, ↓x_calldB, ↓x_lw, ↓x_dct0, ↓x_v, ↓x_i, ↓x_b, ↓x_n, ↓x_st, ↓x_g, ↓x_tup, ↓x_lst, ↓x_bin, ↓x_neg, ↓x_nt, ↓x_cmp, ↓x_chain, ↓x_isN, ↓x_notN, ↓x_and, ↓x_or, ↓x_ite, ↓x_ix, ↓x_cut, ↓x_rev, ↓x_stp, ↓x_callB, ↓x_callkB, ↓x_bi, ↓x_comp, ↓x_pop, ↓x_popA, ↓x_jg, ↓x_jn, ↓x_jp, ↓x_scut, ↓x_slen, ↓srcK, ↓srcL, ↓t_yes, ↓t_and', ↓t_or', ↓t_nt', ↓t_ex, ↓e_nil, ↓e_cons, ↓a_nil', ↓a_cons', ↓rs_nil, ↓rs_cons, ↓frzS_v, ↓frzS_n, ↓asgs_nil, ↓asgs_cons, ↓rd_z, ↓rd_s, ↓set_z, ↓set_s, ↓at_mk, ↓isJar_j, ↓der_v, ↓der_n, ↓der_sl, ↓frz_v, ↓frz_n, ↓frz_sl, ↓asg_v, ↓asg_n, ↓asg_sl, ↓opW, ↓cmpW, ↓eqw_int, ↓eqw_str, ↓eqw_tup, ↓eqw_lst, ↓ordW, ↓truW, ↓noOw, ↓ixW, ↓biW, ↓tgW, ↓tgsW, ↓opwW, ↓itW, ↓wipe_nil, ↓wipe_cons, ↓unwipe, ↓isOw, true_and, Bool.and_true, Bool.not_true, Bool.not_false, Bool.false_eq_true, ↓reduceIte, ↓blk_ap]
  refine p_framed (n := n + 3) (mF.mono (by decide)) ?_
  try simp -implicitDefEqProofs only [↓s_cs, ↓nx_ap, ↓s_nil, ↓s_set, ↓s_par, ↓s_unp, ↓s_ret, ↓s_retN, ↓s_drop, ↓s_if, ↓s_whl, ↓s_for, ↓s_app, ↓s_ext, ↓s_put, ↓s_ja, ↓s_ji, ↓s_js, ↓s_jl, ↓s_rais, ↓s_pass, ↓s_brk, ↓s_cont, ↓s_tri, ↓hd_nil, ↓hd_cons, ↓un_s, ↓un_n, ↓hu_ret, ↓hu_ifr, ↓hx_b, ↓hx_s, ↓hx_i, ↓hx_n, ↓hx_fld, ↓hx_isA, ↓hx_nt, ↓hx_and, ↓hx_ite, ↓hx_lst, ↓hx_tup, ↓hxs_nil, ↓hxs_cons, ↓ra_none, ↓ra_some, ↓x_calldB, ↓x_lw, ↓x_dct0, ↓x_v, ↓x_i, ↓x_b, ↓x_n, ↓x_st, ↓x_g, ↓x_tup, ↓x_lst, ↓x_bin, ↓x_neg, ↓x_nt, ↓x_cmp, ↓x_chain, ↓x_isN, ↓x_notN, ↓x_and, ↓x_or, ↓x_ite, ↓x_ix, ↓x_cut, ↓x_rev, ↓x_stp, ↓x_callB, ↓x_callkB, ↓x_bi, ↓x_comp, ↓x_pop, ↓x_popA, ↓x_jg, ↓x_jn, ↓x_jp, ↓x_scut, ↓x_slen, ↓srcK, ↓srcL, ↓t_yes, ↓t_and', ↓t_or', ↓t_nt', ↓t_ex, ↓e_nil, ↓e_cons, ↓a_nil', ↓a_cons', ↓rs_nil, ↓rs_cons, ↓frzS_v, ↓frzS_n, ↓asgs_nil, ↓asgs_cons, ↓rd_z, ↓rd_s, ↓set_z, ↓set_s, ↓at_mk, ↓isJar_j, ↓der_v, ↓der_n, ↓der_sl, ↓frz_v, ↓frz_n, ↓frz_sl, ↓asg_v, ↓asg_n, ↓asg_sl, ↓opW, ↓cmpW, ↓eqw_int, ↓eqw_str, ↓eqw_tup, ↓eqw_lst, ↓ordW, ↓truW, ↓noOw, ↓ixW, ↓biW, ↓tgW, ↓tgsW, ↓opwW, ↓itW, ↓wipe_nil, ↓wipe_cons, ↓unwipe, ↓isOw, true_and, Bool.and_true, Bool.not_true, Bool.not_false, Bool.false_eq_true, ↓reduceIte, ↓blk_ap]
  refine p_framed (n := n + 3) (mK.mono (by decide)) ?_
  rw [back_on oF]
  try simp -implicitDefEqProofs only [↓s_cs, ↓nx_ap, ↓s_nil, ↓s_set, ↓s_par, ↓s_unp, ↓s_ret, ↓s_retN, ↓s_drop, ↓s_if, ↓s_whl, ↓s_for, ↓s_app, ↓s_ext, ↓s_put, ↓s_ja, ↓s_ji, ↓s_js, ↓s_jl, ↓s_rais, ↓s_pass, ↓s_brk, ↓s_cont, ↓s_tri, ↓hd_nil, ↓hd_cons, ↓un_s, ↓un_n, ↓hu_ret, ↓hu_ifr, ↓hx_b, ↓hx_s, ↓hx_i, ↓hx_n, ↓hx_fld, ↓hx_isA, ↓hx_nt, ↓hx_and, ↓hx_ite, ↓hx_lst, ↓hx_tup, ↓hxs_nil, ↓hxs_cons, ↓ra_none, ↓ra_some, ↓x_calldB, ↓x_lw, ↓x_dct0, ↓x_v, ↓x_i, ↓x_b, ↓x_n, ↓x_st, ↓x_g, ↓x_tup, ↓x_lst, ↓x_bin, ↓x_neg, ↓x_nt, ↓x_cmp, ↓x_chain, ↓x_isN, ↓x_notN, ↓x_and, ↓x_or, ↓x_ite, ↓x_ix, ↓x_cut, ↓x_rev, ↓x_stp, ↓x_callB, ↓x_callkB, ↓x_bi, ↓x_comp, ↓x_pop, ↓x_popA, ↓x_jg, ↓x_jn, ↓x_jp, ↓x_scut, ↓x_slen, ↓srcK, ↓srcL, ↓t_yes, ↓t_and', ↓t_or', ↓t_nt', ↓t_ex, ↓e_nil, ↓e_cons, ↓a_nil', ↓a_cons', ↓rs_nil, ↓rs_cons, ↓frzS_v, ↓frzS_n, ↓asgs_nil, ↓asgs_cons, ↓rd_z, ↓rd_s, ↓set_z, ↓set_s, ↓at_mk, ↓isJar_j, ↓der_v, ↓der_n, ↓der_sl, ↓frz_v, ↓frz_n, ↓frz_sl, ↓asg_v, ↓asg_n, ↓asg_sl, ↓opW, ↓cmpW, ↓eqw_int, ↓eqw_str, ↓eqw_tup, ↓eqw_lst, ↓ordW, ↓truW, ↓noOw, ↓ixW, ↓biW, ↓tgW, ↓tgsW, ↓opwW, ↓itW, ↓wipe_nil, ↓wipe_cons, ↓unwipe, ↓isOw, true_and, Bool.and_true, Bool.not_true, Bool.not_false, Bool.false_eq_true, ↓reduceIte, ↓blk_ap]
  refine p_fback (n := n + 2) mK oK ?_
  rw [back_back oF]
  try simp -implicitDefEqProofs only [↓s_cs, ↓nx_ap, ↓s_nil, ↓s_set, ↓s_par, ↓s_unp, ↓s_ret, ↓s_retN, ↓s_drop, ↓s_if, ↓s_whl, ↓s_for, ↓s_app, ↓s_ext, ↓s_put, ↓s_ja, ↓s_ji, ↓s_js, ↓s_jl, ↓s_rais, ↓s_pass, ↓s_brk, ↓s_cont, ↓s_tri, ↓hd_nil, ↓hd_cons, ↓un_s, ↓un_n, ↓hu_ret, ↓hu_ifr, ↓hx_b, ↓hx_s, ↓hx_i, ↓hx_n, ↓hx_fld, ↓hx_isA, ↓hx_nt, ↓hx_and, ↓hx_ite, ↓hx_lst, ↓hx_tup, ↓hxs_nil, ↓hxs_cons, ↓ra_none, ↓ra_some, ↓x_calldB, ↓x_lw, ↓x_dct0, ↓x_v, ↓x_i, ↓x_b, ↓x_n, ↓x_st, ↓x_g, ↓x_tup, ↓x_lst, ↓x_bin, ↓x_neg, ↓x_nt, ↓x_cmp, ↓x_chain, ↓x_isN, ↓x_notN, ↓x_and, ↓x_or, ↓x_ite, ↓x_ix, ↓x_cut, ↓x_rev, ↓x_stp, ↓x_callB, ↓x_callkB, ↓x_bi, ↓x_comp, ↓x_pop, ↓x_popA, ↓x_jg, ↓x_jn, ↓x_jp, ↓x_scut, ↓x_slen, ↓srcK, ↓srcL, ↓t_yes, ↓t_and', ↓t_or', ↓t_nt', ↓t_ex, ↓e_nil, ↓e_cons, ↓a_nil', ↓a_cons', ↓rs_nil, ↓rs_cons, ↓frzS_v, ↓frzS_n, ↓asgs_nil, ↓asgs_cons, ↓rd_z, ↓rd_s, ↓set_z, ↓set_s, ↓at_mk, ↓isJar_j, ↓der_v, ↓der_n, ↓der_sl, ↓frz_v, ↓frz_n, ↓frz_sl, ↓asg_v, ↓asg_n, ↓asg_sl, ↓opW, ↓cmpW, ↓eqw_int, ↓eqw_str, ↓eqw_tup, ↓eqw_lst, ↓ordW, ↓truW, ↓noOw, ↓ixW, ↓biW, ↓tgW, ↓tgsW, ↓opwW, ↓itW, ↓wipe_nil, ↓wipe_cons, ↓unwipe, ↓isOw, true_and, Bool.and_true, Bool.not_true, Bool.not_false, Bool.false_eq_true, ↓reduceIte, ↓blk_ap]
  refine p_fbehind (n := n + 2) m1 ?_
  try simp -implicitDefEqProofs only [↓s_cs, ↓nx_ap, ↓s_nil, ↓s_set, ↓s_par, ↓s_unp, ↓s_ret, ↓s_retN, ↓s_drop, ↓s_if, ↓s_whl, ↓s_for, ↓s_app, ↓s_ext, ↓s_put, ↓s_ja, ↓s_ji, ↓s_js, ↓s_jl, ↓s_rais, ↓s_pass, ↓s_brk, ↓s_cont, ↓s_tri, ↓hd_nil, ↓hd_cons, ↓un_s, ↓un_n, ↓hu_ret, ↓hu_ifr, ↓hx_b, ↓hx_s, ↓hx_i, ↓hx_n, ↓hx_fld, ↓hx_isA, ↓hx_nt, ↓hx_and, ↓hx_ite, ↓hx_lst, ↓hx_tup, ↓hxs_nil, ↓hxs_cons, ↓ra_none, ↓ra_some, ↓x_calldB, ↓x_lw, ↓x_dct0, ↓x_v, ↓x_i, ↓x_b, ↓x_n, ↓x_st, ↓x_g, ↓x_tup, ↓x_lst, ↓x_bin, ↓x_neg, ↓x_nt, ↓x_cmp, ↓x_chain, ↓x_isN, ↓x_notN, ↓x_and, ↓x_or, ↓x_ite, ↓x_ix, ↓x_cut, ↓x_rev, ↓x_stp, ↓x_callB, ↓x_callkB, ↓x_bi, ↓x_comp, ↓x_pop, ↓x_popA, ↓x_jg, ↓x_jn, ↓x_jp, ↓x_scut, ↓x_slen, ↓srcK, ↓srcL, ↓t_yes, ↓t_and', ↓t_or', ↓t_nt', ↓t_ex, ↓e_nil, ↓e_cons, ↓a_nil', ↓a_cons', ↓rs_nil, ↓rs_cons, ↓frzS_v, ↓frzS_n, ↓asgs_nil, ↓asgs_cons, ↓rd_z, ↓rd_s, ↓set_z, ↓set_s, ↓at_mk, ↓isJar_j, ↓der_v, ↓der_n, ↓der_sl, ↓frz_v, ↓frz_n, ↓frz_sl, ↓asg_v, ↓asg_n, ↓asg_sl, ↓opW, ↓cmpW, ↓eqw_int, ↓eqw_str, ↓eqw_tup, ↓eqw_lst, ↓ordW, ↓truW, ↓noOw, ↓ixW, ↓biW, ↓tgW, ↓tgsW, ↓opwW, ↓itW, ↓wipe_nil, ↓wipe_cons, ↓unwipe, ↓isOw, true_and, Bool.and_true, Bool.not_true, Bool.not_false, Bool.false_eq_true, ↓reduceIte, ↓blk_ap]
  have mb : S4 (10 ^ 19) (behind far one) := (s4_behind sF s1).mono (by decide)
  refine p_framed (n := n + 3) mb ?_
  rw [behind_on]
  try simp -implicitDefEqProofs only [↓s_cs, ↓nx_ap, ↓s_nil, ↓s_set, ↓s_par, ↓s_unp, ↓s_ret, ↓s_retN, ↓s_drop, ↓s_if, ↓s_whl, ↓s_for, ↓s_app, ↓s_ext, ↓s_put, ↓s_ja, ↓s_ji, ↓s_js, ↓s_jl, ↓s_rais, ↓s_pass, ↓s_brk, ↓s_cont, ↓s_tri, ↓hd_nil, ↓hd_cons, ↓un_s, ↓un_n, ↓hu_ret, ↓hu_ifr, ↓hx_b, ↓hx_s, ↓hx_i, ↓hx_n, ↓hx_fld, ↓hx_isA, ↓hx_nt, ↓hx_and, ↓hx_ite, ↓hx_lst, ↓hx_tup, ↓hxs_nil, ↓hxs_cons, ↓ra_none, ↓ra_some, ↓x_calldB, ↓x_lw, ↓x_dct0, ↓x_v, ↓x_i, ↓x_b, ↓x_n, ↓x_st, ↓x_g, ↓x_tup, ↓x_lst, ↓x_bin, ↓x_neg, ↓x_nt, ↓x_cmp, ↓x_chain, ↓x_isN, ↓x_notN, ↓x_and, ↓x_or, ↓x_ite, ↓x_ix, ↓x_cut, ↓x_rev, ↓x_stp, ↓x_callB, ↓x_callkB, ↓x_bi, ↓x_comp, ↓x_pop, ↓x_popA, ↓x_jg, ↓x_jn, ↓x_jp, ↓x_scut, ↓x_slen, ↓srcK, ↓srcL, ↓t_yes, ↓t_and', ↓t_or', ↓t_nt', ↓t_ex, ↓e_nil, ↓e_cons, ↓a_nil', ↓a_cons', ↓rs_nil, ↓rs_cons, ↓frzS_v, ↓frzS_n, ↓asgs_nil, ↓asgs_cons, ↓rd_z, ↓rd_s, ↓set_z, ↓set_s, ↓at_mk, ↓isJar_j, ↓der_v, ↓der_n, ↓der_sl, ↓frz_v, ↓frz_n, ↓frz_sl, ↓asg_v, ↓asg_n, ↓asg_sl, ↓opW, ↓cmpW, ↓eqw_int, ↓eqw_str, ↓eqw_tup, ↓eqw_lst, ↓ordW, ↓truW, ↓noOw, ↓ixW, ↓biW, ↓tgW, ↓tgsW, ↓opwW, ↓itW, ↓wipe_nil, ↓wipe_cons, ↓unwipe, ↓isOw, true_and, Bool.and_true, Bool.not_true, Bool.not_false, Bool.false_eq_true, ↓reduceIte, ↓blk_ap]
  refine ⟨by show 4 < SZ; decide, p_lframed (n := n + 3) mF ?_⟩
  try simp -implicitDefEqProofs only [↓s_cs, ↓nx_ap, ↓s_nil, ↓s_set, ↓s_par, ↓s_unp, ↓s_ret, ↓s_retN, ↓s_drop, ↓s_if, ↓s_whl, ↓s_for, ↓s_app, ↓s_ext, ↓s_put, ↓s_ja, ↓s_ji, ↓s_js, ↓s_jl, ↓s_rais, ↓s_pass, ↓s_brk, ↓s_cont, ↓s_tri, ↓hd_nil, ↓hd_cons, ↓un_s, ↓un_n, ↓hu_ret, ↓hu_ifr, ↓hx_b, ↓hx_s, ↓hx_i, ↓hx_n, ↓hx_fld, ↓hx_isA, ↓hx_nt, ↓hx_and, ↓hx_ite, ↓hx_lst, ↓hx_tup, ↓hxs_nil, ↓hxs_cons, ↓ra_none, ↓ra_some, ↓x_calldB, ↓x_lw, ↓x_dct0, ↓x_v, ↓x_i, ↓x_b, ↓x_n, ↓x_st, ↓x_g, ↓x_tup, ↓x_lst, ↓x_bin, ↓x_neg, ↓x_nt, ↓x_cmp, ↓x_chain, ↓x_isN, ↓x_notN, ↓x_and, ↓x_or, ↓x_ite, ↓x_ix, ↓x_cut, ↓x_rev, ↓x_stp, ↓x_callB, ↓x_callkB, ↓x_bi, ↓x_comp, ↓x_pop, ↓x_popA, ↓x_jg, ↓x_jn, ↓x_jp, ↓x_scut, ↓x_slen, ↓srcK, ↓srcL, ↓t_yes, ↓t_and', ↓t_or', ↓t_nt', ↓t_ex, ↓e_nil, ↓e_cons, ↓a_nil', ↓a_cons', ↓rs_nil, ↓rs_cons, ↓frzS_v, ↓frzS_n, ↓asgs_nil, ↓asgs_cons, ↓rd_z, ↓rd_s, ↓set_z, ↓set_s, ↓at_mk, ↓isJar_j, ↓der_v, ↓der_n, ↓der_sl, ↓frz_v, ↓frz_n, ↓frz_sl, ↓asg_v, ↓asg_n, ↓asg_sl, ↓opW, ↓cmpW, ↓eqw_int, ↓eqw_str, ↓eqw_tup, ↓eqw_lst, ↓ordW, ↓truW, ↓noOw, ↓ixW, ↓biW, ↓tgW, ↓tgsW, ↓opwW, ↓itW, ↓wipe_nil, ↓wipe_cons, ↓unwipe, ↓isOw, true_and, Bool.and_true, Bool.not_true, Bool.not_false, Bool.false_eq_true, ↓reduceIte, ↓blk_ap]
  refine p_lframed (n := n + 3) m1 ?_
  have bF := on_bd sF pqF hu
  have bG := on_bd s1 pq1 bF
  have vG : G.Val 1 800 (pD (one.on (far.on u))) := pt_val (by unfold P2b at bG; omega)
  have vP : G.Val 1 800 (fD plain) := fD_val ⟨by decide, by decide, by decide, by decide, by decide, by decide⟩
  have v5 : G.Val 2 100000 (.list [fD plain, fD plain, pD u, fD far, pD (one.on (far.on u))]) := lst_val (fun d hd => by
    simp only [List.mem_cons, List.not_mem_nil, or_false] at hd
    rcases hd with rfl | rfl | rfl | rfl | rfl
    · exact vP
    · exact vP
    · exact vu
    · exact vF
    · exact vG) (by show 5 ≤ 100; decide)
  have ep : PyData.tuple [.int 1, .int 0, .int 0, .int 1, .int 0, .int 0] = fD plain := rfl
  have ec : [fD plain, fD plain, pD u, fD far] ++ [pD (one.on (far.on u))] = [fD plain, fD plain, pD u, fD far, pD (one.on (far.on u))] := rfl
  rw [ep]
  try simp -implicitDefEqProofs only [↓s_cs, ↓nx_ap, ↓s_nil, ↓s_set, ↓s_par, ↓s_unp, ↓s_ret, ↓s_retN, ↓s_drop, ↓s_if, ↓s_whl, ↓s_for, ↓s_app, ↓s_ext, ↓s_put, ↓s_ja, ↓s_ji, ↓s_js, ↓s_jl, ↓s_rais, ↓s_pass, ↓s_brk, ↓s_cont, ↓s_tri, ↓hd_nil, ↓hd_cons, ↓un_s, ↓un_n, ↓hu_ret, ↓hu_ifr, ↓hx_b, ↓hx_s, ↓hx_i, ↓hx_n, ↓hx_fld, ↓hx_isA, ↓hx_nt, ↓hx_and, ↓hx_ite, ↓hx_lst, ↓hx_tup, ↓hxs_nil, ↓hxs_cons, ↓ra_none, ↓ra_some, ↓x_calldB, ↓x_lw, ↓x_dct0, ↓x_v, ↓x_i, ↓x_b, ↓x_n, ↓x_st, ↓x_g, ↓x_tup, ↓x_lst, ↓x_bin, ↓x_neg, ↓x_nt, ↓x_cmp, ↓x_chain, ↓x_isN, ↓x_notN, ↓x_and, ↓x_or, ↓x_ite, ↓x_ix, ↓x_cut, ↓x_rev, ↓x_stp, ↓x_callB, ↓x_callkB, ↓x_bi, ↓x_comp, ↓x_pop, ↓x_popA, ↓x_jg, ↓x_jn, ↓x_jp, ↓x_scut, ↓x_slen, ↓srcK, ↓srcL, ↓t_yes, ↓t_and', ↓t_or', ↓t_nt', ↓t_ex, ↓e_nil, ↓e_cons, ↓a_nil', ↓a_cons', ↓rs_nil, ↓rs_cons, ↓frzS_v, ↓frzS_n, ↓asgs_nil, ↓asgs_cons, ↓rd_z, ↓rd_s, ↓set_z, ↓set_s, ↓at_mk, ↓isJar_j, ↓der_v, ↓der_n, ↓der_sl, ↓frz_v, ↓frz_n, ↓frz_sl, ↓asg_v, ↓asg_n, ↓asg_sl, ↓opW, ↓cmpW, ↓eqw_int, ↓eqw_str, ↓eqw_tup, ↓eqw_lst, ↓ordW, ↓truW, ↓noOw, ↓ixW, ↓biW, ↓tgW, ↓tgsW, ↓opwW, ↓itW, ↓wipe_nil, ↓wipe_cons, ↓unwipe, ↓isOw, true_and, Bool.and_true, Bool.not_true, Bool.not_false, Bool.false_eq_true, ↓reduceIte, ↓blk_ap]
  rw [ec]
  refine v5.rp (by decide) z1 (v5.rp (by decide) z1 ?_)
  refine (if_pos (decide_eq_true rfl)).mpr ?_
  refine vk.rp (by decide) z1 ?_
  have hh := h g5 hg5
  simpa using hh
end G01

-- BLK
set_option linter.all false
set_option maxRecDepth 100000
set_option exponentiation.threshold 200000
namespace G01
open PySem PySem.Spec PyProof.Rows L2 G
def isNum (d : D) : Bool := isD .isInt d && !isD .isBool d
def inB (d : D) : Bool := match d with | .int i => decide (-1000000 ≤ i) && decide (i ≤ 1000000) | _ => false
def detF (ds : List D) : D := match ds with | [.int a, .int b, .int c, .int d, .int p, .int q] => if inD (.int (Fr.mk a b c d p q).det) [.int 1, .int (-1)] = true then .none else .str "det" | _ => .none
def errF (d : D) : D := match d with
  | .tuple ds => if ds.length = 6 then (match ds.findIdx? (fun d => !inB d) with | some k => .tuple [.str "number", .int (k : Int)] | none => detF ds) else .str "form"
  | _ => .str "form"
theorem findIdx_at {α : Type} {p : α → Bool} {ds : List α} {i : Nat} {d : α} (h : ds[i]? = some d) (ho : p d = false) (hb : ∀ j e, j < i → ds[j]? = some e → p e = true) : ds.findIdx? (fun d => !p d) = some i := by
  rw [List.findIdx?_eq_some_iff_getElem]
  obtain ⟨hi, e⟩ := List.getElem?_eq_some_iff.mp h
  refine ⟨hi, by rw [e, ho]; rfl, fun j hj => ?_⟩
  have := hb j ds[j] hj (List.getElem?_eq_getElem (by omega))
  rw [this]
  decide
theorem findIdx_no {α : Type} {p : α → Bool} {ds : List α} (h : ∀ d ∈ ds, p d = true) : ds.findIdx? (fun d => !p d) = none := by
  rw [List.findIdx?_eq_none_iff]
  intro x hx
  rw [h x hx]
  rfl
theorem nd_mem : ∀ {ds : List D}, PyData.hasDictAll ds = false → ∀ d ∈ ds, d.hasDict = false
  | [], _, d, h => by cases h
  | x :: xs, hh, d, h => by
    simp only [PyData.hasDictAll, Bool.or_eq_false_iff] at hh
    rcases List.mem_cons.mp h with rfl | h
    · exact hh.1
    · exact nd_mem hh.2 d h
theorem inB_int {d : D} (h : inB d = true) : ∃ i, d = .int i ∧ -1000000 ≤ i ∧ i ≤ 1000000 := by
  unfold inB at h
  split at h
  · simp only [Bool.and_eq_true, decide_eq_true_eq] at h
    exact ⟨_, rfl, h⟩
  · cases h
theorem num_int {d : D} (h : isNum d = true) : ∃ i, d = .int i := by
  cases d with
  | int i => exact ⟨i, rfl⟩
  | bool b => cases h
  | _ => cases h
theorem not_num {d : D} (h : isNum d = false) : inB d = false := by
  cases d with
  | int i => cases h
  | _ => rfl
theorem p_isnum {n : Nat} {g : Gh} {d : D} {K : D → Gh → Prop} {X : Exn → Gh → Prop} (hd : d.hasDict = false) (h : K (.bool (isNum d)) g) : callW T (n + 1) 24 [d] g K X := by
  refine call_df (np := 1) (ns := 1) (b := d24.b) rfl rfl ?_
  have e0 : startE 1 [d] g = ⟨[.fz d], g⟩ := rfl
  rw [e0]
  simp -implicitDefEqProofs only [↓s_cs, ↓nx_ap, ↓s_nil, ↓s_set, ↓s_par, ↓s_unp, ↓s_ret, ↓s_retN, ↓s_drop, ↓s_if, ↓s_whl, ↓s_for, ↓s_app, ↓s_ext, ↓s_put, ↓s_ja, ↓s_ji, ↓s_js, ↓s_jl, ↓s_rais, ↓s_pass, ↓s_brk, ↓s_cont, ↓s_tri, ↓hd_nil, ↓hd_cons, ↓un_s, ↓un_n, ↓hu_ret, ↓hu_ifr, ↓hx_b, ↓hx_s, ↓hx_i, ↓hx_n, ↓hx_fld, ↓hx_isA, ↓hx_nt, ↓hx_and, ↓hx_ite, ↓hx_lst, ↓hx_tup, ↓hxs_nil, ↓hxs_cons, ↓ra_none, ↓ra_some, ↓x_calldB, ↓x_lw, ↓x_dct0, ↓x_v, ↓x_i, ↓x_b, ↓x_n, ↓x_st, ↓x_g, ↓x_tup, ↓x_lst, ↓x_bin, ↓x_neg, ↓x_nt, ↓x_cmp, ↓x_chain, ↓x_isN, ↓x_notN, ↓x_and, ↓x_or, ↓x_ite, ↓x_ix, ↓x_cut, ↓x_rev, ↓x_stp, ↓x_callB, ↓x_callkB, ↓x_bi, ↓x_comp, ↓x_pop, ↓x_popA, ↓x_jg, ↓x_jn, ↓x_jp, ↓x_scut, ↓x_slen, ↓srcK, ↓srcL, ↓t_yes, ↓t_and', ↓t_or', ↓t_nt', ↓t_ex, ↓e_nil, ↓e_cons, ↓a_nil', ↓a_cons', ↓rs_nil, ↓rs_cons, ↓frzS_v, ↓frzS_n, ↓asgs_nil, ↓asgs_cons, ↓rd_z, ↓rd_s, ↓set_z, ↓set_s, ↓at_mk, ↓isJar_j, ↓der_v, ↓der_n, ↓der_sl, ↓frz_v, ↓frz_n, ↓frz_sl, ↓asg_v, ↓asg_n, ↓asg_sl, ↓opW, ↓cmpW, ↓eqw_int, ↓eqw_str, ↓eqw_tup, ↓eqw_lst, ↓ordW, ↓truW, ↓noOw, ↓ixW, ↓biW, ↓tgW, ↓tgsW, ↓opwW, ↓itW, ↓wipe_nil, ↓wipe_cons, ↓unwipe, ↓isOw, true_and, Bool.and_true, Bool.not_true, Bool.not_false, Bool.false_eq_true, ↓reduceIte, ↓blk_ap, ↓d24, ↓bi_isI, ↓bi_isB]
  refine ⟨.inl hd, ?_⟩
  unfold isNum at h
  cases e : isD .isInt d with
  | true => rw [e] at h; rw [if_pos rfl]; exact ⟨.inl hd, h⟩
  | false => rw [e] at h; rw [if_neg (by decide)]; exact h
theorem p_whole {n : Nat} {g : Gh} {d : D} {K : D → Gh → Prop} {X : Exn → Gh → Prop} (hd : d.hasDict = false) (h : K (.bool (isNum d)) g) : callW T (n + 1) 27 [d] g K X := by
  refine call_df (np := 1) (ns := 1) (b := d27.b) rfl rfl ?_
  have e0 : startE 1 [d] g = ⟨[.fz d], g⟩ := rfl
  rw [e0]
  simp -implicitDefEqProofs only [↓s_cs, ↓nx_ap, ↓s_nil, ↓s_set, ↓s_par, ↓s_unp, ↓s_ret, ↓s_retN, ↓s_drop, ↓s_if, ↓s_whl, ↓s_for, ↓s_app, ↓s_ext, ↓s_put, ↓s_ja, ↓s_ji, ↓s_js, ↓s_jl, ↓s_rais, ↓s_pass, ↓s_brk, ↓s_cont, ↓s_tri, ↓hd_nil, ↓hd_cons, ↓un_s, ↓un_n, ↓hu_ret, ↓hu_ifr, ↓hx_b, ↓hx_s, ↓hx_i, ↓hx_n, ↓hx_fld, ↓hx_isA, ↓hx_nt, ↓hx_and, ↓hx_ite, ↓hx_lst, ↓hx_tup, ↓hxs_nil, ↓hxs_cons, ↓ra_none, ↓ra_some, ↓x_calldB, ↓x_lw, ↓x_dct0, ↓x_v, ↓x_i, ↓x_b, ↓x_n, ↓x_st, ↓x_g, ↓x_tup, ↓x_lst, ↓x_bin, ↓x_neg, ↓x_nt, ↓x_cmp, ↓x_chain, ↓x_isN, ↓x_notN, ↓x_and, ↓x_or, ↓x_ite, ↓x_ix, ↓x_cut, ↓x_rev, ↓x_stp, ↓x_callB, ↓x_callkB, ↓x_bi, ↓x_comp, ↓x_pop, ↓x_popA, ↓x_jg, ↓x_jn, ↓x_jp, ↓x_scut, ↓x_slen, ↓srcK, ↓srcL, ↓t_yes, ↓t_and', ↓t_or', ↓t_nt', ↓t_ex, ↓e_nil, ↓e_cons, ↓a_nil', ↓a_cons', ↓rs_nil, ↓rs_cons, ↓frzS_v, ↓frzS_n, ↓asgs_nil, ↓asgs_cons, ↓rd_z, ↓rd_s, ↓set_z, ↓set_s, ↓at_mk, ↓isJar_j, ↓der_v, ↓der_n, ↓der_sl, ↓frz_v, ↓frz_n, ↓frz_sl, ↓asg_v, ↓asg_n, ↓asg_sl, ↓opW, ↓cmpW, ↓eqw_int, ↓eqw_str, ↓eqw_tup, ↓eqw_lst, ↓ordW, ↓truW, ↓noOw, ↓ixW, ↓biW, ↓tgW, ↓tgsW, ↓opwW, ↓itW, ↓wipe_nil, ↓wipe_cons, ↓unwipe, ↓isOw, true_and, Bool.and_true, Bool.not_true, Bool.not_false, Bool.false_eq_true, ↓reduceIte, ↓blk_ap, ↓d27, ↓bi_isI, ↓bi_isB]
  refine ⟨.inl hd, ?_⟩
  unfold isNum at h
  cases e : isD .isInt d with
  | true => rw [e] at h; rw [if_pos rfl]; exact ⟨.inl hd, h⟩
  | false => rw [e] at h; rw [if_neg (by decide)]; exact h
theorem p_within {n : Nat} {g : Gh} {d : D} {K : D → Gh → Prop} {X : Exn → Gh → Prop} (hd : d.hasDict = false) (h : K (.bool (inB d)) g) : callW T (n + 2) 25 [d, .int (-1000000), .int 1000000] g K X := by
  refine call_df (np := 3) (ns := 3) (b := d25.b) rfl rfl ?_
  have e0 : startE 3 [d, .int (-1000000), .int 1000000] g = ⟨[.fz d, .fz (.int (-1000000)), .fz (.int 1000000)], g⟩ := rfl
  rw [e0]
  simp -implicitDefEqProofs only [↓s_cs, ↓nx_ap, ↓s_nil, ↓s_set, ↓s_par, ↓s_unp, ↓s_ret, ↓s_retN, ↓s_drop, ↓s_if, ↓s_whl, ↓s_for, ↓s_app, ↓s_ext, ↓s_put, ↓s_ja, ↓s_ji, ↓s_js, ↓s_jl, ↓s_rais, ↓s_pass, ↓s_brk, ↓s_cont, ↓s_tri, ↓hd_nil, ↓hd_cons, ↓un_s, ↓un_n, ↓hu_ret, ↓hu_ifr, ↓hx_b, ↓hx_s, ↓hx_i, ↓hx_n, ↓hx_fld, ↓hx_isA, ↓hx_nt, ↓hx_and, ↓hx_ite, ↓hx_lst, ↓hx_tup, ↓hxs_nil, ↓hxs_cons, ↓ra_none, ↓ra_some, ↓x_calldB, ↓x_lw, ↓x_dct0, ↓x_v, ↓x_i, ↓x_b, ↓x_n, ↓x_st, ↓x_g, ↓x_tup, ↓x_lst, ↓x_bin, ↓x_neg, ↓x_nt, ↓x_cmp, ↓x_chain, ↓x_isN, ↓x_notN, ↓x_and, ↓x_or, ↓x_ite, ↓x_ix, ↓x_cut, ↓x_rev, ↓x_stp, ↓x_callB, ↓x_callkB, ↓x_bi, ↓x_comp, ↓x_pop, ↓x_popA, ↓x_jg, ↓x_jn, ↓x_jp, ↓x_scut, ↓x_slen, ↓srcK, ↓srcL, ↓t_yes, ↓t_and', ↓t_or', ↓t_nt', ↓t_ex, ↓e_nil, ↓e_cons, ↓a_nil', ↓a_cons', ↓rs_nil, ↓rs_cons, ↓frzS_v, ↓frzS_n, ↓asgs_nil, ↓asgs_cons, ↓rd_z, ↓rd_s, ↓set_z, ↓set_s, ↓at_mk, ↓isJar_j, ↓der_v, ↓der_n, ↓der_sl, ↓frz_v, ↓frz_n, ↓frz_sl, ↓asg_v, ↓asg_n, ↓asg_sl, ↓opW, ↓cmpW, ↓eqw_int, ↓eqw_str, ↓eqw_tup, ↓eqw_lst, ↓ordW, ↓truW, ↓noOw, ↓ixW, ↓biW, ↓tgW, ↓tgsW, ↓opwW, ↓itW, ↓wipe_nil, ↓wipe_cons, ↓unwipe, ↓isOw, true_and, Bool.and_true, Bool.not_true, Bool.not_false, Bool.false_eq_true, ↓reduceIte, ↓blk_ap, ↓d25]
  refine p_isnum (n := n) hd ?_
  try simp -implicitDefEqProofs only [↓s_cs, ↓nx_ap, ↓s_nil, ↓s_set, ↓s_par, ↓s_unp, ↓s_ret, ↓s_retN, ↓s_drop, ↓s_if, ↓s_whl, ↓s_for, ↓s_app, ↓s_ext, ↓s_put, ↓s_ja, ↓s_ji, ↓s_js, ↓s_jl, ↓s_rais, ↓s_pass, ↓s_brk, ↓s_cont, ↓s_tri, ↓hd_nil, ↓hd_cons, ↓un_s, ↓un_n, ↓hu_ret, ↓hu_ifr, ↓hx_b, ↓hx_s, ↓hx_i, ↓hx_n, ↓hx_fld, ↓hx_isA, ↓hx_nt, ↓hx_and, ↓hx_ite, ↓hx_lst, ↓hx_tup, ↓hxs_nil, ↓hxs_cons, ↓ra_none, ↓ra_some, ↓x_calldB, ↓x_lw, ↓x_dct0, ↓x_v, ↓x_i, ↓x_b, ↓x_n, ↓x_st, ↓x_g, ↓x_tup, ↓x_lst, ↓x_bin, ↓x_neg, ↓x_nt, ↓x_cmp, ↓x_chain, ↓x_isN, ↓x_notN, ↓x_and, ↓x_or, ↓x_ite, ↓x_ix, ↓x_cut, ↓x_rev, ↓x_stp, ↓x_callB, ↓x_callkB, ↓x_bi, ↓x_comp, ↓x_pop, ↓x_popA, ↓x_jg, ↓x_jn, ↓x_jp, ↓x_scut, ↓x_slen, ↓srcK, ↓srcL, ↓t_yes, ↓t_and', ↓t_or', ↓t_nt', ↓t_ex, ↓e_nil, ↓e_cons, ↓a_nil', ↓a_cons', ↓rs_nil, ↓rs_cons, ↓frzS_v, ↓frzS_n, ↓asgs_nil, ↓asgs_cons, ↓rd_z, ↓rd_s, ↓set_z, ↓set_s, ↓at_mk, ↓isJar_j, ↓der_v, ↓der_n, ↓der_sl, ↓frz_v, ↓frz_n, ↓frz_sl, ↓asg_v, ↓asg_n, ↓asg_sl, ↓opW, ↓cmpW, ↓eqw_int, ↓eqw_str, ↓eqw_tup, ↓eqw_lst, ↓ordW, ↓truW, ↓noOw, ↓ixW, ↓biW, ↓tgW, ↓tgsW, ↓opwW, ↓itW, ↓wipe_nil, ↓wipe_cons, ↓unwipe, ↓isOw, true_and, Bool.and_true, Bool.not_true, Bool.not_false, Bool.false_eq_true, ↓reduceIte, ↓blk_ap]
  cases e : isNum d with
  | true =>
    obtain ⟨i, rfl⟩ := num_int e
    rw [if_pos rfl]
    try simp -implicitDefEqProofs only [↓s_cs, ↓nx_ap, ↓s_nil, ↓s_set, ↓s_par, ↓s_unp, ↓s_ret, ↓s_retN, ↓s_drop, ↓s_if, ↓s_whl, ↓s_for, ↓s_app, ↓s_ext, ↓s_put, ↓s_ja, ↓s_ji, ↓s_js, ↓s_jl, ↓s_rais, ↓s_pass, ↓s_brk, ↓s_cont, ↓s_tri, ↓hd_nil, ↓hd_cons, ↓un_s, ↓un_n, ↓hu_ret, ↓hu_ifr, ↓hx_b, ↓hx_s, ↓hx_i, ↓hx_n, ↓hx_fld, ↓hx_isA, ↓hx_nt, ↓hx_and, ↓hx_ite, ↓hx_lst, ↓hx_tup, ↓hxs_nil, ↓hxs_cons, ↓ra_none, ↓ra_some, ↓x_calldB, ↓x_lw, ↓x_dct0, ↓x_v, ↓x_i, ↓x_b, ↓x_n, ↓x_st, ↓x_g, ↓x_tup, ↓x_lst, ↓x_bin, ↓x_neg, ↓x_nt, ↓x_cmp, ↓x_chain, ↓x_isN, ↓x_notN, ↓x_and, ↓x_or, ↓x_ite, ↓x_ix, ↓x_cut, ↓x_rev, ↓x_stp, ↓x_callB, ↓x_callkB, ↓x_bi, ↓x_comp, ↓x_pop, ↓x_popA, ↓x_jg, ↓x_jn, ↓x_jp, ↓x_scut, ↓x_slen, ↓srcK, ↓srcL, ↓t_yes, ↓t_and', ↓t_or', ↓t_nt', ↓t_ex, ↓e_nil, ↓e_cons, ↓a_nil', ↓a_cons', ↓rs_nil, ↓rs_cons, ↓frzS_v, ↓frzS_n, ↓asgs_nil, ↓asgs_cons, ↓rd_z, ↓rd_s, ↓set_z, ↓set_s, ↓at_mk, ↓isJar_j, ↓der_v, ↓der_n, ↓der_sl, ↓frz_v, ↓frz_n, ↓frz_sl, ↓asg_v, ↓asg_n, ↓asg_sl, ↓opW, ↓cmpW, ↓eqw_int, ↓eqw_str, ↓eqw_tup, ↓eqw_lst, ↓ordW, ↓truW, ↓noOw, ↓ixW, ↓biW, ↓tgW, ↓tgsW, ↓opwW, ↓itW, ↓wipe_nil, ↓wipe_cons, ↓unwipe, ↓isOw, true_and, Bool.and_true, Bool.not_true, Bool.not_false, Bool.false_eq_true, ↓reduceIte, ↓blk_ap]
    have ei : inB (.int i) = (decide (-1000000 ≤ i) && decide (i ≤ 1000000)) := rfl
    rw [ei] at h
    cases z : decide (-1000000 ≤ i) with
    | true => rw [z, Bool.true_and] at h; rw [if_pos rfl]; exact h
    | false => rw [z, Bool.false_and] at h; rw [if_neg (by decide)]; exact h
  | false =>
    rw [if_neg (by decide)]
    rw [not_num e] at h
    exact h
theorem six {ds : List D} (hl : ds.length = 6) (h : ∀ d ∈ ds, inB d = true) : ∃ f : Fr, ds = [.int f.a, .int f.b, .int f.c, .int f.d, .int f.p, .int f.q] ∧ S4 (10 ^ 6) f := by
  match ds, hl, h with
  | [x1, x2, x3, x4, x5, x6], _, h =>
    obtain ⟨a, rfl, a1, a2⟩ := inB_int (h x1 (by simp))
    obtain ⟨b, rfl, b1, b2⟩ := inB_int (h x2 (by simp))
    obtain ⟨c, rfl, c1, c2⟩ := inB_int (h x3 (by simp))
    obtain ⟨d, rfl, d1, d2⟩ := inB_int (h x4 (by simp))
    obtain ⟨p, rfl, _⟩ := inB_int (h x5 (by simp))
    obtain ⟨q, rfl, _⟩ := inB_int (h x6 (by simp))
    refine ⟨⟨a, b, c, d, p, q⟩, rfl, ?_⟩
    unfold S4
    dsimp only
    omega
theorem p_ferr {n : Nat} {g : Gh} {d : D} {K : D → Gh → Prop} {X : Exn → Gh → Prop} (hd : ND d) (h : K (errF d) g) : callW T (n + 3) 26 [d] g K X := by
  refine call_df (np := 1) (ns := 3) (b := d26.b) rfl rfl ?_
  have e0 : startE 3 [d] g = ⟨[.fz d, .un, .un], g⟩ := rfl
  rw [e0]
  simp -implicitDefEqProofs only [↓s_cs, ↓nx_ap, ↓s_nil, ↓s_set, ↓s_par, ↓s_unp, ↓s_ret, ↓s_retN, ↓s_drop, ↓s_if, ↓s_whl, ↓s_for, ↓s_app, ↓s_ext, ↓s_put, ↓s_ja, ↓s_ji, ↓s_js, ↓s_jl, ↓s_rais, ↓s_pass, ↓s_brk, ↓s_cont, ↓s_tri, ↓hd_nil, ↓hd_cons, ↓un_s, ↓un_n, ↓hu_ret, ↓hu_ifr, ↓hx_b, ↓hx_s, ↓hx_i, ↓hx_n, ↓hx_fld, ↓hx_isA, ↓hx_nt, ↓hx_and, ↓hx_ite, ↓hx_lst, ↓hx_tup, ↓hxs_nil, ↓hxs_cons, ↓ra_none, ↓ra_some, ↓x_calldB, ↓x_lw, ↓x_dct0, ↓x_v, ↓x_i, ↓x_b, ↓x_n, ↓x_st, ↓x_g, ↓x_tup, ↓x_lst, ↓x_bin, ↓x_neg, ↓x_nt, ↓x_cmp, ↓x_chain, ↓x_isN, ↓x_notN, ↓x_and, ↓x_or, ↓x_ite, ↓x_ix, ↓x_cut, ↓x_rev, ↓x_stp, ↓x_callB, ↓x_callkB, ↓x_bi, ↓x_comp, ↓x_pop, ↓x_popA, ↓x_jg, ↓x_jn, ↓x_jp, ↓x_scut, ↓x_slen, ↓srcK, ↓srcL, ↓t_yes, ↓t_and', ↓t_or', ↓t_nt', ↓t_ex, ↓e_nil, ↓e_cons, ↓a_nil', ↓a_cons', ↓rs_nil, ↓rs_cons, ↓frzS_v, ↓frzS_n, ↓asgs_nil, ↓asgs_cons, ↓rd_z, ↓rd_s, ↓set_z, ↓set_s, ↓at_mk, ↓isJar_j, ↓der_v, ↓der_n, ↓der_sl, ↓frz_v, ↓frz_n, ↓frz_sl, ↓asg_v, ↓asg_n, ↓asg_sl, ↓opW, ↓cmpW, ↓eqw_int, ↓eqw_str, ↓eqw_tup, ↓eqw_lst, ↓ordW, ↓truW, ↓noOw, ↓ixW, ↓biW, ↓tgW, ↓tgsW, ↓opwW, ↓itW, ↓wipe_nil, ↓wipe_cons, ↓unwipe, ↓isOw, true_and, Bool.and_true, Bool.not_true, Bool.not_false, Bool.false_eq_true, ↓reduceIte, ↓blk_ap, ↓d26, ↓bi_isT]
  refine ⟨hd, ?_⟩
  cases d with
  | tuple ds =>
    rw [show isD .isTuple (.tuple ds) = true from rfl, if_neg (by decide)]
    have nd := nd_mem (ds := ds) (by rcases hd with hd | hd; simpa only [PyData.hasDict] using hd; cases hd)
    have e : errF (.tuple ds) = if ds.length = 6 then (match ds.findIdx? (fun d => !inB d) with | some k => .tuple [.str "number", .int (k : Int)] | none => detF ds) else .str "form" := rfl
    rw [e] at h
    try simp -implicitDefEqProofs only [↓s_cs, ↓nx_ap, ↓s_nil, ↓s_set, ↓s_par, ↓s_unp, ↓s_ret, ↓s_retN, ↓s_drop, ↓s_if, ↓s_whl, ↓s_for, ↓s_app, ↓s_ext, ↓s_put, ↓s_ja, ↓s_ji, ↓s_js, ↓s_jl, ↓s_rais, ↓s_pass, ↓s_brk, ↓s_cont, ↓s_tri, ↓hd_nil, ↓hd_cons, ↓un_s, ↓un_n, ↓hu_ret, ↓hu_ifr, ↓hx_b, ↓hx_s, ↓hx_i, ↓hx_n, ↓hx_fld, ↓hx_isA, ↓hx_nt, ↓hx_and, ↓hx_ite, ↓hx_lst, ↓hx_tup, ↓hxs_nil, ↓hxs_cons, ↓ra_none, ↓ra_some, ↓x_calldB, ↓x_lw, ↓x_dct0, ↓x_v, ↓x_i, ↓x_b, ↓x_n, ↓x_st, ↓x_g, ↓x_tup, ↓x_lst, ↓x_bin, ↓x_neg, ↓x_nt, ↓x_cmp, ↓x_chain, ↓x_isN, ↓x_notN, ↓x_and, ↓x_or, ↓x_ite, ↓x_ix, ↓x_cut, ↓x_rev, ↓x_stp, ↓x_callB, ↓x_callkB, ↓x_bi, ↓x_comp, ↓x_pop, ↓x_popA, ↓x_jg, ↓x_jn, ↓x_jp, ↓x_scut, ↓x_slen, ↓srcK, ↓srcL, ↓t_yes, ↓t_and', ↓t_or', ↓t_nt', ↓t_ex, ↓e_nil, ↓e_cons, ↓a_nil', ↓a_cons', ↓rs_nil, ↓rs_cons, ↓frzS_v, ↓frzS_n, ↓asgs_nil, ↓asgs_cons, ↓rd_z, ↓rd_s, ↓set_z, ↓set_s, ↓at_mk, ↓isJar_j, ↓der_v, ↓der_n, ↓der_sl, ↓frz_v, ↓frz_n, ↓frz_sl, ↓asg_v, ↓asg_n, ↓asg_sl, ↓opW, ↓cmpW, ↓eqw_int, ↓eqw_str, ↓eqw_tup, ↓eqw_lst, ↓ordW, ↓truW, ↓noOw, ↓ixW, ↓biW, ↓tgW, ↓tgsW, ↓opwW, ↓itW, ↓wipe_nil, ↓wipe_cons, ↓unwipe, ↓isOw, true_and, Bool.and_true, Bool.not_true, Bool.not_false, Bool.false_eq_true, ↓reduceIte, ↓blk_ap]
    by_cases l6 : ds.length = 6
    · rw [if_neg (by rw [decide_eq_true (show (ds.length : Int) = 6 by omega)]; decide)]
      rw [if_pos l6] at h
      refine for_inv (fun i r => (∃ s1 s2, r = ⟨[.fz (.tuple ds), s1, s2], g⟩) ∧ ∀ j e, j < i → ds[j]? = some e → inB e = true) ⟨⟨_, _, rfl⟩, fun j e hj => by omega⟩ ?_ ?_
      · rintro i d r hdd ⟨⟨s1, s2, rfl⟩, hb⟩ kk hk
        obtain ⟨v, hv, rfl⟩ := enum_get hdd
        simp -implicitDefEqProofs only [↓s_cs, ↓nx_ap, ↓s_nil, ↓s_set, ↓s_par, ↓s_unp, ↓s_ret, ↓s_retN, ↓s_drop, ↓s_if, ↓s_whl, ↓s_for, ↓s_app, ↓s_ext, ↓s_put, ↓s_ja, ↓s_ji, ↓s_js, ↓s_jl, ↓s_rais, ↓s_pass, ↓s_brk, ↓s_cont, ↓s_tri, ↓hd_nil, ↓hd_cons, ↓un_s, ↓un_n, ↓hu_ret, ↓hu_ifr, ↓hx_b, ↓hx_s, ↓hx_i, ↓hx_n, ↓hx_fld, ↓hx_isA, ↓hx_nt, ↓hx_and, ↓hx_ite, ↓hx_lst, ↓hx_tup, ↓hxs_nil, ↓hxs_cons, ↓ra_none, ↓ra_some, ↓x_calldB, ↓x_lw, ↓x_dct0, ↓x_v, ↓x_i, ↓x_b, ↓x_n, ↓x_st, ↓x_g, ↓x_tup, ↓x_lst, ↓x_bin, ↓x_neg, ↓x_nt, ↓x_cmp, ↓x_chain, ↓x_isN, ↓x_notN, ↓x_and, ↓x_or, ↓x_ite, ↓x_ix, ↓x_cut, ↓x_rev, ↓x_stp, ↓x_callB, ↓x_callkB, ↓x_bi, ↓x_comp, ↓x_pop, ↓x_popA, ↓x_jg, ↓x_jn, ↓x_jp, ↓x_scut, ↓x_slen, ↓srcK, ↓srcL, ↓t_yes, ↓t_and', ↓t_or', ↓t_nt', ↓t_ex, ↓e_nil, ↓e_cons, ↓a_nil', ↓a_cons', ↓rs_nil, ↓rs_cons, ↓frzS_v, ↓frzS_n, ↓asgs_nil, ↓asgs_cons, ↓rd_z, ↓rd_s, ↓set_z, ↓set_s, ↓at_mk, ↓isJar_j, ↓der_v, ↓der_n, ↓der_sl, ↓frz_v, ↓frz_n, ↓frz_sl, ↓asg_v, ↓asg_n, ↓asg_sl, ↓opW, ↓cmpW, ↓eqw_int, ↓eqw_str, ↓eqw_tup, ↓eqw_lst, ↓ordW, ↓truW, ↓noOw, ↓ixW, ↓biW, ↓tgW, ↓tgsW, ↓opwW, ↓itW, ↓wipe_nil, ↓wipe_cons, ↓unwipe, ↓isOw, true_and, Bool.and_true, Bool.not_true, Bool.not_false, Bool.false_eq_true, ↓reduceIte, ↓blk_ap, ↓forF, ↓d26_1]
        refine p_within (n := n) (nd v (List.mem_of_getElem? hv)) ?_
        try simp -implicitDefEqProofs only [↓s_cs, ↓nx_ap, ↓s_nil, ↓s_set, ↓s_par, ↓s_unp, ↓s_ret, ↓s_retN, ↓s_drop, ↓s_if, ↓s_whl, ↓s_for, ↓s_app, ↓s_ext, ↓s_put, ↓s_ja, ↓s_ji, ↓s_js, ↓s_jl, ↓s_rais, ↓s_pass, ↓s_brk, ↓s_cont, ↓s_tri, ↓hd_nil, ↓hd_cons, ↓un_s, ↓un_n, ↓hu_ret, ↓hu_ifr, ↓hx_b, ↓hx_s, ↓hx_i, ↓hx_n, ↓hx_fld, ↓hx_isA, ↓hx_nt, ↓hx_and, ↓hx_ite, ↓hx_lst, ↓hx_tup, ↓hxs_nil, ↓hxs_cons, ↓ra_none, ↓ra_some, ↓x_calldB, ↓x_lw, ↓x_dct0, ↓x_v, ↓x_i, ↓x_b, ↓x_n, ↓x_st, ↓x_g, ↓x_tup, ↓x_lst, ↓x_bin, ↓x_neg, ↓x_nt, ↓x_cmp, ↓x_chain, ↓x_isN, ↓x_notN, ↓x_and, ↓x_or, ↓x_ite, ↓x_ix, ↓x_cut, ↓x_rev, ↓x_stp, ↓x_callB, ↓x_callkB, ↓x_bi, ↓x_comp, ↓x_pop, ↓x_popA, ↓x_jg, ↓x_jn, ↓x_jp, ↓x_scut, ↓x_slen, ↓srcK, ↓srcL, ↓t_yes, ↓t_and', ↓t_or', ↓t_nt', ↓t_ex, ↓e_nil, ↓e_cons, ↓a_nil', ↓a_cons', ↓rs_nil, ↓rs_cons, ↓frzS_v, ↓frzS_n, ↓asgs_nil, ↓asgs_cons, ↓rd_z, ↓rd_s, ↓set_z, ↓set_s, ↓at_mk, ↓isJar_j, ↓der_v, ↓der_n, ↓der_sl, ↓frz_v, ↓frz_n, ↓frz_sl, ↓asg_v, ↓asg_n, ↓asg_sl, ↓opW, ↓cmpW, ↓eqw_int, ↓eqw_str, ↓eqw_tup, ↓eqw_lst, ↓ordW, ↓truW, ↓noOw, ↓ixW, ↓biW, ↓tgW, ↓tgsW, ↓opwW, ↓itW, ↓wipe_nil, ↓wipe_cons, ↓unwipe, ↓isOw, true_and, Bool.and_true, Bool.not_true, Bool.not_false, Bool.false_eq_true, ↓reduceIte, ↓blk_ap]
        cases eo : inB v with
        | false =>
          rw [if_pos (by decide)]
          rw [findIdx_at hv eo hb] at h
          exact h
        | true =>
          rw [if_neg (by decide)]
          refine hk _ ⟨⟨_, _, rfl⟩, fun j e hj he => ?_⟩
          by_cases q : j = i
          · subst q
            rw [hv] at he
            cases he
            exact eo
          · exact hb j e (by omega) he
      · rintro r ⟨⟨s1, s2, rfl⟩, hb⟩
        have el : (enumD ds).length = ds.length := by unfold enumD; rw [List.length_mapIdx]
        rw [el] at hb
        have all : ∀ d ∈ ds, inB d = true := fun d hd => by
          obtain ⟨j, hj⟩ := List.mem_iff_getElem?.mp hd
          exact hb j d (List.getElem?_eq_some_iff.mp hj).1 hj
        rw [findIdx_no all] at h
        obtain ⟨f, rfl, hf⟩ := six l6 all
        try simp -implicitDefEqProofs only [↓s_cs, ↓nx_ap, ↓s_nil, ↓s_set, ↓s_par, ↓s_unp, ↓s_ret, ↓s_retN, ↓s_drop, ↓s_if, ↓s_whl, ↓s_for, ↓s_app, ↓s_ext, ↓s_put, ↓s_ja, ↓s_ji, ↓s_js, ↓s_jl, ↓s_rais, ↓s_pass, ↓s_brk, ↓s_cont, ↓s_tri, ↓hd_nil, ↓hd_cons, ↓un_s, ↓un_n, ↓hu_ret, ↓hu_ifr, ↓hx_b, ↓hx_s, ↓hx_i, ↓hx_n, ↓hx_fld, ↓hx_isA, ↓hx_nt, ↓hx_and, ↓hx_ite, ↓hx_lst, ↓hx_tup, ↓hxs_nil, ↓hxs_cons, ↓ra_none, ↓ra_some, ↓x_calldB, ↓x_lw, ↓x_dct0, ↓x_v, ↓x_i, ↓x_b, ↓x_n, ↓x_st, ↓x_g, ↓x_tup, ↓x_lst, ↓x_bin, ↓x_neg, ↓x_nt, ↓x_cmp, ↓x_chain, ↓x_isN, ↓x_notN, ↓x_and, ↓x_or, ↓x_ite, ↓x_ix, ↓x_cut, ↓x_rev, ↓x_stp, ↓x_callB, ↓x_callkB, ↓x_bi, ↓x_comp, ↓x_pop, ↓x_popA, ↓x_jg, ↓x_jn, ↓x_jp, ↓x_scut, ↓x_slen, ↓srcK, ↓srcL, ↓t_yes, ↓t_and', ↓t_or', ↓t_nt', ↓t_ex, ↓e_nil, ↓e_cons, ↓a_nil', ↓a_cons', ↓rs_nil, ↓rs_cons, ↓frzS_v, ↓frzS_n, ↓asgs_nil, ↓asgs_cons, ↓rd_z, ↓rd_s, ↓set_z, ↓set_s, ↓at_mk, ↓isJar_j, ↓der_v, ↓der_n, ↓der_sl, ↓frz_v, ↓frz_n, ↓frz_sl, ↓asg_v, ↓asg_n, ↓asg_sl, ↓opW, ↓cmpW, ↓eqw_int, ↓eqw_str, ↓eqw_tup, ↓eqw_lst, ↓ordW, ↓truW, ↓noOw, ↓ixW, ↓biW, ↓tgW, ↓tgsW, ↓opwW, ↓itW, ↓wipe_nil, ↓wipe_cons, ↓unwipe, ↓isOw, true_and, Bool.and_true, Bool.not_true, Bool.not_false, Bool.false_eq_true, ↓reduceIte, ↓blk_ap]
        refine p_fdet (n := n + 1) (hf.mono (by decide)) ?_
        try simp -implicitDefEqProofs only [↓s_cs, ↓nx_ap, ↓s_nil, ↓s_set, ↓s_par, ↓s_unp, ↓s_ret, ↓s_retN, ↓s_drop, ↓s_if, ↓s_whl, ↓s_for, ↓s_app, ↓s_ext, ↓s_put, ↓s_ja, ↓s_ji, ↓s_js, ↓s_jl, ↓s_rais, ↓s_pass, ↓s_brk, ↓s_cont, ↓s_tri, ↓hd_nil, ↓hd_cons, ↓un_s, ↓un_n, ↓hu_ret, ↓hu_ifr, ↓hx_b, ↓hx_s, ↓hx_i, ↓hx_n, ↓hx_fld, ↓hx_isA, ↓hx_nt, ↓hx_and, ↓hx_ite, ↓hx_lst, ↓hx_tup, ↓hxs_nil, ↓hxs_cons, ↓ra_none, ↓ra_some, ↓x_calldB, ↓x_lw, ↓x_dct0, ↓x_v, ↓x_i, ↓x_b, ↓x_n, ↓x_st, ↓x_g, ↓x_tup, ↓x_lst, ↓x_bin, ↓x_neg, ↓x_nt, ↓x_cmp, ↓x_chain, ↓x_isN, ↓x_notN, ↓x_and, ↓x_or, ↓x_ite, ↓x_ix, ↓x_cut, ↓x_rev, ↓x_stp, ↓x_callB, ↓x_callkB, ↓x_bi, ↓x_comp, ↓x_pop, ↓x_popA, ↓x_jg, ↓x_jn, ↓x_jp, ↓x_scut, ↓x_slen, ↓srcK, ↓srcL, ↓t_yes, ↓t_and', ↓t_or', ↓t_nt', ↓t_ex, ↓e_nil, ↓e_cons, ↓a_nil', ↓a_cons', ↓rs_nil, ↓rs_cons, ↓frzS_v, ↓frzS_n, ↓asgs_nil, ↓asgs_cons, ↓rd_z, ↓rd_s, ↓set_z, ↓set_s, ↓at_mk, ↓isJar_j, ↓der_v, ↓der_n, ↓der_sl, ↓frz_v, ↓frz_n, ↓frz_sl, ↓asg_v, ↓asg_n, ↓asg_sl, ↓opW, ↓cmpW, ↓eqw_int, ↓eqw_str, ↓eqw_tup, ↓eqw_lst, ↓ordW, ↓truW, ↓noOw, ↓ixW, ↓biW, ↓tgW, ↓tgsW, ↓opwW, ↓itW, ↓wipe_nil, ↓wipe_cons, ↓unwipe, ↓isOw, true_and, Bool.and_true, Bool.not_true, Bool.not_false, Bool.false_eq_true, ↓reduceIte, ↓blk_ap, ↓inW]
        refine ⟨rfl, rfl, ?_⟩
        have ed : detF [.int f.a, .int f.b, .int f.c, .int f.d, .int f.p, .int f.q] = if inD (.int f.det) [.int 1, .int (-1)] = true then .none else .str "det" := rfl
        have h : K (detF [.int f.a, .int f.b, .int f.c, .int f.d, .int f.p, .int f.q]) g := h
        rw [ed] at h
        split
        · rename_i z; rw [if_pos z] at h; exact h
        · rename_i z; rw [if_neg z] at h; exact h
    · rw [if_pos (by rw [decide_eq_false (show ¬(ds.length : Int) = 6 by omega)]; rfl)]
      rw [if_neg l6] at h
      exact h
  | _ => exact h
theorem p_fdue {n : Nat} {g : Gh} {d : D} {K : D → Gh → Prop} {X : Exn → Gh → Prop} (hd : ND d) (h : K (errF d) g) : callW T (n + 3) 28 [d] g K X := by
  refine call_df (np := 1) (ns := 3) (b := d28.b) rfl rfl ?_
  have e0 : startE 3 [d] g = ⟨[.fz d, .un, .un], g⟩ := rfl
  rw [e0]
  simp -implicitDefEqProofs only [↓s_cs, ↓nx_ap, ↓s_nil, ↓s_set, ↓s_par, ↓s_unp, ↓s_ret, ↓s_retN, ↓s_drop, ↓s_if, ↓s_whl, ↓s_for, ↓s_app, ↓s_ext, ↓s_put, ↓s_ja, ↓s_ji, ↓s_js, ↓s_jl, ↓s_rais, ↓s_pass, ↓s_brk, ↓s_cont, ↓s_tri, ↓hd_nil, ↓hd_cons, ↓un_s, ↓un_n, ↓hu_ret, ↓hu_ifr, ↓hx_b, ↓hx_s, ↓hx_i, ↓hx_n, ↓hx_fld, ↓hx_isA, ↓hx_nt, ↓hx_and, ↓hx_ite, ↓hx_lst, ↓hx_tup, ↓hxs_nil, ↓hxs_cons, ↓ra_none, ↓ra_some, ↓x_calldB, ↓x_lw, ↓x_dct0, ↓x_v, ↓x_i, ↓x_b, ↓x_n, ↓x_st, ↓x_g, ↓x_tup, ↓x_lst, ↓x_bin, ↓x_neg, ↓x_nt, ↓x_cmp, ↓x_chain, ↓x_isN, ↓x_notN, ↓x_and, ↓x_or, ↓x_ite, ↓x_ix, ↓x_cut, ↓x_rev, ↓x_stp, ↓x_callB, ↓x_callkB, ↓x_bi, ↓x_comp, ↓x_pop, ↓x_popA, ↓x_jg, ↓x_jn, ↓x_jp, ↓x_scut, ↓x_slen, ↓srcK, ↓srcL, ↓t_yes, ↓t_and', ↓t_or', ↓t_nt', ↓t_ex, ↓e_nil, ↓e_cons, ↓a_nil', ↓a_cons', ↓rs_nil, ↓rs_cons, ↓frzS_v, ↓frzS_n, ↓asgs_nil, ↓asgs_cons, ↓rd_z, ↓rd_s, ↓set_z, ↓set_s, ↓at_mk, ↓isJar_j, ↓der_v, ↓der_n, ↓der_sl, ↓frz_v, ↓frz_n, ↓frz_sl, ↓asg_v, ↓asg_n, ↓asg_sl, ↓opW, ↓cmpW, ↓eqw_int, ↓eqw_str, ↓eqw_tup, ↓eqw_lst, ↓ordW, ↓truW, ↓noOw, ↓ixW, ↓biW, ↓tgW, ↓tgsW, ↓opwW, ↓itW, ↓wipe_nil, ↓wipe_cons, ↓unwipe, ↓isOw, true_and, Bool.and_true, Bool.not_true, Bool.not_false, Bool.false_eq_true, ↓reduceIte, ↓blk_ap, ↓d28, ↓bi_isT]
  refine ⟨hd, ?_⟩
  cases d with
  | tuple ds =>
    rw [show isD .isTuple (.tuple ds) = true from rfl, if_neg (by decide)]
    have nd := nd_mem (ds := ds) (by rcases hd with hd | hd; simpa only [PyData.hasDict] using hd; cases hd)
    have e : errF (.tuple ds) = if ds.length = 6 then (match ds.findIdx? (fun d => !inB d) with | some k => .tuple [.str "number", .int (k : Int)] | none => detF ds) else .str "form" := rfl
    rw [e] at h
    try simp -implicitDefEqProofs only [↓s_cs, ↓nx_ap, ↓s_nil, ↓s_set, ↓s_par, ↓s_unp, ↓s_ret, ↓s_retN, ↓s_drop, ↓s_if, ↓s_whl, ↓s_for, ↓s_app, ↓s_ext, ↓s_put, ↓s_ja, ↓s_ji, ↓s_js, ↓s_jl, ↓s_rais, ↓s_pass, ↓s_brk, ↓s_cont, ↓s_tri, ↓hd_nil, ↓hd_cons, ↓un_s, ↓un_n, ↓hu_ret, ↓hu_ifr, ↓hx_b, ↓hx_s, ↓hx_i, ↓hx_n, ↓hx_fld, ↓hx_isA, ↓hx_nt, ↓hx_and, ↓hx_ite, ↓hx_lst, ↓hx_tup, ↓hxs_nil, ↓hxs_cons, ↓ra_none, ↓ra_some, ↓x_calldB, ↓x_lw, ↓x_dct0, ↓x_v, ↓x_i, ↓x_b, ↓x_n, ↓x_st, ↓x_g, ↓x_tup, ↓x_lst, ↓x_bin, ↓x_neg, ↓x_nt, ↓x_cmp, ↓x_chain, ↓x_isN, ↓x_notN, ↓x_and, ↓x_or, ↓x_ite, ↓x_ix, ↓x_cut, ↓x_rev, ↓x_stp, ↓x_callB, ↓x_callkB, ↓x_bi, ↓x_comp, ↓x_pop, ↓x_popA, ↓x_jg, ↓x_jn, ↓x_jp, ↓x_scut, ↓x_slen, ↓srcK, ↓srcL, ↓t_yes, ↓t_and', ↓t_or', ↓t_nt', ↓t_ex, ↓e_nil, ↓e_cons, ↓a_nil', ↓a_cons', ↓rs_nil, ↓rs_cons, ↓frzS_v, ↓frzS_n, ↓asgs_nil, ↓asgs_cons, ↓rd_z, ↓rd_s, ↓set_z, ↓set_s, ↓at_mk, ↓isJar_j, ↓der_v, ↓der_n, ↓der_sl, ↓frz_v, ↓frz_n, ↓frz_sl, ↓asg_v, ↓asg_n, ↓asg_sl, ↓opW, ↓cmpW, ↓eqw_int, ↓eqw_str, ↓eqw_tup, ↓eqw_lst, ↓ordW, ↓truW, ↓noOw, ↓ixW, ↓biW, ↓tgW, ↓tgsW, ↓opwW, ↓itW, ↓wipe_nil, ↓wipe_cons, ↓unwipe, ↓isOw, true_and, Bool.and_true, Bool.not_true, Bool.not_false, Bool.false_eq_true, ↓reduceIte, ↓blk_ap]
    by_cases l6 : ds.length = 6
    · rw [if_neg (by rw [decide_eq_true (show (ds.length : Int) = 6 by omega)]; decide)]
      rw [if_pos l6] at h
      refine for_inv (fun i r => (∃ s1 s2, r = ⟨[.fz (.tuple ds), s1, s2], g⟩) ∧ ∀ j e, j < i → ds[j]? = some e → inB e = true) ⟨⟨_, _, rfl⟩, fun j e hj => by omega⟩ ?_ ?_
      · rintro i d r hdd ⟨⟨s1, s2, rfl⟩, hb⟩ kk hk
        obtain ⟨v, hv, rfl⟩ := enum_get hdd
        have bad : inB v = false → K (.tuple [.str "number", .int (i : Int)]) g := fun eo => by
          rw [findIdx_at hv eo hb] at h
          exact h
        have good : inB v = true → kk ⟨[.fz (.tuple ds), .fz (.int (i : Int)), .fz v], g⟩ := fun eo => by
          refine hk _ ⟨⟨_, _, rfl⟩, fun j e hj he => ?_⟩
          by_cases q : j = i
          · subst q
            rw [hv] at he
            cases he
            exact eo
          · exact hb j e (by omega) he
        simp -implicitDefEqProofs only [↓s_cs, ↓nx_ap, ↓s_nil, ↓s_set, ↓s_par, ↓s_unp, ↓s_ret, ↓s_retN, ↓s_drop, ↓s_if, ↓s_whl, ↓s_for, ↓s_app, ↓s_ext, ↓s_put, ↓s_ja, ↓s_ji, ↓s_js, ↓s_jl, ↓s_rais, ↓s_pass, ↓s_brk, ↓s_cont, ↓s_tri, ↓hd_nil, ↓hd_cons, ↓un_s, ↓un_n, ↓hu_ret, ↓hu_ifr, ↓hx_b, ↓hx_s, ↓hx_i, ↓hx_n, ↓hx_fld, ↓hx_isA, ↓hx_nt, ↓hx_and, ↓hx_ite, ↓hx_lst, ↓hx_tup, ↓hxs_nil, ↓hxs_cons, ↓ra_none, ↓ra_some, ↓x_calldB, ↓x_lw, ↓x_dct0, ↓x_v, ↓x_i, ↓x_b, ↓x_n, ↓x_st, ↓x_g, ↓x_tup, ↓x_lst, ↓x_bin, ↓x_neg, ↓x_nt, ↓x_cmp, ↓x_chain, ↓x_isN, ↓x_notN, ↓x_and, ↓x_or, ↓x_ite, ↓x_ix, ↓x_cut, ↓x_rev, ↓x_stp, ↓x_callB, ↓x_callkB, ↓x_bi, ↓x_comp, ↓x_pop, ↓x_popA, ↓x_jg, ↓x_jn, ↓x_jp, ↓x_scut, ↓x_slen, ↓srcK, ↓srcL, ↓t_yes, ↓t_and', ↓t_or', ↓t_nt', ↓t_ex, ↓e_nil, ↓e_cons, ↓a_nil', ↓a_cons', ↓rs_nil, ↓rs_cons, ↓frzS_v, ↓frzS_n, ↓asgs_nil, ↓asgs_cons, ↓rd_z, ↓rd_s, ↓set_z, ↓set_s, ↓at_mk, ↓isJar_j, ↓der_v, ↓der_n, ↓der_sl, ↓frz_v, ↓frz_n, ↓frz_sl, ↓asg_v, ↓asg_n, ↓asg_sl, ↓opW, ↓cmpW, ↓eqw_int, ↓eqw_str, ↓eqw_tup, ↓eqw_lst, ↓ordW, ↓truW, ↓noOw, ↓ixW, ↓biW, ↓tgW, ↓tgsW, ↓opwW, ↓itW, ↓wipe_nil, ↓wipe_cons, ↓unwipe, ↓isOw, true_and, Bool.and_true, Bool.not_true, Bool.not_false, Bool.false_eq_true, ↓reduceIte, ↓blk_ap, ↓forF, ↓d28_1]
        refine p_whole (n := n + 1) (nd v (List.mem_of_getElem? hv)) ?_
        try simp -implicitDefEqProofs only [↓s_cs, ↓nx_ap, ↓s_nil, ↓s_set, ↓s_par, ↓s_unp, ↓s_ret, ↓s_retN, ↓s_drop, ↓s_if, ↓s_whl, ↓s_for, ↓s_app, ↓s_ext, ↓s_put, ↓s_ja, ↓s_ji, ↓s_js, ↓s_jl, ↓s_rais, ↓s_pass, ↓s_brk, ↓s_cont, ↓s_tri, ↓hd_nil, ↓hd_cons, ↓un_s, ↓un_n, ↓hu_ret, ↓hu_ifr, ↓hx_b, ↓hx_s, ↓hx_i, ↓hx_n, ↓hx_fld, ↓hx_isA, ↓hx_nt, ↓hx_and, ↓hx_ite, ↓hx_lst, ↓hx_tup, ↓hxs_nil, ↓hxs_cons, ↓ra_none, ↓ra_some, ↓x_calldB, ↓x_lw, ↓x_dct0, ↓x_v, ↓x_i, ↓x_b, ↓x_n, ↓x_st, ↓x_g, ↓x_tup, ↓x_lst, ↓x_bin, ↓x_neg, ↓x_nt, ↓x_cmp, ↓x_chain, ↓x_isN, ↓x_notN, ↓x_and, ↓x_or, ↓x_ite, ↓x_ix, ↓x_cut, ↓x_rev, ↓x_stp, ↓x_callB, ↓x_callkB, ↓x_bi, ↓x_comp, ↓x_pop, ↓x_popA, ↓x_jg, ↓x_jn, ↓x_jp, ↓x_scut, ↓x_slen, ↓srcK, ↓srcL, ↓t_yes, ↓t_and', ↓t_or', ↓t_nt', ↓t_ex, ↓e_nil, ↓e_cons, ↓a_nil', ↓a_cons', ↓rs_nil, ↓rs_cons, ↓frzS_v, ↓frzS_n, ↓asgs_nil, ↓asgs_cons, ↓rd_z, ↓rd_s, ↓set_z, ↓set_s, ↓at_mk, ↓isJar_j, ↓der_v, ↓der_n, ↓der_sl, ↓frz_v, ↓frz_n, ↓frz_sl, ↓asg_v, ↓asg_n, ↓asg_sl, ↓opW, ↓cmpW, ↓eqw_int, ↓eqw_str, ↓eqw_tup, ↓eqw_lst, ↓ordW, ↓truW, ↓noOw, ↓ixW, ↓biW, ↓tgW, ↓tgsW, ↓opwW, ↓itW, ↓wipe_nil, ↓wipe_cons, ↓unwipe, ↓isOw, true_and, Bool.and_true, Bool.not_true, Bool.not_false, Bool.false_eq_true, ↓reduceIte, ↓blk_ap]
        cases eo : isNum v with
        | false =>
          rw [if_pos (by decide)]
          exact bad (not_num eo)
        | true =>
          rw [if_neg (by decide)]
          obtain ⟨x, rfl⟩ := num_int eo
          try simp -implicitDefEqProofs only [↓s_cs, ↓nx_ap, ↓s_nil, ↓s_set, ↓s_par, ↓s_unp, ↓s_ret, ↓s_retN, ↓s_drop, ↓s_if, ↓s_whl, ↓s_for, ↓s_app, ↓s_ext, ↓s_put, ↓s_ja, ↓s_ji, ↓s_js, ↓s_jl, ↓s_rais, ↓s_pass, ↓s_brk, ↓s_cont, ↓s_tri, ↓hd_nil, ↓hd_cons, ↓un_s, ↓un_n, ↓hu_ret, ↓hu_ifr, ↓hx_b, ↓hx_s, ↓hx_i, ↓hx_n, ↓hx_fld, ↓hx_isA, ↓hx_nt, ↓hx_and, ↓hx_ite, ↓hx_lst, ↓hx_tup, ↓hxs_nil, ↓hxs_cons, ↓ra_none, ↓ra_some, ↓x_calldB, ↓x_lw, ↓x_dct0, ↓x_v, ↓x_i, ↓x_b, ↓x_n, ↓x_st, ↓x_g, ↓x_tup, ↓x_lst, ↓x_bin, ↓x_neg, ↓x_nt, ↓x_cmp, ↓x_chain, ↓x_isN, ↓x_notN, ↓x_and, ↓x_or, ↓x_ite, ↓x_ix, ↓x_cut, ↓x_rev, ↓x_stp, ↓x_callB, ↓x_callkB, ↓x_bi, ↓x_comp, ↓x_pop, ↓x_popA, ↓x_jg, ↓x_jn, ↓x_jp, ↓x_scut, ↓x_slen, ↓srcK, ↓srcL, ↓t_yes, ↓t_and', ↓t_or', ↓t_nt', ↓t_ex, ↓e_nil, ↓e_cons, ↓a_nil', ↓a_cons', ↓rs_nil, ↓rs_cons, ↓frzS_v, ↓frzS_n, ↓asgs_nil, ↓asgs_cons, ↓rd_z, ↓rd_s, ↓set_z, ↓set_s, ↓at_mk, ↓isJar_j, ↓der_v, ↓der_n, ↓der_sl, ↓frz_v, ↓frz_n, ↓frz_sl, ↓asg_v, ↓asg_n, ↓asg_sl, ↓opW, ↓cmpW, ↓eqw_int, ↓eqw_str, ↓eqw_tup, ↓eqw_lst, ↓ordW, ↓truW, ↓noOw, ↓ixW, ↓biW, ↓tgW, ↓tgsW, ↓opwW, ↓itW, ↓wipe_nil, ↓wipe_cons, ↓unwipe, ↓isOw, true_and, Bool.and_true, Bool.not_true, Bool.not_false, Bool.false_eq_true, ↓reduceIte, ↓blk_ap]
          by_cases q : 1000000 < (if x < 0 then -x else x)
          · rw [if_pos (decide_eq_true q)]
            refine bad ?_
            show (decide (-1000000 ≤ x) && decide (x ≤ 1000000)) = false
            rw [Bool.and_eq_false_iff, decide_eq_false_iff_not, decide_eq_false_iff_not]
            split at q <;> omega
          · rw [if_neg (by rw [decide_eq_true_eq]; exact q)]
            refine good ?_
            show (decide (-1000000 ≤ x) && decide (x ≤ 1000000)) = true
            rw [Bool.and_eq_true, decide_eq_true_eq, decide_eq_true_eq]
            split at q <;> omega
      · rintro r ⟨⟨s1, s2, rfl⟩, hb⟩
        have el : (enumD ds).length = ds.length := by unfold enumD; rw [List.length_mapIdx]
        rw [el] at hb
        have all : ∀ d ∈ ds, inB d = true := fun d hd => by
          obtain ⟨j, hj⟩ := List.mem_iff_getElem?.mp hd
          exact hb j d (List.getElem?_eq_some_iff.mp hj).1 hj
        rw [findIdx_no all] at h
        obtain ⟨f, rfl, hf⟩ := six l6 all
        obtain ⟨h1, h2, h3, h4⟩ := hf
        try simp -implicitDefEqProofs only [↓s_cs, ↓nx_ap, ↓s_nil, ↓s_set, ↓s_par, ↓s_unp, ↓s_ret, ↓s_retN, ↓s_drop, ↓s_if, ↓s_whl, ↓s_for, ↓s_app, ↓s_ext, ↓s_put, ↓s_ja, ↓s_ji, ↓s_js, ↓s_jl, ↓s_rais, ↓s_pass, ↓s_brk, ↓s_cont, ↓s_tri, ↓hd_nil, ↓hd_cons, ↓un_s, ↓un_n, ↓hu_ret, ↓hu_ifr, ↓hx_b, ↓hx_s, ↓hx_i, ↓hx_n, ↓hx_fld, ↓hx_isA, ↓hx_nt, ↓hx_and, ↓hx_ite, ↓hx_lst, ↓hx_tup, ↓hxs_nil, ↓hxs_cons, ↓ra_none, ↓ra_some, ↓x_calldB, ↓x_lw, ↓x_dct0, ↓x_v, ↓x_i, ↓x_b, ↓x_n, ↓x_st, ↓x_g, ↓x_tup, ↓x_lst, ↓x_bin, ↓x_neg, ↓x_nt, ↓x_cmp, ↓x_chain, ↓x_isN, ↓x_notN, ↓x_and, ↓x_or, ↓x_ite, ↓x_ix, ↓x_cut, ↓x_rev, ↓x_stp, ↓x_callB, ↓x_callkB, ↓x_bi, ↓x_comp, ↓x_pop, ↓x_popA, ↓x_jg, ↓x_jn, ↓x_jp, ↓x_scut, ↓x_slen, ↓srcK, ↓srcL, ↓t_yes, ↓t_and', ↓t_or', ↓t_nt', ↓t_ex, ↓e_nil, ↓e_cons, ↓a_nil', ↓a_cons', ↓rs_nil, ↓rs_cons, ↓frzS_v, ↓frzS_n, ↓asgs_nil, ↓asgs_cons, ↓rd_z, ↓rd_s, ↓set_z, ↓set_s, ↓at_mk, ↓isJar_j, ↓der_v, ↓der_n, ↓der_sl, ↓frz_v, ↓frz_n, ↓frz_sl, ↓asg_v, ↓asg_n, ↓asg_sl, ↓opW, ↓cmpW, ↓eqw_int, ↓eqw_str, ↓eqw_tup, ↓eqw_lst, ↓ordW, ↓truW, ↓noOw, ↓ixW, ↓biW, ↓tgW, ↓tgsW, ↓opwW, ↓itW, ↓wipe_nil, ↓wipe_cons, ↓unwipe, ↓isOw, true_and, Bool.and_true, Bool.not_true, Bool.not_false, Bool.false_eq_true, ↓reduceIte, ↓blk_ap, s6_0, s6_1, s6_2, s6_3, ↓inW]
        refine ⟨mulS (by omega), mulS (by omega), rfl, rfl, ?_⟩
        have ed : detF [.int f.a, .int f.b, .int f.c, .int f.d, .int f.p, .int f.q] = if inD (.int (f.a * f.d - f.b * f.c)) [.int 1, .int (-1)] = true then .none else .str "det" := rfl
        have h : K (detF [.int f.a, .int f.b, .int f.c, .int f.d, .int f.p, .int f.q]) g := h
        rw [ed] at h
        split
        · rename_i z; rw [if_pos z] at h; exact h
        · rename_i z; rw [if_neg z] at h; exact h
    · rw [if_pos (by rw [decide_eq_false (show ¬(ds.length : Int) = 6 by omega)]; rfl)]
      rw [if_neg l6] at h
      exact h
  | _ => exact h
end G01

-- BLK
set_option linter.all false
set_option maxRecDepth 100000
set_option exponentiation.threshold 200000
namespace G01
open PySem PySem.Spec PyProof.Rows L2 G
abbrev Item (d : D) : Prop := G.Val 1 200 d
theorem it_int {x : Int} (h : x.natAbs < 10 ^ 60) : Item (.int x) := (i_val (k := 200) h (by decide)).mono (by decide) (Nat.le_refl _)
abbrev VV (d : D) : Prop := Shn 100000 d
theorem row_val {ds : List D} (h : ∀ d ∈ ds, Item d) (hl : ds.length ≤ 20) : G.Val 2 100000 (.tuple ds) ∧ G.Val 2 100000 (.list ds) :=
  ⟨(val_tup (c := 20) h hl).mono (Nat.le_refl _) (by decide), (val_lst (c := 20) h hl).mono (Nat.le_refl _) (by decide)⟩
theorem vv2 {d : D} (h : G.Val 2 100000 d) : VV d := .inl (h.mono (by decide) (Nat.le_refl _))
theorem put_val {ds : List D} {x : D} {k : Nat} (h : ∀ d ∈ ds, Item d) (hx : Item x) : ∀ d ∈ ds.take k ++ [x] ++ ds.drop (k + 1), Item d := fun d hd => by
  rcases List.mem_append.mp hd with hd | hd
  · rcases List.mem_append.mp hd with hd | hd
    · exact h d (List.mem_of_mem_take hd)
    · rw [List.mem_singleton] at hd; subst hd; exact hx
  · exact h d (List.mem_of_mem_drop hd)
theorem put_len {ds : List D} {x : D} {k : Nat} (hk : k < ds.length) : (ds.take k ++ [x] ++ ds.drop (k + 1)).length = ds.length := by
  rw [List.length_append, List.length_append, List.length_take, List.length_drop]
  show min _ _ + 1 + _ = _
  omega
theorem p_values {n : Nat} {g : Gh} {f : Fr} {K : D → Gh → Prop} {X : Exn → Gh → Prop} (hf : NF f) (hg : GOK g) (h : ∀ ds g', (∀ d ∈ ds, VV d) → GOK g' → K (.list ds) g') : callW T (n + 3) 3 [JAR, fD f] g K X := by
  refine call_df (np := 2) (ns := 7) (b := d3.b) rfl rfl ?_
  generalize hfs : ([.int f.a, .int f.b, .int f.c, .int f.d, .int f.p, .int f.q] : List D) = fs
  have ef : fD f = .tuple fs := by rw [← hfs]; rfl
  have fl : fs.length = 6 := by rw [← hfs]; rfl
  have f0 : atD fs 0 = some (.int f.a) := by rw [← hfs]; rfl
  have hfa := hf.s.1
  have fit : ∀ d ∈ fs, Item d := fun d hd => by
    obtain ⟨⟨h1, h2, h3, h4⟩, h5, h6, _⟩ := hf
    rw [← hfs] at hd
    simp only [List.mem_cons, List.not_mem_nil, or_false] at hd
    rcases hd with rfl | rfl | rfl | rfl | rfl | rfl <;> exact it_int (by omega)
  rw [ef]
  have e0 : startE 7 [JAR, .tuple fs] g = ⟨[.fz JAR, .fz (.tuple fs), .un, .un, .un, .un, .un], g⟩ := rfl
  rw [e0]
  simp -implicitDefEqProofs only [↓s_cs, ↓nx_ap, ↓s_nil, ↓s_set, ↓s_par, ↓s_unp, ↓s_ret, ↓s_retN, ↓s_drop, ↓s_if, ↓s_whl, ↓s_for, ↓s_app, ↓s_ext, ↓s_put, ↓s_ja, ↓s_ji, ↓s_js, ↓s_jl, ↓s_rais, ↓s_pass, ↓s_brk, ↓s_cont, ↓s_tri, ↓hd_nil, ↓hd_cons, ↓un_s, ↓un_n, ↓hu_ret, ↓hu_ifr, ↓hx_b, ↓hx_s, ↓hx_i, ↓hx_n, ↓hx_fld, ↓hx_isA, ↓hx_nt, ↓hx_and, ↓hx_ite, ↓hx_lst, ↓hx_tup, ↓hxs_nil, ↓hxs_cons, ↓ra_none, ↓ra_some, ↓x_calldB, ↓x_lw, ↓x_dct0, ↓x_v, ↓x_i, ↓x_b, ↓x_n, ↓x_st, ↓x_g, ↓x_tup, ↓x_lst, ↓x_bin, ↓x_neg, ↓x_nt, ↓x_cmp, ↓x_chain, ↓x_isN, ↓x_notN, ↓x_and, ↓x_or, ↓x_ite, ↓x_ix, ↓x_cut, ↓x_rev, ↓x_stp, ↓x_callB, ↓x_callkB, ↓x_bi, ↓x_comp, ↓x_pop, ↓x_popA, ↓x_jg, ↓x_jn, ↓x_jp, ↓x_scut, ↓x_slen, ↓srcK, ↓srcL, ↓t_yes, ↓t_and', ↓t_or', ↓t_nt', ↓t_ex, ↓e_nil, ↓e_cons, ↓a_nil', ↓a_cons', ↓rs_nil, ↓rs_cons, ↓frzS_v, ↓frzS_n, ↓asgs_nil, ↓asgs_cons, ↓rd_z, ↓rd_s, ↓set_z, ↓set_s, ↓at_mk, ↓isJar_j, ↓der_v, ↓der_n, ↓der_sl, ↓frz_v, ↓frz_n, ↓frz_sl, ↓asg_v, ↓asg_n, ↓asg_sl, ↓opW, ↓cmpW, ↓eqw_int, ↓eqw_str, ↓eqw_tup, ↓eqw_lst, ↓ordW, ↓truW, ↓noOw, ↓ixW, ↓biW, ↓tgW, ↓tgsW, ↓opwW, ↓itW, ↓wipe_nil, ↓wipe_cons, ↓unwipe, ↓isOw, true_and, Bool.and_true, Bool.not_true, Bool.not_false, Bool.false_eq_true, ↓reduceIte, ↓blk_ap, ↓d3, f0]
  refine ⟨⟨by decide, by decide, by decide⟩, ?_⟩
  have ep : (10 : Int) ^ Int.toNat 59 = 10 ^ 59 := rfl
  rw [ep]
  refine p_draw (n := n + 1) hg (by decide) (by decide) fun pl g1 p0 p1 hg1 => ?_
  try simp -implicitDefEqProofs only [↓s_cs, ↓nx_ap, ↓s_nil, ↓s_set, ↓s_par, ↓s_unp, ↓s_ret, ↓s_retN, ↓s_drop, ↓s_if, ↓s_whl, ↓s_for, ↓s_app, ↓s_ext, ↓s_put, ↓s_ja, ↓s_ji, ↓s_js, ↓s_jl, ↓s_rais, ↓s_pass, ↓s_brk, ↓s_cont, ↓s_tri, ↓hd_nil, ↓hd_cons, ↓un_s, ↓un_n, ↓hu_ret, ↓hu_ifr, ↓hx_b, ↓hx_s, ↓hx_i, ↓hx_n, ↓hx_fld, ↓hx_isA, ↓hx_nt, ↓hx_and, ↓hx_ite, ↓hx_lst, ↓hx_tup, ↓hxs_nil, ↓hxs_cons, ↓ra_none, ↓ra_some, ↓x_calldB, ↓x_lw, ↓x_dct0, ↓x_v, ↓x_i, ↓x_b, ↓x_n, ↓x_st, ↓x_g, ↓x_tup, ↓x_lst, ↓x_bin, ↓x_neg, ↓x_nt, ↓x_cmp, ↓x_chain, ↓x_isN, ↓x_notN, ↓x_and, ↓x_or, ↓x_ite, ↓x_ix, ↓x_cut, ↓x_rev, ↓x_stp, ↓x_callB, ↓x_callkB, ↓x_bi, ↓x_comp, ↓x_pop, ↓x_popA, ↓x_jg, ↓x_jn, ↓x_jp, ↓x_scut, ↓x_slen, ↓srcK, ↓srcL, ↓t_yes, ↓t_and', ↓t_or', ↓t_nt', ↓t_ex, ↓e_nil, ↓e_cons, ↓a_nil', ↓a_cons', ↓rs_nil, ↓rs_cons, ↓frzS_v, ↓frzS_n, ↓asgs_nil, ↓asgs_cons, ↓rd_z, ↓rd_s, ↓set_z, ↓set_s, ↓at_mk, ↓isJar_j, ↓der_v, ↓der_n, ↓der_sl, ↓frz_v, ↓frz_n, ↓frz_sl, ↓asg_v, ↓asg_n, ↓asg_sl, ↓opW, ↓cmpW, ↓eqw_int, ↓eqw_str, ↓eqw_tup, ↓eqw_lst, ↓ordW, ↓truW, ↓noOw, ↓ixW, ↓biW, ↓tgW, ↓tgsW, ↓opwW, ↓itW, ↓wipe_nil, ↓wipe_cons, ↓unwipe, ↓isOw, true_and, Bool.and_true, Bool.not_true, Bool.not_false, Bool.false_eq_true, ↓reduceIte, ↓blk_ap]
  refine p_draw (n := n + 1) hg1 (by decide) (by decide) fun ot g2 o0 o1 hg2 => ?_
  have iit : ∀ d ∈ [PyData.bool true, .bool false, .str "1", .none, .tuple [.int 1], .int 1000000, .int 1000001, .int (-1000001), .int (-1000000), .int (10 ^ 59), .int (f.a + 1)], Item d := fun d hd => by
    simp only [List.mem_cons, List.not_mem_nil, or_false] at hd
    rcases hd with rfl | rfl | rfl | rfl | rfl | rfl | rfl | rfl | rfl | rfl | rfl
    · exact val_bool.mono (by decide) (by decide)
    · exact val_bool.mono (by decide) (by decide)
    · exact (s_val (m := 30) (by decide +kernel)).mono (by decide) (by decide)
    · exact val_non.mono (by decide) (by decide)
    · exact (val_tup (dp := 0) (m := 61) (c := 1) (fun d hd => by rw [List.mem_singleton] at hd; subst hd; exact i_val (by decide) (Nat.le_refl _)) (Nat.le_refl _)).mono (Nat.le_refl _) (by decide)
    · exact it_int (by decide)
    · exact it_int (by decide)
    · exact it_int (by decide)
    · exact it_int (by decide)
    · exact it_int (by decide)
    · exact it_int (by omega)
  have il : ([PyData.bool true, .bool false, .str "1", .none, .tuple [.int 1], .int 1000000, .int 1000001, .int (-1000001), .int (-1000000), .int (10 ^ 59), .int (f.a + 1)] : List D).length = 11 := rfl
  generalize [PyData.bool true, .bool false, .str "1", .none, .tuple [.int 1], .int 1000000, .int 1000001, .int (-1000001), .int (-1000000), .int (10 ^ 59), .int (f.a + 1)] = its at iit il ⊢
  have pv : ∀ {ds : List D} {x : D} {k : Nat}, (∀ d ∈ ds, Item d) → ds.length = 6 → Item x → k < 6 → VV (.tuple (ds.take k ++ [x] ++ ds.drop (k + 1))) := fun hds hl hx hk => vv2 (row_val (put_val hds hx) (by rw [put_len (by omega)]; omega)).1
  try simp -implicitDefEqProofs only [↓s_cs, ↓nx_ap, ↓s_nil, ↓s_set, ↓s_par, ↓s_unp, ↓s_ret, ↓s_retN, ↓s_drop, ↓s_if, ↓s_whl, ↓s_for, ↓s_app, ↓s_ext, ↓s_put, ↓s_ja, ↓s_ji, ↓s_js, ↓s_jl, ↓s_rais, ↓s_pass, ↓s_brk, ↓s_cont, ↓s_tri, ↓hd_nil, ↓hd_cons, ↓un_s, ↓un_n, ↓hu_ret, ↓hu_ifr, ↓hx_b, ↓hx_s, ↓hx_i, ↓hx_n, ↓hx_fld, ↓hx_isA, ↓hx_nt, ↓hx_and, ↓hx_ite, ↓hx_lst, ↓hx_tup, ↓hxs_nil, ↓hxs_cons, ↓ra_none, ↓ra_some, ↓x_calldB, ↓x_lw, ↓x_dct0, ↓x_v, ↓x_i, ↓x_b, ↓x_n, ↓x_st, ↓x_g, ↓x_tup, ↓x_lst, ↓x_bin, ↓x_neg, ↓x_nt, ↓x_cmp, ↓x_chain, ↓x_isN, ↓x_notN, ↓x_and, ↓x_or, ↓x_ite, ↓x_ix, ↓x_cut, ↓x_rev, ↓x_stp, ↓x_callB, ↓x_callkB, ↓x_bi, ↓x_comp, ↓x_pop, ↓x_popA, ↓x_jg, ↓x_jn, ↓x_jp, ↓x_scut, ↓x_slen, ↓srcK, ↓srcL, ↓t_yes, ↓t_and', ↓t_or', ↓t_nt', ↓t_ex, ↓e_nil, ↓e_cons, ↓a_nil', ↓a_cons', ↓rs_nil, ↓rs_cons, ↓frzS_v, ↓frzS_n, ↓asgs_nil, ↓asgs_cons, ↓rd_z, ↓rd_s, ↓set_z, ↓set_s, ↓at_mk, ↓isJar_j, ↓der_v, ↓der_n, ↓der_sl, ↓frz_v, ↓frz_n, ↓frz_sl, ↓asg_v, ↓asg_n, ↓asg_sl, ↓opW, ↓cmpW, ↓eqw_int, ↓eqw_str, ↓eqw_tup, ↓eqw_lst, ↓ordW, ↓truW, ↓noOw, ↓ixW, ↓biW, ↓tgW, ↓tgsW, ↓opwW, ↓itW, ↓wipe_nil, ↓wipe_cons, ↓unwipe, ↓isOw, true_and, Bool.and_true, Bool.not_true, Bool.not_false, Bool.false_eq_true, ↓reduceIte, ↓blk_ap]
  refine turns_inv (fun i acc r => r = ⟨[.fz JAR, .fz (.tuple fs), .fz (.list its), .fz (.int pl), .fz (.int ot), .un, .un], g2⟩ ∧ acc.length = i ∧ ∀ d ∈ acc, VV d) ⟨rfl, rfl, fun d hd => by cases hd⟩ ?_ ?_
  · rintro i d acc r hdd ⟨rfl, la, va⟩ k2 hk2
    simp -implicitDefEqProofs only [↓s_cs, ↓nx_ap, ↓s_nil, ↓s_set, ↓s_par, ↓s_unp, ↓s_ret, ↓s_retN, ↓s_drop, ↓s_if, ↓s_whl, ↓s_for, ↓s_app, ↓s_ext, ↓s_put, ↓s_ja, ↓s_ji, ↓s_js, ↓s_jl, ↓s_rais, ↓s_pass, ↓s_brk, ↓s_cont, ↓s_tri, ↓hd_nil, ↓hd_cons, ↓un_s, ↓un_n, ↓hu_ret, ↓hu_ifr, ↓hx_b, ↓hx_s, ↓hx_i, ↓hx_n, ↓hx_fld, ↓hx_isA, ↓hx_nt, ↓hx_and, ↓hx_ite, ↓hx_lst, ↓hx_tup, ↓hxs_nil, ↓hxs_cons, ↓ra_none, ↓ra_some, ↓x_calldB, ↓x_lw, ↓x_dct0, ↓x_v, ↓x_i, ↓x_b, ↓x_n, ↓x_st, ↓x_g, ↓x_tup, ↓x_lst, ↓x_bin, ↓x_neg, ↓x_nt, ↓x_cmp, ↓x_chain, ↓x_isN, ↓x_notN, ↓x_and, ↓x_or, ↓x_ite, ↓x_ix, ↓x_cut, ↓x_rev, ↓x_stp, ↓x_callB, ↓x_callkB, ↓x_bi, ↓x_comp, ↓x_pop, ↓x_popA, ↓x_jg, ↓x_jn, ↓x_jp, ↓x_scut, ↓x_slen, ↓srcK, ↓srcL, ↓t_yes, ↓t_and', ↓t_or', ↓t_nt', ↓t_ex, ↓e_nil, ↓e_cons, ↓a_nil', ↓a_cons', ↓rs_nil, ↓rs_cons, ↓frzS_v, ↓frzS_n, ↓asgs_nil, ↓asgs_cons, ↓rd_z, ↓rd_s, ↓set_z, ↓set_s, ↓at_mk, ↓isJar_j, ↓der_v, ↓der_n, ↓der_sl, ↓frz_v, ↓frz_n, ↓frz_sl, ↓asg_v, ↓asg_n, ↓asg_sl, ↓opW, ↓cmpW, ↓eqw_int, ↓eqw_str, ↓eqw_tup, ↓eqw_lst, ↓ordW, ↓truW, ↓noOw, ↓ixW, ↓biW, ↓tgW, ↓tgsW, ↓opwW, ↓itW, ↓wipe_nil, ↓wipe_cons, ↓unwipe, ↓isOw, true_and, Bool.and_true, Bool.not_true, Bool.not_false, Bool.false_eq_true, ↓reduceIte, ↓blk_ap, ↓compF]
    refine p_put (n := n + 1) p0 (by omega) ?_
    try simp -implicitDefEqProofs only [↓s_cs, ↓nx_ap, ↓s_nil, ↓s_set, ↓s_par, ↓s_unp, ↓s_ret, ↓s_retN, ↓s_drop, ↓s_if, ↓s_whl, ↓s_for, ↓s_app, ↓s_ext, ↓s_put, ↓s_ja, ↓s_ji, ↓s_js, ↓s_jl, ↓s_rais, ↓s_pass, ↓s_brk, ↓s_cont, ↓s_tri, ↓hd_nil, ↓hd_cons, ↓un_s, ↓un_n, ↓hu_ret, ↓hu_ifr, ↓hx_b, ↓hx_s, ↓hx_i, ↓hx_n, ↓hx_fld, ↓hx_isA, ↓hx_nt, ↓hx_and, ↓hx_ite, ↓hx_lst, ↓hx_tup, ↓hxs_nil, ↓hxs_cons, ↓ra_none, ↓ra_some, ↓x_calldB, ↓x_lw, ↓x_dct0, ↓x_v, ↓x_i, ↓x_b, ↓x_n, ↓x_st, ↓x_g, ↓x_tup, ↓x_lst, ↓x_bin, ↓x_neg, ↓x_nt, ↓x_cmp, ↓x_chain, ↓x_isN, ↓x_notN, ↓x_and, ↓x_or, ↓x_ite, ↓x_ix, ↓x_cut, ↓x_rev, ↓x_stp, ↓x_callB, ↓x_callkB, ↓x_bi, ↓x_comp, ↓x_pop, ↓x_popA, ↓x_jg, ↓x_jn, ↓x_jp, ↓x_scut, ↓x_slen, ↓srcK, ↓srcL, ↓t_yes, ↓t_and', ↓t_or', ↓t_nt', ↓t_ex, ↓e_nil, ↓e_cons, ↓a_nil', ↓a_cons', ↓rs_nil, ↓rs_cons, ↓frzS_v, ↓frzS_n, ↓asgs_nil, ↓asgs_cons, ↓rd_z, ↓rd_s, ↓set_z, ↓set_s, ↓at_mk, ↓isJar_j, ↓der_v, ↓der_n, ↓der_sl, ↓frz_v, ↓frz_n, ↓frz_sl, ↓asg_v, ↓asg_n, ↓asg_sl, ↓opW, ↓cmpW, ↓eqw_int, ↓eqw_str, ↓eqw_tup, ↓eqw_lst, ↓ordW, ↓truW, ↓noOw, ↓ixW, ↓biW, ↓tgW, ↓tgsW, ↓opwW, ↓itW, ↓wipe_nil, ↓wipe_cons, ↓unwipe, ↓isOw, true_and, Bool.and_true, Bool.not_true, Bool.not_false, Bool.false_eq_true, ↓reduceIte, ↓blk_ap]
    refine hk2 _ _ ⟨rfl, by rw [List.length_append, la]; rfl, fun x hx => ?_⟩
    rcases List.mem_append.mp hx with hx | hx
    · exact va x hx
    · simp only [Option.toList, List.mem_singleton] at hx
      subst hx
      exact pv fit fl (iit d (List.mem_of_getElem? hdd)) (by omega)
  · rintro acc r ⟨rfl, la, va⟩
    rw [il] at la
    have c5 : cutD fs none (some 5) = fs.take 5 := cut_take (by decide)
    try simp -implicitDefEqProofs only [↓s_cs, ↓nx_ap, ↓s_nil, ↓s_set, ↓s_par, ↓s_unp, ↓s_ret, ↓s_retN, ↓s_drop, ↓s_if, ↓s_whl, ↓s_for, ↓s_app, ↓s_ext, ↓s_put, ↓s_ja, ↓s_ji, ↓s_js, ↓s_jl, ↓s_rais, ↓s_pass, ↓s_brk, ↓s_cont, ↓s_tri, ↓hd_nil, ↓hd_cons, ↓un_s, ↓un_n, ↓hu_ret, ↓hu_ifr, ↓hx_b, ↓hx_s, ↓hx_i, ↓hx_n, ↓hx_fld, ↓hx_isA, ↓hx_nt, ↓hx_and, ↓hx_ite, ↓hx_lst, ↓hx_tup, ↓hxs_nil, ↓hxs_cons, ↓ra_none, ↓ra_some, ↓x_calldB, ↓x_lw, ↓x_dct0, ↓x_v, ↓x_i, ↓x_b, ↓x_n, ↓x_st, ↓x_g, ↓x_tup, ↓x_lst, ↓x_bin, ↓x_neg, ↓x_nt, ↓x_cmp, ↓x_chain, ↓x_isN, ↓x_notN, ↓x_and, ↓x_or, ↓x_ite, ↓x_ix, ↓x_cut, ↓x_rev, ↓x_stp, ↓x_callB, ↓x_callkB, ↓x_bi, ↓x_comp, ↓x_pop, ↓x_popA, ↓x_jg, ↓x_jn, ↓x_jp, ↓x_scut, ↓x_slen, ↓srcK, ↓srcL, ↓t_yes, ↓t_and', ↓t_or', ↓t_nt', ↓t_ex, ↓e_nil, ↓e_cons, ↓a_nil', ↓a_cons', ↓rs_nil, ↓rs_cons, ↓frzS_v, ↓frzS_n, ↓asgs_nil, ↓asgs_cons, ↓rd_z, ↓rd_s, ↓set_z, ↓set_s, ↓at_mk, ↓isJar_j, ↓der_v, ↓der_n, ↓der_sl, ↓frz_v, ↓frz_n, ↓frz_sl, ↓asg_v, ↓asg_n, ↓asg_sl, ↓opW, ↓cmpW, ↓eqw_int, ↓eqw_str, ↓eqw_tup, ↓eqw_lst, ↓ordW, ↓truW, ↓noOw, ↓ixW, ↓biW, ↓tgW, ↓tgsW, ↓opwW, ↓itW, ↓wipe_nil, ↓wipe_cons, ↓unwipe, ↓isOw, true_and, Bool.and_true, Bool.not_true, Bool.not_false, Bool.false_eq_true, ↓reduceIte, ↓blk_ap, c5]
    have iz : Item (.int 0) := it_int (by decide)
    have vF : VV (.tuple fs) := vv2 (row_val fit (by omega)).1
    have vFl : VV (.list fs) := vv2 (row_val fit (by omega)).2
    have v5 : VV (.tuple (fs.take 5)) := vv2 (row_val (fun d hd => fit d (List.mem_of_mem_take hd)) (by rw [List.length_take]; omega)).1
    have v7 : VV (.tuple (fs ++ [.int 0])) := vv2 (row_val (fun d hd => by
      rcases List.mem_append.mp hd with hd | hd
      · exact fit d hd
      · rw [List.mem_singleton] at hd; subst hd; exact iz) (by rw [List.length_append, fl]; decide)).1
    have v0 : VV (.tuple []) := vv2 (row_val (fun d hd => by cases hd) (by decide)).1
    have v1 : VV (.tuple [.tuple fs]) := .inl ((val_tup (dp := 2) (m := 3000) (c := 1) (fun d hd => by
      rw [List.mem_singleton] at hd; subst hd
      exact (val_tup (c := 6) fit (by omega)).mono (Nat.le_refl _) (by decide)) (Nat.le_refl _)).mono (by decide) (by decide))
    have lit : ∀ {ds : List D}, ds.length ≤ 20 → (∀ d ∈ ds, Item d) → VV (.tuple ds) := fun hl hh => vv2 (row_val hh hl).1
    have ib : ∀ b, Item (.bool b) := fun b => val_bool.mono (by decide) (by decide)
    refine ⟨by rw [fl]; show 6 + 1 ≤ SZ; decide, by rw [la]; show 11 + 10 ≤ SZ; decide, by rw [List.length_append, la]; show 11 + 10 + 4 ≤ SZ; decide, by rw [List.length_append, List.length_append, la]; show 11 + 10 + 4 + 3 ≤ SZ; decide, by rw [List.length_append, List.length_append, List.length_append, la]; show 11 + 10 + 4 + 3 + 2 ≤ SZ; decide, ?_⟩
    refine p_pick (n := n) (.inl rfl) hg2 (by rw [il]; decide) (by rw [il]; decide) fun x g3 hx hg3 => ?_
    try simp -implicitDefEqProofs only [↓s_cs, ↓nx_ap, ↓s_nil, ↓s_set, ↓s_par, ↓s_unp, ↓s_ret, ↓s_retN, ↓s_drop, ↓s_if, ↓s_whl, ↓s_for, ↓s_app, ↓s_ext, ↓s_put, ↓s_ja, ↓s_ji, ↓s_js, ↓s_jl, ↓s_rais, ↓s_pass, ↓s_brk, ↓s_cont, ↓s_tri, ↓hd_nil, ↓hd_cons, ↓un_s, ↓un_n, ↓hu_ret, ↓hu_ifr, ↓hx_b, ↓hx_s, ↓hx_i, ↓hx_n, ↓hx_fld, ↓hx_isA, ↓hx_nt, ↓hx_and, ↓hx_ite, ↓hx_lst, ↓hx_tup, ↓hxs_nil, ↓hxs_cons, ↓ra_none, ↓ra_some, ↓x_calldB, ↓x_lw, ↓x_dct0, ↓x_v, ↓x_i, ↓x_b, ↓x_n, ↓x_st, ↓x_g, ↓x_tup, ↓x_lst, ↓x_bin, ↓x_neg, ↓x_nt, ↓x_cmp, ↓x_chain, ↓x_isN, ↓x_notN, ↓x_and, ↓x_or, ↓x_ite, ↓x_ix, ↓x_cut, ↓x_rev, ↓x_stp, ↓x_callB, ↓x_callkB, ↓x_bi, ↓x_comp, ↓x_pop, ↓x_popA, ↓x_jg, ↓x_jn, ↓x_jp, ↓x_scut, ↓x_slen, ↓srcK, ↓srcL, ↓t_yes, ↓t_and', ↓t_or', ↓t_nt', ↓t_ex, ↓e_nil, ↓e_cons, ↓a_nil', ↓a_cons', ↓rs_nil, ↓rs_cons, ↓frzS_v, ↓frzS_n, ↓asgs_nil, ↓asgs_cons, ↓rd_z, ↓rd_s, ↓set_z, ↓set_s, ↓at_mk, ↓isJar_j, ↓der_v, ↓der_n, ↓der_sl, ↓frz_v, ↓frz_n, ↓frz_sl, ↓asg_v, ↓asg_n, ↓asg_sl, ↓opW, ↓cmpW, ↓eqw_int, ↓eqw_str, ↓eqw_tup, ↓eqw_lst, ↓ordW, ↓truW, ↓noOw, ↓ixW, ↓biW, ↓tgW, ↓tgsW, ↓opwW, ↓itW, ↓wipe_nil, ↓wipe_cons, ↓unwipe, ↓isOw, true_and, Bool.and_true, Bool.not_true, Bool.not_false, Bool.false_eq_true, ↓reduceIte, ↓blk_ap]
    refine p_put (n := n + 1) p0 (by omega) ?_
    try simp -implicitDefEqProofs only [↓s_cs, ↓nx_ap, ↓s_nil, ↓s_set, ↓s_par, ↓s_unp, ↓s_ret, ↓s_retN, ↓s_drop, ↓s_if, ↓s_whl, ↓s_for, ↓s_app, ↓s_ext, ↓s_put, ↓s_ja, ↓s_ji, ↓s_js, ↓s_jl, ↓s_rais, ↓s_pass, ↓s_brk, ↓s_cont, ↓s_tri, ↓hd_nil, ↓hd_cons, ↓un_s, ↓un_n, ↓hu_ret, ↓hu_ifr, ↓hx_b, ↓hx_s, ↓hx_i, ↓hx_n, ↓hx_fld, ↓hx_isA, ↓hx_nt, ↓hx_and, ↓hx_ite, ↓hx_lst, ↓hx_tup, ↓hxs_nil, ↓hxs_cons, ↓ra_none, ↓ra_some, ↓x_calldB, ↓x_lw, ↓x_dct0, ↓x_v, ↓x_i, ↓x_b, ↓x_n, ↓x_st, ↓x_g, ↓x_tup, ↓x_lst, ↓x_bin, ↓x_neg, ↓x_nt, ↓x_cmp, ↓x_chain, ↓x_isN, ↓x_notN, ↓x_and, ↓x_or, ↓x_ite, ↓x_ix, ↓x_cut, ↓x_rev, ↓x_stp, ↓x_callB, ↓x_callkB, ↓x_bi, ↓x_comp, ↓x_pop, ↓x_popA, ↓x_jg, ↓x_jn, ↓x_jp, ↓x_scut, ↓x_slen, ↓srcK, ↓srcL, ↓t_yes, ↓t_and', ↓t_or', ↓t_nt', ↓t_ex, ↓e_nil, ↓e_cons, ↓a_nil', ↓a_cons', ↓rs_nil, ↓rs_cons, ↓frzS_v, ↓frzS_n, ↓asgs_nil, ↓asgs_cons, ↓rd_z, ↓rd_s, ↓set_z, ↓set_s, ↓at_mk, ↓isJar_j, ↓der_v, ↓der_n, ↓der_sl, ↓frz_v, ↓frz_n, ↓frz_sl, ↓asg_v, ↓asg_n, ↓asg_sl, ↓opW, ↓cmpW, ↓eqw_int, ↓eqw_str, ↓eqw_tup, ↓eqw_lst, ↓ordW, ↓truW, ↓noOw, ↓ixW, ↓biW, ↓tgW, ↓tgsW, ↓opwW, ↓itW, ↓wipe_nil, ↓wipe_cons, ↓unwipe, ↓isOw, true_and, Bool.and_true, Bool.not_true, Bool.not_false, Bool.false_eq_true, ↓reduceIte, ↓blk_ap]
    refine p_pick (n := n) (.inl rfl) hg3 (by rw [il]; decide) (by rw [il]; decide) fun y g4 hy hg4 => ?_
    try simp -implicitDefEqProofs only [↓s_cs, ↓nx_ap, ↓s_nil, ↓s_set, ↓s_par, ↓s_unp, ↓s_ret, ↓s_retN, ↓s_drop, ↓s_if, ↓s_whl, ↓s_for, ↓s_app, ↓s_ext, ↓s_put, ↓s_ja, ↓s_ji, ↓s_js, ↓s_jl, ↓s_rais, ↓s_pass, ↓s_brk, ↓s_cont, ↓s_tri, ↓hd_nil, ↓hd_cons, ↓un_s, ↓un_n, ↓hu_ret, ↓hu_ifr, ↓hx_b, ↓hx_s, ↓hx_i, ↓hx_n, ↓hx_fld, ↓hx_isA, ↓hx_nt, ↓hx_and, ↓hx_ite, ↓hx_lst, ↓hx_tup, ↓hxs_nil, ↓hxs_cons, ↓ra_none, ↓ra_some, ↓x_calldB, ↓x_lw, ↓x_dct0, ↓x_v, ↓x_i, ↓x_b, ↓x_n, ↓x_st, ↓x_g, ↓x_tup, ↓x_lst, ↓x_bin, ↓x_neg, ↓x_nt, ↓x_cmp, ↓x_chain, ↓x_isN, ↓x_notN, ↓x_and, ↓x_or, ↓x_ite, ↓x_ix, ↓x_cut, ↓x_rev, ↓x_stp, ↓x_callB, ↓x_callkB, ↓x_bi, ↓x_comp, ↓x_pop, ↓x_popA, ↓x_jg, ↓x_jn, ↓x_jp, ↓x_scut, ↓x_slen, ↓srcK, ↓srcL, ↓t_yes, ↓t_and', ↓t_or', ↓t_nt', ↓t_ex, ↓e_nil, ↓e_cons, ↓a_nil', ↓a_cons', ↓rs_nil, ↓rs_cons, ↓frzS_v, ↓frzS_n, ↓asgs_nil, ↓asgs_cons, ↓rd_z, ↓rd_s, ↓set_z, ↓set_s, ↓at_mk, ↓isJar_j, ↓der_v, ↓der_n, ↓der_sl, ↓frz_v, ↓frz_n, ↓frz_sl, ↓asg_v, ↓asg_n, ↓asg_sl, ↓opW, ↓cmpW, ↓eqw_int, ↓eqw_str, ↓eqw_tup, ↓eqw_lst, ↓ordW, ↓truW, ↓noOw, ↓ixW, ↓biW, ↓tgW, ↓tgsW, ↓opwW, ↓itW, ↓wipe_nil, ↓wipe_cons, ↓unwipe, ↓isOw, true_and, Bool.and_true, Bool.not_true, Bool.not_false, Bool.false_eq_true, ↓reduceIte, ↓blk_ap]
    refine p_put (n := n + 1) o0 (by rw [put_len (by omega)]; omega) ?_
    try simp -implicitDefEqProofs only [↓s_cs, ↓nx_ap, ↓s_nil, ↓s_set, ↓s_par, ↓s_unp, ↓s_ret, ↓s_retN, ↓s_drop, ↓s_if, ↓s_whl, ↓s_for, ↓s_app, ↓s_ext, ↓s_put, ↓s_ja, ↓s_ji, ↓s_js, ↓s_jl, ↓s_rais, ↓s_pass, ↓s_brk, ↓s_cont, ↓s_tri, ↓hd_nil, ↓hd_cons, ↓un_s, ↓un_n, ↓hu_ret, ↓hu_ifr, ↓hx_b, ↓hx_s, ↓hx_i, ↓hx_n, ↓hx_fld, ↓hx_isA, ↓hx_nt, ↓hx_and, ↓hx_ite, ↓hx_lst, ↓hx_tup, ↓hxs_nil, ↓hxs_cons, ↓ra_none, ↓ra_some, ↓x_calldB, ↓x_lw, ↓x_dct0, ↓x_v, ↓x_i, ↓x_b, ↓x_n, ↓x_st, ↓x_g, ↓x_tup, ↓x_lst, ↓x_bin, ↓x_neg, ↓x_nt, ↓x_cmp, ↓x_chain, ↓x_isN, ↓x_notN, ↓x_and, ↓x_or, ↓x_ite, ↓x_ix, ↓x_cut, ↓x_rev, ↓x_stp, ↓x_callB, ↓x_callkB, ↓x_bi, ↓x_comp, ↓x_pop, ↓x_popA, ↓x_jg, ↓x_jn, ↓x_jp, ↓x_scut, ↓x_slen, ↓srcK, ↓srcL, ↓t_yes, ↓t_and', ↓t_or', ↓t_nt', ↓t_ex, ↓e_nil, ↓e_cons, ↓a_nil', ↓a_cons', ↓rs_nil, ↓rs_cons, ↓frzS_v, ↓frzS_n, ↓asgs_nil, ↓asgs_cons, ↓rd_z, ↓rd_s, ↓set_z, ↓set_s, ↓at_mk, ↓isJar_j, ↓der_v, ↓der_n, ↓der_sl, ↓frz_v, ↓frz_n, ↓frz_sl, ↓asg_v, ↓asg_n, ↓asg_sl, ↓opW, ↓cmpW, ↓eqw_int, ↓eqw_str, ↓eqw_tup, ↓eqw_lst, ↓ordW, ↓truW, ↓noOw, ↓ixW, ↓biW, ↓tgW, ↓tgsW, ↓opwW, ↓itW, ↓wipe_nil, ↓wipe_cons, ↓unwipe, ↓isOw, true_and, Bool.and_true, Bool.not_true, Bool.not_false, Bool.false_eq_true, ↓reduceIte, ↓blk_ap]
    refine ⟨by rw [List.length_append, List.length_append, List.length_append, List.length_append, la]; show 11 + 10 + 4 + 3 + 2 < SZ; decide, by rw [List.length_append, List.length_append, List.length_append, List.length_append, List.length_append, la]; show 11 + 10 + 4 + 3 + 2 + 1 < SZ; decide, h _ g4 ?_ hg4⟩
    have ap : ∀ {xs ys : List D}, (∀ d ∈ xs, VV d) → (∀ d ∈ ys, VV d) → ∀ d ∈ xs ++ ys, VV d := fun h1 h2 d hd => (List.mem_append.mp hd).elim (h1 d) (h2 d)
    have ix := iit x hx
    have iy := iit y hy
    have i6 : ∀ ns : List Int, ns.length ≤ 20 → (∀ x ∈ ns, x.natAbs < 10 ^ 60) → VV (.tuple (ns.map .int)) := fun ns hl hn => lit (by rw [List.length_map]; exact hl) fun d hd => by
      obtain ⟨x, hx, rfl⟩ := List.mem_map.mp hd
      exact it_int (hn x hx)
    have w2 : VV (.tuple [.int 2, .bool true, .int 0, .int 1, .int 0, .int 0]) := lit (by decide) fun d hd => by
      simp only [List.mem_cons, List.not_mem_nil, or_false] at hd
      rcases hd with rfl | rfl | rfl | rfl | rfl | rfl <;> first | exact ib _ | exact it_int (by decide)
    have w3 : VV (.tuple [.int 3, .int 1, .int 1, .int 0, .int 0, .str "0"]) := lit (by decide) fun d hd => by
      simp only [List.mem_cons, List.not_mem_nil, or_false] at hd
      rcases hd with rfl | rfl | rfl | rfl | rfl | rfl <;> first | exact it_int (by decide) | exact (s_val (m := 30) (by decide +kernel)).mono (by decide) (by decide)
    refine ap (ap (ap (ap (ap (ap va ?_) ?_) ?_) ?_) ?_) ?_
    · intro d hd
      simp only [List.mem_cons, List.not_mem_nil, or_false] at hd
      rcases hd with rfl | rfl | rfl | rfl | rfl | rfl | rfl | rfl | rfl | rfl
      · exact vF
      · exact vFl
      · exact v5
      · exact v7
      · exact v0
      · exact .inl (val_non.mono (by decide) (by decide))
      · exact .inl ((s_val (m := 30) (by decide +kernel)).mono (by decide) (by decide))
      · exact .inl (val_bool.mono (by decide) (by decide))
      · exact v1
      · exact .inr rfl
    · intro d hd
      simp only [List.mem_cons, List.not_mem_nil, or_false] at hd
      rcases hd with rfl | rfl | rfl | rfl
      · exact i6 [2, 0, 0, 1, 0, 0] (by decide) (by decide)
      · exact i6 [0, 0, 0, 0, 0, 0] (by decide) (by decide)
      · exact i6 [1, 2, 2, 2, 0, 0] (by decide) (by decide)
      · exact i6 [1, 1000000, 0, 1, 0, 0] (by decide) (by decide)
    · intro d hd
      simp only [List.mem_cons, List.not_mem_nil, or_false] at hd
      rcases hd with rfl | rfl | rfl
      · exact w2
      · exact i6 [-1, 0, 0, 1, 1000000, -1000000] (by decide) (by decide)
      · exact i6 [1, 0, 0, 1, 0, 1000001] (by decide) (by decide)
    · intro d hd
      simp only [List.mem_cons, List.not_mem_nil, or_false] at hd
      rcases hd with rfl | rfl
      · exact w3
      · exact i6 [0, 1, -1, 0, 0, 0, 0] (by decide) (by decide)
    · intro d hd
      rw [List.mem_singleton] at hd
      subst hd
      exact pv (put_val fit ix) (by rw [put_len (by omega)]; exact fl) iy (by omega)
    · intro d hd
      rw [List.mem_singleton] at hd
      subst hd
      exact i6 [999999, 1000000, -1, -1, 0, 0] (by decide) (by decide)
end G01

-- BLK
set_option linter.all false
set_option maxRecDepth 100000
set_option exponentiation.threshold 200000
namespace G01
open PySem PySem.Spec PyProof.Rows L2 G
def lvl : Nat := 12
theorem deckW {C : Calls} {S : Nat → Nat → Bool} {ns : List Int} {k : Gh → Prop} (h : ∀ g, GOK g → k g) :
    stsW C S pre0 (startE n0.length [JAR] [(.inl 0, .list (ns.map .int))]) { nx := fun r => jarW C es0 r k, rt := fun _ _ => False, bk := fun _ => False, ct := fun _ => False, ex := noX } := by
  have e0 : startE n0.length [JAR] [(.inl 0, .list (ns.map .int))] = ⟨[.fz JAR, .un, .un, .un], [(.inl 0, .list (ns.map .int))]⟩ := rfl
  rw [e0]
  have g0 : ∀ d : D, gget [(.inl 0, d)] (.inl 0) = some d := fun _ => rfl
  try simp -implicitDefEqProofs only [↓s_cs, ↓nx_ap, ↓s_nil, ↓s_set, ↓s_par, ↓s_unp, ↓s_ret, ↓s_retN, ↓s_drop, ↓s_if, ↓s_whl, ↓s_for, ↓s_app, ↓s_ext, ↓s_put, ↓s_ja, ↓s_ji, ↓s_js, ↓s_jl, ↓s_rais, ↓s_pass, ↓s_brk, ↓s_cont, ↓s_tri, ↓hd_nil, ↓hd_cons, ↓un_s, ↓un_n, ↓hu_ret, ↓hu_ifr, ↓hx_b, ↓hx_s, ↓hx_i, ↓hx_n, ↓hx_fld, ↓hx_isA, ↓hx_nt, ↓hx_and, ↓hx_ite, ↓hx_lst, ↓hx_tup, ↓hxs_nil, ↓hxs_cons, ↓ra_none, ↓ra_some, ↓x_calldB, ↓x_lw, ↓x_dct0, ↓x_v, ↓x_i, ↓x_b, ↓x_n, ↓x_st, ↓x_g, ↓x_tup, ↓x_lst, ↓x_bin, ↓x_neg, ↓x_nt, ↓x_cmp, ↓x_chain, ↓x_isN, ↓x_notN, ↓x_and, ↓x_or, ↓x_ite, ↓x_ix, ↓x_cut, ↓x_rev, ↓x_stp, ↓x_callB, ↓x_callkB, ↓x_bi, ↓x_comp, ↓x_pop, ↓x_popA, ↓x_jg, ↓x_jn, ↓x_jp, ↓x_scut, ↓x_slen, ↓srcK, ↓srcL, ↓t_yes, ↓t_and', ↓t_or', ↓t_nt', ↓t_ex, ↓e_nil, ↓e_cons, ↓a_nil', ↓a_cons', ↓rs_nil, ↓rs_cons, ↓frzS_v, ↓frzS_n, ↓asgs_nil, ↓asgs_cons, ↓rd_z, ↓rd_s, ↓set_z, ↓set_s, ↓at_mk, ↓isJar_j, ↓der_v, ↓der_n, ↓der_sl, ↓frz_v, ↓frz_n, ↓frz_sl, ↓asg_v, ↓asg_n, ↓asg_sl, ↓opW, ↓cmpW, ↓eqw_int, ↓eqw_str, ↓eqw_tup, ↓eqw_lst, ↓ordW, ↓truW, ↓noOw, ↓ixW, ↓biW, ↓tgW, ↓tgsW, ↓opwW, ↓itW, ↓wipe_nil, ↓wipe_cons, ↓unwipe, ↓isOw, true_and, Bool.and_true, Bool.not_true, Bool.not_false, Bool.false_eq_true, ↓reduceIte, ↓blk_ap, ↓pre0, g0]
  rw [cut_take (by decide), ← List.map_take]
  refine turns_pic _ (fun i => .int (if i < 0 then -i else i)) ?_ ?_
  · intro i hi kk hk
    simp -implicitDefEqProofs only [↓s_cs, ↓nx_ap, ↓s_nil, ↓s_set, ↓s_par, ↓s_unp, ↓s_ret, ↓s_retN, ↓s_drop, ↓s_if, ↓s_whl, ↓s_for, ↓s_app, ↓s_ext, ↓s_put, ↓s_ja, ↓s_ji, ↓s_js, ↓s_jl, ↓s_rais, ↓s_pass, ↓s_brk, ↓s_cont, ↓s_tri, ↓hd_nil, ↓hd_cons, ↓un_s, ↓un_n, ↓hu_ret, ↓hu_ifr, ↓hx_b, ↓hx_s, ↓hx_i, ↓hx_n, ↓hx_fld, ↓hx_isA, ↓hx_nt, ↓hx_and, ↓hx_ite, ↓hx_lst, ↓hx_tup, ↓hxs_nil, ↓hxs_cons, ↓ra_none, ↓ra_some, ↓x_calldB, ↓x_lw, ↓x_dct0, ↓x_v, ↓x_i, ↓x_b, ↓x_n, ↓x_st, ↓x_g, ↓x_tup, ↓x_lst, ↓x_bin, ↓x_neg, ↓x_nt, ↓x_cmp, ↓x_chain, ↓x_isN, ↓x_notN, ↓x_and, ↓x_or, ↓x_ite, ↓x_ix, ↓x_cut, ↓x_rev, ↓x_stp, ↓x_callB, ↓x_callkB, ↓x_bi, ↓x_comp, ↓x_pop, ↓x_popA, ↓x_jg, ↓x_jn, ↓x_jp, ↓x_scut, ↓x_slen, ↓srcK, ↓srcL, ↓t_yes, ↓t_and', ↓t_or', ↓t_nt', ↓t_ex, ↓e_nil, ↓e_cons, ↓a_nil', ↓a_cons', ↓rs_nil, ↓rs_cons, ↓frzS_v, ↓frzS_n, ↓asgs_nil, ↓asgs_cons, ↓rd_z, ↓rd_s, ↓set_z, ↓set_s, ↓at_mk, ↓isJar_j, ↓der_v, ↓der_n, ↓der_sl, ↓frz_v, ↓frz_n, ↓frz_sl, ↓asg_v, ↓asg_n, ↓asg_sl, ↓opW, ↓cmpW, ↓eqw_int, ↓eqw_str, ↓eqw_tup, ↓eqw_lst, ↓ordW, ↓truW, ↓noOw, ↓ixW, ↓biW, ↓tgW, ↓tgsW, ↓opwW, ↓itW, ↓wipe_nil, ↓wipe_cons, ↓unwipe, ↓isOw, true_and, Bool.and_true, Bool.not_true, Bool.not_false, Bool.false_eq_true, ↓reduceIte, ↓blk_ap, ↓compF]
    exact hk
  · rw [List.nil_append]
    have e1 : ((ns.take (Int.toNat 63)).map fun i => PyData.int (if i < 0 then -i else i)) = ((ns.take 63).map fun i => (if i < 0 then -i else i)).map .int := by rw [List.map_map]; rfl
    rw [e1]
    have hl : ((ns.take 63).map fun i => (if i < 0 then -i else i : Int)).length ≤ 63 := by rw [List.length_map, List.length_take]; omega
    generalize ((ns.take 63).map fun i => (if i < 0 then -i else i : Int)) = cs at hl
    try simp -implicitDefEqProofs only [↓s_cs, ↓nx_ap, ↓s_nil, ↓s_set, ↓s_par, ↓s_unp, ↓s_ret, ↓s_retN, ↓s_drop, ↓s_if, ↓s_whl, ↓s_for, ↓s_app, ↓s_ext, ↓s_put, ↓s_ja, ↓s_ji, ↓s_js, ↓s_jl, ↓s_rais, ↓s_pass, ↓s_brk, ↓s_cont, ↓s_tri, ↓hd_nil, ↓hd_cons, ↓un_s, ↓un_n, ↓hu_ret, ↓hu_ifr, ↓hx_b, ↓hx_s, ↓hx_i, ↓hx_n, ↓hx_fld, ↓hx_isA, ↓hx_nt, ↓hx_and, ↓hx_ite, ↓hx_lst, ↓hx_tup, ↓hxs_nil, ↓hxs_cons, ↓ra_none, ↓ra_some, ↓x_calldB, ↓x_lw, ↓x_dct0, ↓x_v, ↓x_i, ↓x_b, ↓x_n, ↓x_st, ↓x_g, ↓x_tup, ↓x_lst, ↓x_bin, ↓x_neg, ↓x_nt, ↓x_cmp, ↓x_chain, ↓x_isN, ↓x_notN, ↓x_and, ↓x_or, ↓x_ite, ↓x_ix, ↓x_cut, ↓x_rev, ↓x_stp, ↓x_callB, ↓x_callkB, ↓x_bi, ↓x_comp, ↓x_pop, ↓x_popA, ↓x_jg, ↓x_jn, ↓x_jp, ↓x_scut, ↓x_slen, ↓srcK, ↓srcL, ↓t_yes, ↓t_and', ↓t_or', ↓t_nt', ↓t_ex, ↓e_nil, ↓e_cons, ↓a_nil', ↓a_cons', ↓rs_nil, ↓rs_cons, ↓frzS_v, ↓frzS_n, ↓asgs_nil, ↓asgs_cons, ↓rd_z, ↓rd_s, ↓set_z, ↓set_s, ↓at_mk, ↓isJar_j, ↓der_v, ↓der_n, ↓der_sl, ↓frz_v, ↓frz_n, ↓frz_sl, ↓asg_v, ↓asg_n, ↓asg_sl, ↓opW, ↓cmpW, ↓eqw_int, ↓eqw_str, ↓eqw_tup, ↓eqw_lst, ↓ordW, ↓truW, ↓noOw, ↓ixW, ↓biW, ↓tgW, ↓tgsW, ↓opwW, ↓itW, ↓wipe_nil, ↓wipe_cons, ↓unwipe, ↓isOw, true_and, Bool.and_true, Bool.not_true, Bool.not_false, Bool.false_eq_true, ↓reduceIte, ↓blk_ap, g0]
    refine for_inv (fun i r => ∃ (st : Int) (s3 : Slot), (s3 = .un ∨ ∃ d, s3 = .fz d) ∧ r = ⟨[.fz JAR, .fz (.list (cs.map .int)), .fz (.int st), s3], [(.inl 0, .list (ns.map .int))]⟩) ?_ ?_ ?_
    · exact ⟨_, _, .inl rfl, rfl⟩
    · rintro i d r hd ⟨st, s3, _, rfl⟩ kk hk
      obtain ⟨c, hc, rfl⟩ : ∃ c : Int, cs[i]? = some c ∧ d = .int c := by
        rw [List.getElem?_map] at hd
        cases e : cs[i]? with
        | none => rw [e] at hd; cases hd
        | some c => rw [e] at hd; cases hd; exact ⟨c, rfl, rfl⟩
      simp -implicitDefEqProofs only [↓s_cs, ↓nx_ap, ↓s_nil, ↓s_set, ↓s_par, ↓s_unp, ↓s_ret, ↓s_retN, ↓s_drop, ↓s_if, ↓s_whl, ↓s_for, ↓s_app, ↓s_ext, ↓s_put, ↓s_ja, ↓s_ji, ↓s_js, ↓s_jl, ↓s_rais, ↓s_pass, ↓s_brk, ↓s_cont, ↓s_tri, ↓hd_nil, ↓hd_cons, ↓un_s, ↓un_n, ↓hu_ret, ↓hu_ifr, ↓hx_b, ↓hx_s, ↓hx_i, ↓hx_n, ↓hx_fld, ↓hx_isA, ↓hx_nt, ↓hx_and, ↓hx_ite, ↓hx_lst, ↓hx_tup, ↓hxs_nil, ↓hxs_cons, ↓ra_none, ↓ra_some, ↓x_calldB, ↓x_lw, ↓x_dct0, ↓x_v, ↓x_i, ↓x_b, ↓x_n, ↓x_st, ↓x_g, ↓x_tup, ↓x_lst, ↓x_bin, ↓x_neg, ↓x_nt, ↓x_cmp, ↓x_chain, ↓x_isN, ↓x_notN, ↓x_and, ↓x_or, ↓x_ite, ↓x_ix, ↓x_cut, ↓x_rev, ↓x_stp, ↓x_callB, ↓x_callkB, ↓x_bi, ↓x_comp, ↓x_pop, ↓x_popA, ↓x_jg, ↓x_jn, ↓x_jp, ↓x_scut, ↓x_slen, ↓srcK, ↓srcL, ↓t_yes, ↓t_and', ↓t_or', ↓t_nt', ↓t_ex, ↓e_nil, ↓e_cons, ↓a_nil', ↓a_cons', ↓rs_nil, ↓rs_cons, ↓frzS_v, ↓frzS_n, ↓asgs_nil, ↓asgs_cons, ↓rd_z, ↓rd_s, ↓set_z, ↓set_s, ↓at_mk, ↓isJar_j, ↓der_v, ↓der_n, ↓der_sl, ↓frz_v, ↓frz_n, ↓frz_sl, ↓asg_v, ↓asg_n, ↓asg_sl, ↓opW, ↓cmpW, ↓eqw_int, ↓eqw_str, ↓eqw_tup, ↓eqw_lst, ↓ordW, ↓truW, ↓noOw, ↓ixW, ↓biW, ↓tgW, ↓tgsW, ↓opwW, ↓itW, ↓wipe_nil, ↓wipe_cons, ↓unwipe, ↓isOw, true_and, Bool.and_true, Bool.not_true, Bool.not_false, Bool.false_eq_true, ↓reduceIte, ↓blk_ap, ↓forF, ↓pre_1]
      exact ⟨.inr (.inl ⟨by decide, by decide⟩), by decide, by decide, hk _ ⟨_, _, .inr ⟨_, rfl⟩, rfl⟩⟩
    · rintro r ⟨st, s3, h3, rfl⟩
      simp -implicitDefEqProofs only [↓s_cs, ↓nx_ap, ↓s_nil, ↓s_set, ↓s_par, ↓s_unp, ↓s_ret, ↓s_retN, ↓s_drop, ↓s_if, ↓s_whl, ↓s_for, ↓s_app, ↓s_ext, ↓s_put, ↓s_ja, ↓s_ji, ↓s_js, ↓s_jl, ↓s_rais, ↓s_pass, ↓s_brk, ↓s_cont, ↓s_tri, ↓hd_nil, ↓hd_cons, ↓un_s, ↓un_n, ↓hu_ret, ↓hu_ifr, ↓hx_b, ↓hx_s, ↓hx_i, ↓hx_n, ↓hx_fld, ↓hx_isA, ↓hx_nt, ↓hx_and, ↓hx_ite, ↓hx_lst, ↓hx_tup, ↓hxs_nil, ↓hxs_cons, ↓ra_none, ↓ra_some, ↓x_calldB, ↓x_lw, ↓x_dct0, ↓x_v, ↓x_i, ↓x_b, ↓x_n, ↓x_st, ↓x_g, ↓x_tup, ↓x_lst, ↓x_bin, ↓x_neg, ↓x_nt, ↓x_cmp, ↓x_chain, ↓x_isN, ↓x_notN, ↓x_and, ↓x_or, ↓x_ite, ↓x_ix, ↓x_cut, ↓x_rev, ↓x_stp, ↓x_callB, ↓x_callkB, ↓x_bi, ↓x_comp, ↓x_pop, ↓x_popA, ↓x_jg, ↓x_jn, ↓x_jp, ↓x_scut, ↓x_slen, ↓srcK, ↓srcL, ↓t_yes, ↓t_and', ↓t_or', ↓t_nt', ↓t_ex, ↓e_nil, ↓e_cons, ↓a_nil', ↓a_cons', ↓rs_nil, ↓rs_cons, ↓frzS_v, ↓frzS_n, ↓asgs_nil, ↓asgs_cons, ↓rd_z, ↓rd_s, ↓set_z, ↓set_s, ↓at_mk, ↓isJar_j, ↓der_v, ↓der_n, ↓der_sl, ↓frz_v, ↓frz_n, ↓frz_sl, ↓asg_v, ↓asg_n, ↓asg_sl, ↓opW, ↓cmpW, ↓eqw_int, ↓eqw_str, ↓eqw_tup, ↓eqw_lst, ↓ordW, ↓truW, ↓noOw, ↓ixW, ↓biW, ↓tgW, ↓tgsW, ↓opwW, ↓itW, ↓wipe_nil, ↓wipe_cons, ↓unwipe, ↓isOw, true_and, Bool.and_true, Bool.not_true, Bool.not_false, Bool.false_eq_true, ↓reduceIte, ↓blk_ap, ↓es0, ↓jarW]
      rw [← List.map_reverse]
      try simp -implicitDefEqProofs only [↓s_cs, ↓nx_ap, ↓s_nil, ↓s_set, ↓s_par, ↓s_unp, ↓s_ret, ↓s_retN, ↓s_drop, ↓s_if, ↓s_whl, ↓s_for, ↓s_app, ↓s_ext, ↓s_put, ↓s_ja, ↓s_ji, ↓s_js, ↓s_jl, ↓s_rais, ↓s_pass, ↓s_brk, ↓s_cont, ↓s_tri, ↓hd_nil, ↓hd_cons, ↓un_s, ↓un_n, ↓hu_ret, ↓hu_ifr, ↓hx_b, ↓hx_s, ↓hx_i, ↓hx_n, ↓hx_fld, ↓hx_isA, ↓hx_nt, ↓hx_and, ↓hx_ite, ↓hx_lst, ↓hx_tup, ↓hxs_nil, ↓hxs_cons, ↓ra_none, ↓ra_some, ↓x_calldB, ↓x_lw, ↓x_dct0, ↓x_v, ↓x_i, ↓x_b, ↓x_n, ↓x_st, ↓x_g, ↓x_tup, ↓x_lst, ↓x_bin, ↓x_neg, ↓x_nt, ↓x_cmp, ↓x_chain, ↓x_isN, ↓x_notN, ↓x_and, ↓x_or, ↓x_ite, ↓x_ix, ↓x_cut, ↓x_rev, ↓x_stp, ↓x_callB, ↓x_callkB, ↓x_bi, ↓x_comp, ↓x_pop, ↓x_popA, ↓x_jg, ↓x_jn, ↓x_jp, ↓x_scut, ↓x_slen, ↓srcK, ↓srcL, ↓t_yes, ↓t_and', ↓t_or', ↓t_nt', ↓t_ex, ↓e_nil, ↓e_cons, ↓a_nil', ↓a_cons', ↓rs_nil, ↓rs_cons, ↓frzS_v, ↓frzS_n, ↓asgs_nil, ↓asgs_cons, ↓rd_z, ↓rd_s, ↓set_z, ↓set_s, ↓at_mk, ↓isJar_j, ↓der_v, ↓der_n, ↓der_sl, ↓frz_v, ↓frz_n, ↓frz_sl, ↓asg_v, ↓asg_n, ↓asg_sl, ↓opW, ↓cmpW, ↓eqw_int, ↓eqw_str, ↓eqw_tup, ↓eqw_lst, ↓ordW, ↓truW, ↓noOw, ↓ixW, ↓biW, ↓tgW, ↓tgsW, ↓opwW, ↓itW, ↓wipe_nil, ↓wipe_cons, ↓unwipe, ↓isOw, true_and, Bool.and_true, Bool.not_true, Bool.not_false, Bool.false_eq_true, ↓reduceIte, ↓blk_ap, asInts_map]
      refine ⟨rfl, h _ ⟨cs.reverse, 0, st, rfl, by rw [List.length_reverse]; omega⟩⟩
theorem err_val (d : D) : G.Val 1 1000 (errF d) := by
  have form : G.Val 1 1000 (.str "form") := (s_val (m := 30) (by decide +kernel)).mono (by decide) (by decide)
  unfold errF
  split
  · rename_i ds
    split
    · rename_i hl
      split
      · rename_i k hk
        have := (List.findIdx?_eq_some_iff_getElem.mp hk).1
        refine (val_tup (dp := 0) (m := 100) (c := 2) (fun d hd => ?_) (Nat.le_refl _)).mono (Nat.le_refl _) (by decide)
        simp only [List.mem_cons, List.not_mem_nil, or_false] at hd
        rcases hd with rfl | rfl
        · exact (s_val (m := 30) (by decide +kernel)).mono (by decide) (by decide)
        · exact i_val (b60 ⟨by omega, by omega⟩) (by decide)
      · unfold detF
        split
        · split
          · exact val_non.mono (by decide) (by decide)
          · exact (s_val (m := 30) (by decide +kernel)).mono (by decide) (by decide)
        · exact val_non.mono (by decide) (by decide)
    · exact form
  · exact form
theorem z2 : 1000 ≤ SZ := by decide
theorem law01 {g : Gh} (hg : GOK g) : stsW (callW T lvl) sub bL (lawE nL.length g) { nx := fun _ => False, rt := fun d _ => d = .bool true, bk := fun _ => False, ct := fun _ => False, ex := noX } := by
  have e0 : lawE nL.length g = ⟨[.un, .fz JAR, .un, .un, .un, .un, .un], g⟩ := rfl
  rw [e0]
  simp -implicitDefEqProofs only [↓s_cs, ↓nx_ap, ↓s_nil, ↓s_set, ↓s_par, ↓s_unp, ↓s_ret, ↓s_retN, ↓s_drop, ↓s_if, ↓s_whl, ↓s_for, ↓s_app, ↓s_ext, ↓s_put, ↓s_ja, ↓s_ji, ↓s_js, ↓s_jl, ↓s_rais, ↓s_pass, ↓s_brk, ↓s_cont, ↓s_tri, ↓hd_nil, ↓hd_cons, ↓un_s, ↓un_n, ↓hu_ret, ↓hu_ifr, ↓hx_b, ↓hx_s, ↓hx_i, ↓hx_n, ↓hx_fld, ↓hx_isA, ↓hx_nt, ↓hx_and, ↓hx_ite, ↓hx_lst, ↓hx_tup, ↓hxs_nil, ↓hxs_cons, ↓ra_none, ↓ra_some, ↓x_calldB, ↓x_lw, ↓x_dct0, ↓x_v, ↓x_i, ↓x_b, ↓x_n, ↓x_st, ↓x_g, ↓x_tup, ↓x_lst, ↓x_bin, ↓x_neg, ↓x_nt, ↓x_cmp, ↓x_chain, ↓x_isN, ↓x_notN, ↓x_and, ↓x_or, ↓x_ite, ↓x_ix, ↓x_cut, ↓x_rev, ↓x_stp, ↓x_callB, ↓x_callkB, ↓x_bi, ↓x_comp, ↓x_pop, ↓x_popA, ↓x_jg, ↓x_jn, ↓x_jp, ↓x_scut, ↓x_slen, ↓srcK, ↓srcL, ↓t_yes, ↓t_and', ↓t_or', ↓t_nt', ↓t_ex, ↓e_nil, ↓e_cons, ↓a_nil', ↓a_cons', ↓rs_nil, ↓rs_cons, ↓frzS_v, ↓frzS_n, ↓asgs_nil, ↓asgs_cons, ↓rd_z, ↓rd_s, ↓set_z, ↓set_s, ↓at_mk, ↓isJar_j, ↓der_v, ↓der_n, ↓der_sl, ↓frz_v, ↓frz_n, ↓frz_sl, ↓asg_v, ↓asg_n, ↓asg_sl, ↓opW, ↓cmpW, ↓eqw_int, ↓eqw_str, ↓eqw_tup, ↓eqw_lst, ↓ordW, ↓truW, ↓noOw, ↓ixW, ↓biW, ↓tgW, ↓tgsW, ↓opwW, ↓itW, ↓wipe_nil, ↓wipe_cons, ↓unwipe, ↓isOw, true_and, Bool.and_true, Bool.not_true, Bool.not_false, Bool.false_eq_true, ↓reduceIte, ↓blk_ap, ↓bL]
  refine ⟨by decide, for_inv (fun i r => ∃ (s2 s3 s4 s5 s6 : Slot) (g' : Gh), r = ⟨[.un, .fz JAR, s2, s3, s4, s5, s6], g'⟩ ∧ GOK g') ?_ ?_ ?_⟩
  · exact ⟨_, _, _, _, _, _, rfl, hg⟩
  · rintro t d r hd ⟨s2, s3, s4, s5, s6, g1, rfl, hg1⟩ kk hk
    obtain ⟨ht, rfl⟩ := range_get hd
    rw [Int.zero_add]
    simp -implicitDefEqProofs only [↓s_cs, ↓nx_ap, ↓s_nil, ↓s_set, ↓s_par, ↓s_unp, ↓s_ret, ↓s_retN, ↓s_drop, ↓s_if, ↓s_whl, ↓s_for, ↓s_app, ↓s_ext, ↓s_put, ↓s_ja, ↓s_ji, ↓s_js, ↓s_jl, ↓s_rais, ↓s_pass, ↓s_brk, ↓s_cont, ↓s_tri, ↓hd_nil, ↓hd_cons, ↓un_s, ↓un_n, ↓hu_ret, ↓hu_ifr, ↓hx_b, ↓hx_s, ↓hx_i, ↓hx_n, ↓hx_fld, ↓hx_isA, ↓hx_nt, ↓hx_and, ↓hx_ite, ↓hx_lst, ↓hx_tup, ↓hxs_nil, ↓hxs_cons, ↓ra_none, ↓ra_some, ↓x_calldB, ↓x_lw, ↓x_dct0, ↓x_v, ↓x_i, ↓x_b, ↓x_n, ↓x_st, ↓x_g, ↓x_tup, ↓x_lst, ↓x_bin, ↓x_neg, ↓x_nt, ↓x_cmp, ↓x_chain, ↓x_isN, ↓x_notN, ↓x_and, ↓x_or, ↓x_ite, ↓x_ix, ↓x_cut, ↓x_rev, ↓x_stp, ↓x_callB, ↓x_callkB, ↓x_bi, ↓x_comp, ↓x_pop, ↓x_popA, ↓x_jg, ↓x_jn, ↓x_jp, ↓x_scut, ↓x_slen, ↓srcK, ↓srcL, ↓t_yes, ↓t_and', ↓t_or', ↓t_nt', ↓t_ex, ↓e_nil, ↓e_cons, ↓a_nil', ↓a_cons', ↓rs_nil, ↓rs_cons, ↓frzS_v, ↓frzS_n, ↓asgs_nil, ↓asgs_cons, ↓rd_z, ↓rd_s, ↓set_z, ↓set_s, ↓at_mk, ↓isJar_j, ↓der_v, ↓der_n, ↓der_sl, ↓frz_v, ↓frz_n, ↓frz_sl, ↓asg_v, ↓asg_n, ↓asg_sl, ↓opW, ↓cmpW, ↓eqw_int, ↓eqw_str, ↓eqw_tup, ↓eqw_lst, ↓ordW, ↓truW, ↓noOw, ↓ixW, ↓biW, ↓tgW, ↓tgsW, ↓opwW, ↓itW, ↓wipe_nil, ↓wipe_cons, ↓unwipe, ↓isOw, true_and, Bool.and_true, Bool.not_true, Bool.not_false, Bool.false_eq_true, ↓reduceIte, ↓blk_ap, ↓forF, ↓bL_2]
    refine p_vecs (n := 8) hg1 fun g2 hg2 => ?_
    try simp -implicitDefEqProofs only [↓s_cs, ↓nx_ap, ↓s_nil, ↓s_set, ↓s_par, ↓s_unp, ↓s_ret, ↓s_retN, ↓s_drop, ↓s_if, ↓s_whl, ↓s_for, ↓s_app, ↓s_ext, ↓s_put, ↓s_ja, ↓s_ji, ↓s_js, ↓s_jl, ↓s_rais, ↓s_pass, ↓s_brk, ↓s_cont, ↓s_tri, ↓hd_nil, ↓hd_cons, ↓un_s, ↓un_n, ↓hu_ret, ↓hu_ifr, ↓hx_b, ↓hx_s, ↓hx_i, ↓hx_n, ↓hx_fld, ↓hx_isA, ↓hx_nt, ↓hx_and, ↓hx_ite, ↓hx_lst, ↓hx_tup, ↓hxs_nil, ↓hxs_cons, ↓ra_none, ↓ra_some, ↓x_calldB, ↓x_lw, ↓x_dct0, ↓x_v, ↓x_i, ↓x_b, ↓x_n, ↓x_st, ↓x_g, ↓x_tup, ↓x_lst, ↓x_bin, ↓x_neg, ↓x_nt, ↓x_cmp, ↓x_chain, ↓x_isN, ↓x_notN, ↓x_and, ↓x_or, ↓x_ite, ↓x_ix, ↓x_cut, ↓x_rev, ↓x_stp, ↓x_callB, ↓x_callkB, ↓x_bi, ↓x_comp, ↓x_pop, ↓x_popA, ↓x_jg, ↓x_jn, ↓x_jp, ↓x_scut, ↓x_slen, ↓srcK, ↓srcL, ↓t_yes, ↓t_and', ↓t_or', ↓t_nt', ↓t_ex, ↓e_nil, ↓e_cons, ↓a_nil', ↓a_cons', ↓rs_nil, ↓rs_cons, ↓frzS_v, ↓frzS_n, ↓asgs_nil, ↓asgs_cons, ↓rd_z, ↓rd_s, ↓set_z, ↓set_s, ↓at_mk, ↓isJar_j, ↓der_v, ↓der_n, ↓der_sl, ↓frz_v, ↓frz_n, ↓frz_sl, ↓asg_v, ↓asg_n, ↓asg_sl, ↓opW, ↓cmpW, ↓eqw_int, ↓eqw_str, ↓eqw_tup, ↓eqw_lst, ↓ordW, ↓truW, ↓noOw, ↓ixW, ↓biW, ↓tgW, ↓tgsW, ↓opwW, ↓itW, ↓wipe_nil, ↓wipe_cons, ↓unwipe, ↓isOw, true_and, Bool.and_true, Bool.not_true, Bool.not_false, Bool.false_eq_true, ↓reduceIte, ↓blk_ap]
    refine p_frames (n := 7) hg2 fun g3 hg3 => ?_
    try simp -implicitDefEqProofs only [↓s_cs, ↓nx_ap, ↓s_nil, ↓s_set, ↓s_par, ↓s_unp, ↓s_ret, ↓s_retN, ↓s_drop, ↓s_if, ↓s_whl, ↓s_for, ↓s_app, ↓s_ext, ↓s_put, ↓s_ja, ↓s_ji, ↓s_js, ↓s_jl, ↓s_rais, ↓s_pass, ↓s_brk, ↓s_cont, ↓s_tri, ↓hd_nil, ↓hd_cons, ↓un_s, ↓un_n, ↓hu_ret, ↓hu_ifr, ↓hx_b, ↓hx_s, ↓hx_i, ↓hx_n, ↓hx_fld, ↓hx_isA, ↓hx_nt, ↓hx_and, ↓hx_ite, ↓hx_lst, ↓hx_tup, ↓hxs_nil, ↓hxs_cons, ↓ra_none, ↓ra_some, ↓x_calldB, ↓x_lw, ↓x_dct0, ↓x_v, ↓x_i, ↓x_b, ↓x_n, ↓x_st, ↓x_g, ↓x_tup, ↓x_lst, ↓x_bin, ↓x_neg, ↓x_nt, ↓x_cmp, ↓x_chain, ↓x_isN, ↓x_notN, ↓x_and, ↓x_or, ↓x_ite, ↓x_ix, ↓x_cut, ↓x_rev, ↓x_stp, ↓x_callB, ↓x_callkB, ↓x_bi, ↓x_comp, ↓x_pop, ↓x_popA, ↓x_jg, ↓x_jn, ↓x_jp, ↓x_scut, ↓x_slen, ↓srcK, ↓srcL, ↓t_yes, ↓t_and', ↓t_or', ↓t_nt', ↓t_ex, ↓e_nil, ↓e_cons, ↓a_nil', ↓a_cons', ↓rs_nil, ↓rs_cons, ↓frzS_v, ↓frzS_n, ↓asgs_nil, ↓asgs_cons, ↓rd_z, ↓rd_s, ↓set_z, ↓set_s, ↓at_mk, ↓isJar_j, ↓der_v, ↓der_n, ↓der_sl, ↓frz_v, ↓frz_n, ↓frz_sl, ↓asg_v, ↓asg_n, ↓asg_sl, ↓opW, ↓cmpW, ↓eqw_int, ↓eqw_str, ↓eqw_tup, ↓eqw_lst, ↓ordW, ↓truW, ↓noOw, ↓ixW, ↓biW, ↓tgW, ↓tgsW, ↓opwW, ↓itW, ↓wipe_nil, ↓wipe_cons, ↓unwipe, ↓isOw, true_and, Bool.and_true, Bool.not_true, Bool.not_false, Bool.false_eq_true, ↓reduceIte, ↓blk_ap]
    refine p_nearf (n := 8) hg3 fun f g4 hf hg4 => ?_
    try simp -implicitDefEqProofs only [↓s_cs, ↓nx_ap, ↓s_nil, ↓s_set, ↓s_par, ↓s_unp, ↓s_ret, ↓s_retN, ↓s_drop, ↓s_if, ↓s_whl, ↓s_for, ↓s_app, ↓s_ext, ↓s_put, ↓s_ja, ↓s_ji, ↓s_js, ↓s_jl, ↓s_rais, ↓s_pass, ↓s_brk, ↓s_cont, ↓s_tri, ↓hd_nil, ↓hd_cons, ↓un_s, ↓un_n, ↓hu_ret, ↓hu_ifr, ↓hx_b, ↓hx_s, ↓hx_i, ↓hx_n, ↓hx_fld, ↓hx_isA, ↓hx_nt, ↓hx_and, ↓hx_ite, ↓hx_lst, ↓hx_tup, ↓hxs_nil, ↓hxs_cons, ↓ra_none, ↓ra_some, ↓x_calldB, ↓x_lw, ↓x_dct0, ↓x_v, ↓x_i, ↓x_b, ↓x_n, ↓x_st, ↓x_g, ↓x_tup, ↓x_lst, ↓x_bin, ↓x_neg, ↓x_nt, ↓x_cmp, ↓x_chain, ↓x_isN, ↓x_notN, ↓x_and, ↓x_or, ↓x_ite, ↓x_ix, ↓x_cut, ↓x_rev, ↓x_stp, ↓x_callB, ↓x_callkB, ↓x_bi, ↓x_comp, ↓x_pop, ↓x_popA, ↓x_jg, ↓x_jn, ↓x_jp, ↓x_scut, ↓x_slen, ↓srcK, ↓srcL, ↓t_yes, ↓t_and', ↓t_or', ↓t_nt', ↓t_ex, ↓e_nil, ↓e_cons, ↓a_nil', ↓a_cons', ↓rs_nil, ↓rs_cons, ↓frzS_v, ↓frzS_n, ↓asgs_nil, ↓asgs_cons, ↓rd_z, ↓rd_s, ↓set_z, ↓set_s, ↓at_mk, ↓isJar_j, ↓der_v, ↓der_n, ↓der_sl, ↓frz_v, ↓frz_n, ↓frz_sl, ↓asg_v, ↓asg_n, ↓asg_sl, ↓opW, ↓cmpW, ↓eqw_int, ↓eqw_str, ↓eqw_tup, ↓eqw_lst, ↓ordW, ↓truW, ↓noOw, ↓ixW, ↓biW, ↓tgW, ↓tgsW, ↓opwW, ↓itW, ↓wipe_nil, ↓wipe_cons, ↓unwipe, ↓isOw, true_and, Bool.and_true, Bool.not_true, Bool.not_false, Bool.false_eq_true, ↓reduceIte, ↓blk_ap]
    refine p_values (n := 9) hf hg4 fun ds g5 hds hg5 => ?_
    try simp -implicitDefEqProofs only [↓s_cs, ↓nx_ap, ↓s_nil, ↓s_set, ↓s_par, ↓s_unp, ↓s_ret, ↓s_retN, ↓s_drop, ↓s_if, ↓s_whl, ↓s_for, ↓s_app, ↓s_ext, ↓s_put, ↓s_ja, ↓s_ji, ↓s_js, ↓s_jl, ↓s_rais, ↓s_pass, ↓s_brk, ↓s_cont, ↓s_tri, ↓hd_nil, ↓hd_cons, ↓un_s, ↓un_n, ↓hu_ret, ↓hu_ifr, ↓hx_b, ↓hx_s, ↓hx_i, ↓hx_n, ↓hx_fld, ↓hx_isA, ↓hx_nt, ↓hx_and, ↓hx_ite, ↓hx_lst, ↓hx_tup, ↓hxs_nil, ↓hxs_cons, ↓ra_none, ↓ra_some, ↓x_calldB, ↓x_lw, ↓x_dct0, ↓x_v, ↓x_i, ↓x_b, ↓x_n, ↓x_st, ↓x_g, ↓x_tup, ↓x_lst, ↓x_bin, ↓x_neg, ↓x_nt, ↓x_cmp, ↓x_chain, ↓x_isN, ↓x_notN, ↓x_and, ↓x_or, ↓x_ite, ↓x_ix, ↓x_cut, ↓x_rev, ↓x_stp, ↓x_callB, ↓x_callkB, ↓x_bi, ↓x_comp, ↓x_pop, ↓x_popA, ↓x_jg, ↓x_jn, ↓x_jp, ↓x_scut, ↓x_slen, ↓srcK, ↓srcL, ↓t_yes, ↓t_and', ↓t_or', ↓t_nt', ↓t_ex, ↓e_nil, ↓e_cons, ↓a_nil', ↓a_cons', ↓rs_nil, ↓rs_cons, ↓frzS_v, ↓frzS_n, ↓asgs_nil, ↓asgs_cons, ↓rd_z, ↓rd_s, ↓set_z, ↓set_s, ↓at_mk, ↓isJar_j, ↓der_v, ↓der_n, ↓der_sl, ↓frz_v, ↓frz_n, ↓frz_sl, ↓asg_v, ↓asg_n, ↓asg_sl, ↓opW, ↓cmpW, ↓eqw_int, ↓eqw_str, ↓eqw_tup, ↓eqw_lst, ↓ordW, ↓truW, ↓noOw, ↓ixW, ↓biW, ↓tgW, ↓tgsW, ↓opwW, ↓itW, ↓wipe_nil, ↓wipe_cons, ↓unwipe, ↓isOw, true_and, Bool.and_true, Bool.not_true, Bool.not_false, Bool.false_eq_true, ↓reduceIte, ↓blk_ap]
    refine for_inv (fun i r => ∃ s3 s4 s5 s6 : Slot, r = ⟨[.un, .fz JAR, .fz (.int (t : Int)), s3, s4, s5, s6], g5⟩) ⟨_, _, _, _, rfl⟩ ?_ ?_
    · rintro i x r hx ⟨s3, s4, s5, s6, rfl⟩ k2 hk2
      obtain ⟨v, hv, rfl⟩ := enum_get hx
      have vv := hds v (List.mem_of_getElem? hv)
      have ve := err_val v
      have lst : ∀ v : D, List.map (fun p => ([] ++ [v]).getD p PyData.none) [0] = [v] := fun _ => rfl
      simp -implicitDefEqProofs only [↓s_cs, ↓nx_ap, ↓s_nil, ↓s_set, ↓s_par, ↓s_unp, ↓s_ret, ↓s_retN, ↓s_drop, ↓s_if, ↓s_whl, ↓s_for, ↓s_app, ↓s_ext, ↓s_put, ↓s_ja, ↓s_ji, ↓s_js, ↓s_jl, ↓s_rais, ↓s_pass, ↓s_brk, ↓s_cont, ↓s_tri, ↓hd_nil, ↓hd_cons, ↓un_s, ↓un_n, ↓hu_ret, ↓hu_ifr, ↓hx_b, ↓hx_s, ↓hx_i, ↓hx_n, ↓hx_fld, ↓hx_isA, ↓hx_nt, ↓hx_and, ↓hx_ite, ↓hx_lst, ↓hx_tup, ↓hxs_nil, ↓hxs_cons, ↓ra_none, ↓ra_some, ↓x_calldB, ↓x_lw, ↓x_dct0, ↓x_v, ↓x_i, ↓x_b, ↓x_n, ↓x_st, ↓x_g, ↓x_tup, ↓x_lst, ↓x_bin, ↓x_neg, ↓x_nt, ↓x_cmp, ↓x_chain, ↓x_isN, ↓x_notN, ↓x_and, ↓x_or, ↓x_ite, ↓x_ix, ↓x_cut, ↓x_rev, ↓x_stp, ↓x_callB, ↓x_callkB, ↓x_bi, ↓x_comp, ↓x_pop, ↓x_popA, ↓x_jg, ↓x_jn, ↓x_jp, ↓x_scut, ↓x_slen, ↓srcK, ↓srcL, ↓t_yes, ↓t_and', ↓t_or', ↓t_nt', ↓t_ex, ↓e_nil, ↓e_cons, ↓a_nil', ↓a_cons', ↓rs_nil, ↓rs_cons, ↓frzS_v, ↓frzS_n, ↓asgs_nil, ↓asgs_cons, ↓rd_z, ↓rd_s, ↓set_z, ↓set_s, ↓at_mk, ↓isJar_j, ↓der_v, ↓der_n, ↓der_sl, ↓frz_v, ↓frz_n, ↓frz_sl, ↓asg_v, ↓asg_n, ↓asg_sl, ↓opW, ↓cmpW, ↓eqw_int, ↓eqw_str, ↓eqw_tup, ↓eqw_lst, ↓ordW, ↓truW, ↓noOw, ↓ixW, ↓biW, ↓tgW, ↓tgsW, ↓opwW, ↓itW, ↓wipe_nil, ↓wipe_cons, ↓unwipe, ↓isOw, true_and, Bool.and_true, Bool.not_true, Bool.not_false, Bool.false_eq_true, ↓reduceIte, ↓blk_ap, ↓forF, ↓bL_1]
      refine vv.rp z1 ⟨.inl ⟨by decide, by decide⟩, mulS (by decide), ?_⟩
      split
      all_goals
        try rw [lst]
        refine p_ferr (n := 9) vv.nd ?_
        try simp -implicitDefEqProofs only [↓s_cs, ↓nx_ap, ↓s_nil, ↓s_set, ↓s_par, ↓s_unp, ↓s_ret, ↓s_retN, ↓s_drop, ↓s_if, ↓s_whl, ↓s_for, ↓s_app, ↓s_ext, ↓s_put, ↓s_ja, ↓s_ji, ↓s_js, ↓s_jl, ↓s_rais, ↓s_pass, ↓s_brk, ↓s_cont, ↓s_tri, ↓hd_nil, ↓hd_cons, ↓un_s, ↓un_n, ↓hu_ret, ↓hu_ifr, ↓hx_b, ↓hx_s, ↓hx_i, ↓hx_n, ↓hx_fld, ↓hx_isA, ↓hx_nt, ↓hx_and, ↓hx_ite, ↓hx_lst, ↓hx_tup, ↓hxs_nil, ↓hxs_cons, ↓ra_none, ↓ra_some, ↓x_calldB, ↓x_lw, ↓x_dct0, ↓x_v, ↓x_i, ↓x_b, ↓x_n, ↓x_st, ↓x_g, ↓x_tup, ↓x_lst, ↓x_bin, ↓x_neg, ↓x_nt, ↓x_cmp, ↓x_chain, ↓x_isN, ↓x_notN, ↓x_and, ↓x_or, ↓x_ite, ↓x_ix, ↓x_cut, ↓x_rev, ↓x_stp, ↓x_callB, ↓x_callkB, ↓x_bi, ↓x_comp, ↓x_pop, ↓x_popA, ↓x_jg, ↓x_jn, ↓x_jp, ↓x_scut, ↓x_slen, ↓srcK, ↓srcL, ↓t_yes, ↓t_and', ↓t_or', ↓t_nt', ↓t_ex, ↓e_nil, ↓e_cons, ↓a_nil', ↓a_cons', ↓rs_nil, ↓rs_cons, ↓frzS_v, ↓frzS_n, ↓asgs_nil, ↓asgs_cons, ↓rd_z, ↓rd_s, ↓set_z, ↓set_s, ↓at_mk, ↓isJar_j, ↓der_v, ↓der_n, ↓der_sl, ↓frz_v, ↓frz_n, ↓frz_sl, ↓asg_v, ↓asg_n, ↓asg_sl, ↓opW, ↓cmpW, ↓eqw_int, ↓eqw_str, ↓eqw_tup, ↓eqw_lst, ↓ordW, ↓truW, ↓noOw, ↓ixW, ↓biW, ↓tgW, ↓tgsW, ↓opwW, ↓itW, ↓wipe_nil, ↓wipe_cons, ↓unwipe, ↓isOw, true_and, Bool.and_true, Bool.not_true, Bool.not_false, Bool.false_eq_true, ↓reduceIte, ↓blk_ap]
        refine ve.rp (by decide) z2 (p_fdue (n := 9) vv.nd ?_)
        try simp -implicitDefEqProofs only [↓s_cs, ↓nx_ap, ↓s_nil, ↓s_set, ↓s_par, ↓s_unp, ↓s_ret, ↓s_retN, ↓s_drop, ↓s_if, ↓s_whl, ↓s_for, ↓s_app, ↓s_ext, ↓s_put, ↓s_ja, ↓s_ji, ↓s_js, ↓s_jl, ↓s_rais, ↓s_pass, ↓s_brk, ↓s_cont, ↓s_tri, ↓hd_nil, ↓hd_cons, ↓un_s, ↓un_n, ↓hu_ret, ↓hu_ifr, ↓hx_b, ↓hx_s, ↓hx_i, ↓hx_n, ↓hx_fld, ↓hx_isA, ↓hx_nt, ↓hx_and, ↓hx_ite, ↓hx_lst, ↓hx_tup, ↓hxs_nil, ↓hxs_cons, ↓ra_none, ↓ra_some, ↓x_calldB, ↓x_lw, ↓x_dct0, ↓x_v, ↓x_i, ↓x_b, ↓x_n, ↓x_st, ↓x_g, ↓x_tup, ↓x_lst, ↓x_bin, ↓x_neg, ↓x_nt, ↓x_cmp, ↓x_chain, ↓x_isN, ↓x_notN, ↓x_and, ↓x_or, ↓x_ite, ↓x_ix, ↓x_cut, ↓x_rev, ↓x_stp, ↓x_callB, ↓x_callkB, ↓x_bi, ↓x_comp, ↓x_pop, ↓x_popA, ↓x_jg, ↓x_jn, ↓x_jp, ↓x_scut, ↓x_slen, ↓srcK, ↓srcL, ↓t_yes, ↓t_and', ↓t_or', ↓t_nt', ↓t_ex, ↓e_nil, ↓e_cons, ↓a_nil', ↓a_cons', ↓rs_nil, ↓rs_cons, ↓frzS_v, ↓frzS_n, ↓asgs_nil, ↓asgs_cons, ↓rd_z, ↓rd_s, ↓set_z, ↓set_s, ↓at_mk, ↓isJar_j, ↓der_v, ↓der_n, ↓der_sl, ↓frz_v, ↓frz_n, ↓frz_sl, ↓asg_v, ↓asg_n, ↓asg_sl, ↓opW, ↓cmpW, ↓eqw_int, ↓eqw_str, ↓eqw_tup, ↓eqw_lst, ↓ordW, ↓truW, ↓noOw, ↓ixW, ↓biW, ↓tgW, ↓tgsW, ↓opwW, ↓itW, ↓wipe_nil, ↓wipe_cons, ↓unwipe, ↓isOw, true_and, Bool.and_true, Bool.not_true, Bool.not_false, Bool.false_eq_true, ↓reduceIte, ↓blk_ap]
        refine ve.rp (by decide) z2 ?_
        rw [if_neg (by simp)]
        refine vv.rp z1 ?_
        rw [if_neg (by simp)]
        exact hk2 _ ⟨_, _, _, _, rfl⟩
    · rintro r ⟨s3, s4, s5, s6, rfl⟩
      exact hk _ ⟨_, _, _, _, _, g5, rfl, hg5⟩
  · rintro r ⟨s2, s3, s4, s5, s6, g1, rfl, hg1⟩
    try simp -implicitDefEqProofs only [↓s_cs, ↓nx_ap, ↓s_nil, ↓s_set, ↓s_par, ↓s_unp, ↓s_ret, ↓s_retN, ↓s_drop, ↓s_if, ↓s_whl, ↓s_for, ↓s_app, ↓s_ext, ↓s_put, ↓s_ja, ↓s_ji, ↓s_js, ↓s_jl, ↓s_rais, ↓s_pass, ↓s_brk, ↓s_cont, ↓s_tri, ↓hd_nil, ↓hd_cons, ↓un_s, ↓un_n, ↓hu_ret, ↓hu_ifr, ↓hx_b, ↓hx_s, ↓hx_i, ↓hx_n, ↓hx_fld, ↓hx_isA, ↓hx_nt, ↓hx_and, ↓hx_ite, ↓hx_lst, ↓hx_tup, ↓hxs_nil, ↓hxs_cons, ↓ra_none, ↓ra_some, ↓x_calldB, ↓x_lw, ↓x_dct0, ↓x_v, ↓x_i, ↓x_b, ↓x_n, ↓x_st, ↓x_g, ↓x_tup, ↓x_lst, ↓x_bin, ↓x_neg, ↓x_nt, ↓x_cmp, ↓x_chain, ↓x_isN, ↓x_notN, ↓x_and, ↓x_or, ↓x_ite, ↓x_ix, ↓x_cut, ↓x_rev, ↓x_stp, ↓x_callB, ↓x_callkB, ↓x_bi, ↓x_comp, ↓x_pop, ↓x_popA, ↓x_jg, ↓x_jn, ↓x_jp, ↓x_scut, ↓x_slen, ↓srcK, ↓srcL, ↓t_yes, ↓t_and', ↓t_or', ↓t_nt', ↓t_ex, ↓e_nil, ↓e_cons, ↓a_nil', ↓a_cons', ↓rs_nil, ↓rs_cons, ↓frzS_v, ↓frzS_n, ↓asgs_nil, ↓asgs_cons, ↓rd_z, ↓rd_s, ↓set_z, ↓set_s, ↓at_mk, ↓isJar_j, ↓der_v, ↓der_n, ↓der_sl, ↓frz_v, ↓frz_n, ↓frz_sl, ↓asg_v, ↓asg_n, ↓asg_sl, ↓opW, ↓cmpW, ↓eqw_int, ↓eqw_str, ↓eqw_tup, ↓eqw_lst, ↓ordW, ↓truW, ↓noOw, ↓ixW, ↓biW, ↓tgW, ↓tgsW, ↓opwW, ↓itW, ↓wipe_nil, ↓wipe_cons, ↓unwipe, ↓isOw, true_and, Bool.and_true, Bool.not_true, Bool.not_false, Bool.false_eq_true, ↓reduceIte, ↓blk_ap]
end G01

set_option linter.all false
set_option maxRecDepth 100000
namespace G01
open PySem PySem.Spec PyProof.Rows L2 G
theorem core : ∀ ns : List Int, ns.length ≤ 63 → stsW (fun _ _ _ _ _ => False) sub pre0 (startE n0.length [JAR] [(.inl 0, .list (ns.map .int))])
      { nx := fun r => jarW (fun _ _ _ _ _ => False) es0 r fun g => stsW (callW (tbOf dfs sub) lvl) (tbOf dfs sub).sub bL (lawE nL.length g) { nx := fun _ => False, rt := fun d _ => d = .bool true, bk := fun _ => False, ct := fun _ => False, ex := noX }, rt := fun _ _ => False, bk := fun _ => False, ct := fun _ => False, ex := noX } :=
  fun _ _ => deckW fun _ hg => law01 hg
end G01

set_option linter.all false
set_option maxRecDepth 100000
namespace G01
open PySem PySem.Spec PyProof.Rows L2 G
theorem all_mk {l : PySem.W.OpenLaw} {w : World} {K : PySem.W.Frag} {h : Heap} {mg : Str → Option Value} {fa : Addr} (X : K.In h) (Gn : h.Ns mainGlobals mg) (hfa : mg "law" = some (.ref fa)) {fL fM : Addr}
    {odL anL : Option Addr} {slL : Array (Option Value)} {ocL kVL dcL pmL cdL ctL : Value}
    {odM anM : Option Addr} {slM : Array (Option Value)} {ocM kVM dcM pmM cdM ctM : Value}
    {od0 an0 : Option Addr} {sl0 : Array (Option Value)} {oc0 kV0 dc0 pm0 cd0 ct0 : Value}
    {od1 an1 : Option Addr} {sl1 : Array (Option Value)} {oc1 kV1 dc1 pm1 cd1 ct1 : Value}
    {od2 an2 : Option Addr} {sl2 : Array (Option Value)} {oc2 kV2 dc2 pm2 cd2 ct2 : Value}
    {od3 an3 : Option Addr} {sl3 : Array (Option Value)} {oc3 kV3 dc3 pm3 cd3 ct3 : Value}
    {od4 an4 : Option Addr} {sl4 : Array (Option Value)} {oc4 kV4 dc4 pm4 cd4 ct4 : Value}
    {od5 an5 : Option Addr} {sl5 : Array (Option Value)} {oc5 kV5 dc5 pm5 cd5 ct5 : Value}
    {od6 an6 : Option Addr} {sl6 : Array (Option Value)} {oc6 kV6 dc6 pm6 cd6 ct6 : Value}
    {od7 an7 : Option Addr} {sl7 : Array (Option Value)} {oc7 kV7 dc7 pm7 cd7 ct7 : Value}
    {od8 an8 : Option Addr} {sl8 : Array (Option Value)} {oc8 kV8 dc8 pm8 cd8 ct8 : Value}
    {od9 an9 : Option Addr} {sl9 : Array (Option Value)} {oc9 kV9 dc9 pm9 cd9 ct9 : Value}
    {od10 an10 : Option Addr} {sl10 : Array (Option Value)} {oc10 kV10 dc10 pm10 cd10 ct10 : Value}
    {od11 an11 : Option Addr} {sl11 : Array (Option Value)} {oc11 kV11 dc11 pm11 cd11 ct11 : Value}
    {od12 an12 : Option Addr} {sl12 : Array (Option Value)} {oc12 kV12 dc12 pm12 cd12 ct12 : Value}
    {od13 an13 : Option Addr} {sl13 : Array (Option Value)} {oc13 kV13 dc13 pm13 cd13 ct13 : Value}
    {od14 an14 : Option Addr} {sl14 : Array (Option Value)} {oc14 kV14 dc14 pm14 cd14 ct14 : Value}
    {od15 an15 : Option Addr} {sl15 : Array (Option Value)} {oc15 kV15 dc15 pm15 cd15 ct15 : Value}
    {od16 an16 : Option Addr} {sl16 : Array (Option Value)} {oc16 kV16 dc16 pm16 cd16 ct16 : Value}
    {od17 an17 : Option Addr} {sl17 : Array (Option Value)} {oc17 kV17 dc17 pm17 cd17 ct17 : Value}
    {od18 an18 : Option Addr} {sl18 : Array (Option Value)} {oc18 kV18 dc18 pm18 cd18 ct18 : Value}
    {od19 an19 : Option Addr} {sl19 : Array (Option Value)} {oc19 kV19 dc19 pm19 cd19 ct19 : Value}
    {od20 an20 : Option Addr} {sl20 : Array (Option Value)} {oc20 kV20 dc20 pm20 cd20 ct20 : Value}
    {od21 an21 : Option Addr} {sl21 : Array (Option Value)} {oc21 kV21 dc21 pm21 cd21 ct21 : Value}
    {od22 an22 : Option Addr} {sl22 : Array (Option Value)} {oc22 kV22 dc22 pm22 cd22 ct22 : Value}
    {od23 an23 : Option Addr} {sl23 : Array (Option Value)} {oc23 kV23 dc23 pm23 cd23 ct23 : Value}
    {od24 an24 : Option Addr} {sl24 : Array (Option Value)} {oc24 kV24 dc24 pm24 cd24 ct24 : Value}
    {od25 an25 : Option Addr} {sl25 : Array (Option Value)} {oc25 kV25 dc25 pm25 cd25 ct25 : Value}
    {od26 an26 : Option Addr} {sl26 : Array (Option Value)} {oc26 kV26 dc26 pm26 cd26 ct26 : Value}
    {od27 an27 : Option Addr} {sl27 : Array (Option Value)} {oc27 kV27 dc27 pm27 cd27 ct27 : Value}
    {od28 an28 : Option Addr} {sl28 : Array (Option Value)} {oc28 kV28 dc28 pm28 cd28 ct28 : Value}
    {f0 f1 f2 f3 f4 f5 f6 f7 f8 f9 f10 f11 f12 f13 f14 f15 f16 f17 f18 f19 f20 f21 f22 f23 f24 f25 f26 f27 f28 : Addr}
    (aL : PySem.W.nsIn K mainGlobals "law" = some (some (.ref fL)))
    (lL : K.lookup fL = some ⟨ocL, odL, .func (PySem.W.fnOf "law" "law" (defArgs stL) (defBody stL) (defScope stL) .none kVL dcL pmL anL cdL ctL), slL⟩)
    (cL_ : PySem.W.codeIn K cdL "law" = true)
    (kL_ : PySem.W.keepIn K (.ref fL) = true)
    (aM : PySem.W.nsIn K mainGlobals mkN = some (some (.ref fM)))
    (lM : K.lookup fM = some ⟨ocM, odM, .func (PySem.W.fnOf mkN mkN (defArgs stM) (defBody stM) (defScope stM) .none kVM dcM pmM anM cdM ctM), slM⟩)
    (cM_ : PySem.W.codeIn K cdM mkN = true)
    (kM_ : PySem.W.keepIn K (.ref fM) = true)
    (a0 : PySem.W.nsIn K mainGlobals d0.nm = some (some (.ref f0)))
    (l0 : K.lookup f0 = some ⟨oc0, od0, .func (PySem.W.fnOf d0.nm d0.nm (defArgs st0) (defBody st0) (defScope st0) .none kV0 dc0 pm0 an0 cd0 ct0), sl0⟩)
    (c0_ : PySem.W.codeIn K cd0 d0.nm = true)
    (k0_ : PySem.W.keepIn K (.ref f0) = true)
    (a1 : PySem.W.nsIn K mainGlobals d1.nm = some (some (.ref f1)))
    (l1 : K.lookup f1 = some ⟨oc1, od1, .func (PySem.W.fnOf d1.nm d1.nm (defArgs st1) (defBody st1) (defScope st1) .none kV1 dc1 pm1 an1 cd1 ct1), sl1⟩)
    (c1_ : PySem.W.codeIn K cd1 d1.nm = true)
    (k1_ : PySem.W.keepIn K (.ref f1) = true)
    (a2 : PySem.W.nsIn K mainGlobals d2.nm = some (some (.ref f2)))
    (l2 : K.lookup f2 = some ⟨oc2, od2, .func (PySem.W.fnOf d2.nm d2.nm (defArgs st2) (defBody st2) (defScope st2) .none kV2 dc2 pm2 an2 cd2 ct2), sl2⟩)
    (c2_ : PySem.W.codeIn K cd2 d2.nm = true)
    (k2_ : PySem.W.keepIn K (.ref f2) = true)
    (a3 : PySem.W.nsIn K mainGlobals d3.nm = some (some (.ref f3)))
    (l3 : K.lookup f3 = some ⟨oc3, od3, .func (PySem.W.fnOf d3.nm d3.nm (defArgs st3) (defBody st3) (defScope st3) .none kV3 dc3 pm3 an3 cd3 ct3), sl3⟩)
    (c3_ : PySem.W.codeIn K cd3 d3.nm = true)
    (k3_ : PySem.W.keepIn K (.ref f3) = true)
    (a4 : PySem.W.nsIn K mainGlobals d4.nm = some (some (.ref f4)))
    (l4 : K.lookup f4 = some ⟨oc4, od4, .func (PySem.W.fnOf d4.nm d4.nm (defArgs st4) (defBody st4) (defScope st4) .none kV4 dc4 pm4 an4 cd4 ct4), sl4⟩)
    (c4_ : PySem.W.codeIn K cd4 d4.nm = true)
    (k4_ : PySem.W.keepIn K (.ref f4) = true)
    (a5 : PySem.W.nsIn K mainGlobals d5.nm = some (some (.ref f5)))
    (l5 : K.lookup f5 = some ⟨oc5, od5, .func (PySem.W.fnOf d5.nm d5.nm (defArgs st5) (defBody st5) (defScope st5) .none kV5 dc5 pm5 an5 cd5 ct5), sl5⟩)
    (c5_ : PySem.W.codeIn K cd5 d5.nm = true)
    (k5_ : PySem.W.keepIn K (.ref f5) = true)
    (a6 : PySem.W.nsIn K mainGlobals d6.nm = some (some (.ref f6)))
    (l6 : K.lookup f6 = some ⟨oc6, od6, .func (PySem.W.fnOf d6.nm d6.nm (defArgs st6) (defBody st6) (defScope st6) .none kV6 dc6 pm6 an6 cd6 ct6), sl6⟩)
    (c6_ : PySem.W.codeIn K cd6 d6.nm = true)
    (k6_ : PySem.W.keepIn K (.ref f6) = true)
    (a7 : PySem.W.nsIn K mainGlobals d7.nm = some (some (.ref f7)))
    (l7 : K.lookup f7 = some ⟨oc7, od7, .func (PySem.W.fnOf d7.nm d7.nm (defArgs st7) (defBody st7) (defScope st7) .none kV7 dc7 pm7 an7 cd7 ct7), sl7⟩)
    (c7_ : PySem.W.codeIn K cd7 d7.nm = true)
    (k7_ : PySem.W.keepIn K (.ref f7) = true)
    (a8 : PySem.W.nsIn K mainGlobals d8.nm = some (some (.ref f8)))
    (l8 : K.lookup f8 = some ⟨oc8, od8, .func (PySem.W.fnOf d8.nm d8.nm (defArgs st8) (defBody st8) (defScope st8) .none kV8 dc8 pm8 an8 cd8 ct8), sl8⟩)
    (c8_ : PySem.W.codeIn K cd8 d8.nm = true)
    (k8_ : PySem.W.keepIn K (.ref f8) = true)
    (a9 : PySem.W.nsIn K mainGlobals d9.nm = some (some (.ref f9)))
    (l9 : K.lookup f9 = some ⟨oc9, od9, .func (PySem.W.fnOf d9.nm d9.nm (defArgs st9) (defBody st9) (defScope st9) .none kV9 dc9 pm9 an9 cd9 ct9), sl9⟩)
    (c9_ : PySem.W.codeIn K cd9 d9.nm = true)
    (k9_ : PySem.W.keepIn K (.ref f9) = true)
    (a10 : PySem.W.nsIn K mainGlobals d10.nm = some (some (.ref f10)))
    (l10 : K.lookup f10 = some ⟨oc10, od10, .func (PySem.W.fnOf d10.nm d10.nm (defArgs st10) (defBody st10) (defScope st10) .none kV10 dc10 pm10 an10 cd10 ct10), sl10⟩)
    (c10_ : PySem.W.codeIn K cd10 d10.nm = true)
    (k10_ : PySem.W.keepIn K (.ref f10) = true)
    (a11 : PySem.W.nsIn K mainGlobals d11.nm = some (some (.ref f11)))
    (l11 : K.lookup f11 = some ⟨oc11, od11, .func (PySem.W.fnOf d11.nm d11.nm (defArgs st11) (defBody st11) (defScope st11) .none kV11 dc11 pm11 an11 cd11 ct11), sl11⟩)
    (c11_ : PySem.W.codeIn K cd11 d11.nm = true)
    (k11_ : PySem.W.keepIn K (.ref f11) = true)
    (a12 : PySem.W.nsIn K mainGlobals d12.nm = some (some (.ref f12)))
    (l12 : K.lookup f12 = some ⟨oc12, od12, .func (PySem.W.fnOf d12.nm d12.nm (defArgs st12) (defBody st12) (defScope st12) .none kV12 dc12 pm12 an12 cd12 ct12), sl12⟩)
    (c12_ : PySem.W.codeIn K cd12 d12.nm = true)
    (k12_ : PySem.W.keepIn K (.ref f12) = true)
    (a13 : PySem.W.nsIn K mainGlobals d13.nm = some (some (.ref f13)))
    (l13 : K.lookup f13 = some ⟨oc13, od13, .func (PySem.W.fnOf d13.nm d13.nm (defArgs st13) (defBody st13) (defScope st13) .none kV13 dc13 pm13 an13 cd13 ct13), sl13⟩)
    (c13_ : PySem.W.codeIn K cd13 d13.nm = true)
    (k13_ : PySem.W.keepIn K (.ref f13) = true)
    (a14 : PySem.W.nsIn K mainGlobals d14.nm = some (some (.ref f14)))
    (l14 : K.lookup f14 = some ⟨oc14, od14, .func (PySem.W.fnOf d14.nm d14.nm (defArgs st14) (defBody st14) (defScope st14) .none kV14 dc14 pm14 an14 cd14 ct14), sl14⟩)
    (c14_ : PySem.W.codeIn K cd14 d14.nm = true)
    (k14_ : PySem.W.keepIn K (.ref f14) = true)
    (a15 : PySem.W.nsIn K mainGlobals d15.nm = some (some (.ref f15)))
    (l15 : K.lookup f15 = some ⟨oc15, od15, .func (PySem.W.fnOf d15.nm d15.nm (defArgs st15) (defBody st15) (defScope st15) .none kV15 dc15 pm15 an15 cd15 ct15), sl15⟩)
    (c15_ : PySem.W.codeIn K cd15 d15.nm = true)
    (k15_ : PySem.W.keepIn K (.ref f15) = true)
    (a16 : PySem.W.nsIn K mainGlobals d16.nm = some (some (.ref f16)))
    (l16 : K.lookup f16 = some ⟨oc16, od16, .func (PySem.W.fnOf d16.nm d16.nm (defArgs st16) (defBody st16) (defScope st16) .none kV16 dc16 pm16 an16 cd16 ct16), sl16⟩)
    (c16_ : PySem.W.codeIn K cd16 d16.nm = true)
    (k16_ : PySem.W.keepIn K (.ref f16) = true)
    (a17 : PySem.W.nsIn K mainGlobals d17.nm = some (some (.ref f17)))
    (l17 : K.lookup f17 = some ⟨oc17, od17, .func (PySem.W.fnOf d17.nm d17.nm (defArgs st17) (defBody st17) (defScope st17) .none kV17 dc17 pm17 an17 cd17 ct17), sl17⟩)
    (c17_ : PySem.W.codeIn K cd17 d17.nm = true)
    (k17_ : PySem.W.keepIn K (.ref f17) = true)
    (a18 : PySem.W.nsIn K mainGlobals d18.nm = some (some (.ref f18)))
    (l18 : K.lookup f18 = some ⟨oc18, od18, .func (PySem.W.fnOf d18.nm d18.nm (defArgs st18) (defBody st18) (defScope st18) .none kV18 dc18 pm18 an18 cd18 ct18), sl18⟩)
    (c18_ : PySem.W.codeIn K cd18 d18.nm = true)
    (k18_ : PySem.W.keepIn K (.ref f18) = true)
    (a19 : PySem.W.nsIn K mainGlobals d19.nm = some (some (.ref f19)))
    (l19 : K.lookup f19 = some ⟨oc19, od19, .func (PySem.W.fnOf d19.nm d19.nm (defArgs st19) (defBody st19) (defScope st19) .none kV19 dc19 pm19 an19 cd19 ct19), sl19⟩)
    (c19_ : PySem.W.codeIn K cd19 d19.nm = true)
    (k19_ : PySem.W.keepIn K (.ref f19) = true)
    (a20 : PySem.W.nsIn K mainGlobals d20.nm = some (some (.ref f20)))
    (l20 : K.lookup f20 = some ⟨oc20, od20, .func (PySem.W.fnOf d20.nm d20.nm (defArgs st20) (defBody st20) (defScope st20) .none kV20 dc20 pm20 an20 cd20 ct20), sl20⟩)
    (c20_ : PySem.W.codeIn K cd20 d20.nm = true)
    (k20_ : PySem.W.keepIn K (.ref f20) = true)
    (a21 : PySem.W.nsIn K mainGlobals d21.nm = some (some (.ref f21)))
    (l21 : K.lookup f21 = some ⟨oc21, od21, .func (PySem.W.fnOf d21.nm d21.nm (defArgs st21) (defBody st21) (defScope st21) .none kV21 dc21 pm21 an21 cd21 ct21), sl21⟩)
    (c21_ : PySem.W.codeIn K cd21 d21.nm = true)
    (k21_ : PySem.W.keepIn K (.ref f21) = true)
    (a22 : PySem.W.nsIn K mainGlobals d22.nm = some (some (.ref f22)))
    (l22 : K.lookup f22 = some ⟨oc22, od22, .func (PySem.W.fnOf d22.nm d22.nm (defArgs st22) (defBody st22) (defScope st22) .none kV22 dc22 pm22 an22 cd22 ct22), sl22⟩)
    (c22_ : PySem.W.codeIn K cd22 d22.nm = true)
    (k22_ : PySem.W.keepIn K (.ref f22) = true)
    (a23 : PySem.W.nsIn K mainGlobals d23.nm = some (some (.ref f23)))
    (l23 : K.lookup f23 = some ⟨oc23, od23, .func (PySem.W.fnOf d23.nm d23.nm (defArgs st23) (defBody st23) (defScope st23) .none kV23 dc23 pm23 an23 cd23 ct23), sl23⟩)
    (c23_ : PySem.W.codeIn K cd23 d23.nm = true)
    (k23_ : PySem.W.keepIn K (.ref f23) = true)
    (a24 : PySem.W.nsIn K mainGlobals d24.nm = some (some (.ref f24)))
    (l24 : K.lookup f24 = some ⟨oc24, od24, .func (PySem.W.fnOf d24.nm d24.nm (defArgs st24) (defBody st24) (defScope st24) .none kV24 dc24 pm24 an24 cd24 ct24), sl24⟩)
    (c24_ : PySem.W.codeIn K cd24 d24.nm = true)
    (k24_ : PySem.W.keepIn K (.ref f24) = true)
    (a25 : PySem.W.nsIn K mainGlobals d25.nm = some (some (.ref f25)))
    (l25 : K.lookup f25 = some ⟨oc25, od25, .func (PySem.W.fnOf d25.nm d25.nm (defArgs st25) (defBody st25) (defScope st25) .none kV25 dc25 pm25 an25 cd25 ct25), sl25⟩)
    (c25_ : PySem.W.codeIn K cd25 d25.nm = true)
    (k25_ : PySem.W.keepIn K (.ref f25) = true)
    (a26 : PySem.W.nsIn K mainGlobals d26.nm = some (some (.ref f26)))
    (l26 : K.lookup f26 = some ⟨oc26, od26, .func (PySem.W.fnOf d26.nm d26.nm (defArgs st26) (defBody st26) (defScope st26) .none kV26 dc26 pm26 an26 cd26 ct26), sl26⟩)
    (c26_ : PySem.W.codeIn K cd26 d26.nm = true)
    (k26_ : PySem.W.keepIn K (.ref f26) = true)
    (a27 : PySem.W.nsIn K mainGlobals d27.nm = some (some (.ref f27)))
    (l27 : K.lookup f27 = some ⟨oc27, od27, .func (PySem.W.fnOf d27.nm d27.nm (defArgs st27) (defBody st27) (defScope st27) .none kV27 dc27 pm27 an27 cd27 ct27), sl27⟩)
    (c27_ : PySem.W.codeIn K cd27 d27.nm = true)
    (k27_ : PySem.W.keepIn K (.ref f27) = true)
    (a28 : PySem.W.nsIn K mainGlobals d28.nm = some (some (.ref f28)))
    (l28 : K.lookup f28 = some ⟨oc28, od28, .func (PySem.W.fnOf d28.nm d28.nm (defArgs st28) (defBody st28) (defScope st28) .none kV28 dc28 pm28 an28 cd28 ct28), sl28⟩)
    (c28_ : PySem.W.codeIn K cd28 d28.nm = true)
    (k28_ : PySem.W.keepIn K (.ref f28) = true)
    {x0 : Addr}
    (eN0 : PySem.W.nsIn K mainGlobals "Unfit" = some (some (.ref x0)))
    (eK0 : PySem.W.keepIn K (.ref x0) = true)
    (eS0 : PySem.W.subIn K (.ref x0) (.type "BaseException") = some true)
    (eT0 : PySem.W.typeIn K (.ref x0) = some (.type "type"))
    (eD0 : PySem.W.hasDictIn K x0 = true)
    (eA0 : PySem.W.findIn K (.ref x0) "__getattribute__" = some (some (.builtin "BaseException.__getattribute__")))
    (eB0 : PySem.W.findIn K (.ref x0) "__getattr__" = some none)
    (eC0 : PySem.W.findIn K (.ref x0) "__class__" = some (some (.builtin "object.__class__")))
    (eM0 : PySem.W.mroIn K x0 (.type "object") = some true)
    (eX0 : PySem.W.excIn K x0 veB "ValueError.__new__" = true)
    {x1 : Addr}
    (eN1 : PySem.W.nsIn K mainGlobals "GridError" = some (some (.ref x1)))
    (eK1 : PySem.W.keepIn K (.ref x1) = true)
    (eS1 : PySem.W.subIn K (.ref x1) (.type "BaseException") = some true)
    (eT1 : PySem.W.typeIn K (.ref x1) = some (.type "type"))
    (eD1 : PySem.W.hasDictIn K x1 = true)
    (eA1 : PySem.W.findIn K (.ref x1) "__getattribute__" = some (some (.builtin "BaseException.__getattribute__")))
    (eB1 : PySem.W.findIn K (.ref x1) "__getattr__" = some none)
    (eC1 : PySem.W.findIn K (.ref x1) "__class__" = some (some (.builtin "object.__class__")))
    (eM1 : PySem.W.mroIn K x1 (.type "object") = some true)
    (eX1 : PySem.W.excIn K x1 veB "ValueError.__new__" = true)
    (gC : PySem.W.nsIn K mainGlobals "gcd" = some (some (.builtin "math.gcd")))
    (eG : PySem.W.specialIn K (.builtin "object.__class__") "__get__" = some (some (.builtin "getset_descriptor.__get__")))
    (eH : PySem.W.takesIn K (.builtin "object.__class__") = some true)
    (p0_0 : PySem.W.subIn K (.ref x0) (.ref x0) = some true)
    (p0_1 : PySem.W.subIn K (.ref x0) (.ref x1) = some true)
    (p1_0 : PySem.W.subIn K (.ref x1) (.ref x0) = some false)
    (p1_1 : PySem.W.subIn K (.ref x1) (.ref x1) = some true)
    (z : FreeAt K cf.free) (z0 : FreeAt K cf0.free) (k : IntsAt K cf.consts) (k0 : IntsAt K cf0.consts) :
    ∃ fd : FuncData, (∀ (s : Shared) (u : Value), BindsTo s fd ⟨[u], []⟩ [("script", u)]) ∧ ∀ b0 : Heap, K.In b0 → b0.Ns mainGlobals mg → LawG l.prog w K mg b0 (lvl + 2) fa fd "script" 63 := by
  have AL : DefAt K "law" stL [] fL := ⟨⟨_, _, _, _, _, _, _, _, _, _, aL, lL, cL_, kL_, .inl ⟨rfl, rfl⟩⟩⟩
  have AM : DefAt K mkN stM [] fM := ⟨⟨_, _, _, _, _, _, _, _, _, _, aM, lM, cM_, kM_, .inl ⟨rfl, rfl⟩⟩⟩
  have A0 : DefAt K d0.nm st0 [] f0 := ⟨⟨_, _, _, _, _, _, _, _, _, _, a0, l0, c0_, k0_, .inl ⟨rfl, rfl⟩⟩⟩
  have A1 : DefAt K d1.nm st1 [] f1 := ⟨⟨_, _, _, _, _, _, _, _, _, _, a1, l1, c1_, k1_, .inl ⟨rfl, rfl⟩⟩⟩
  have A2 : DefAt K d2.nm st2 [] f2 := ⟨⟨_, _, _, _, _, _, _, _, _, _, a2, l2, c2_, k2_, .inl ⟨rfl, rfl⟩⟩⟩
  have A3 : DefAt K d3.nm st3 [] f3 := ⟨⟨_, _, _, _, _, _, _, _, _, _, a3, l3, c3_, k3_, .inl ⟨rfl, rfl⟩⟩⟩
  have A4 : DefAt K d4.nm st4 [] f4 := ⟨⟨_, _, _, _, _, _, _, _, _, _, a4, l4, c4_, k4_, .inl ⟨rfl, rfl⟩⟩⟩
  have A5 : DefAt K d5.nm st5 [] f5 := ⟨⟨_, _, _, _, _, _, _, _, _, _, a5, l5, c5_, k5_, .inl ⟨rfl, rfl⟩⟩⟩
  have A6 : DefAt K d6.nm st6 [] f6 := ⟨⟨_, _, _, _, _, _, _, _, _, _, a6, l6, c6_, k6_, .inl ⟨rfl, rfl⟩⟩⟩
  have A7 : DefAt K d7.nm st7 [] f7 := ⟨⟨_, _, _, _, _, _, _, _, _, _, a7, l7, c7_, k7_, .inl ⟨rfl, rfl⟩⟩⟩
  have A8 : DefAt K d8.nm st8 [] f8 := ⟨⟨_, _, _, _, _, _, _, _, _, _, a8, l8, c8_, k8_, .inl ⟨rfl, rfl⟩⟩⟩
  have A9 : DefAt K d9.nm st9 [] f9 := ⟨⟨_, _, _, _, _, _, _, _, _, _, a9, l9, c9_, k9_, .inl ⟨rfl, rfl⟩⟩⟩
  have A10 : DefAt K d10.nm st10 [] f10 := ⟨⟨_, _, _, _, _, _, _, _, _, _, a10, l10, c10_, k10_, .inl ⟨rfl, rfl⟩⟩⟩
  have A11 : DefAt K d11.nm st11 [] f11 := ⟨⟨_, _, _, _, _, _, _, _, _, _, a11, l11, c11_, k11_, .inl ⟨rfl, rfl⟩⟩⟩
  have A12 : DefAt K d12.nm st12 [] f12 := ⟨⟨_, _, _, _, _, _, _, _, _, _, a12, l12, c12_, k12_, .inl ⟨rfl, rfl⟩⟩⟩
  have A13 : DefAt K d13.nm st13 [] f13 := ⟨⟨_, _, _, _, _, _, _, _, _, _, a13, l13, c13_, k13_, .inl ⟨rfl, rfl⟩⟩⟩
  have A14 : DefAt K d14.nm st14 [] f14 := ⟨⟨_, _, _, _, _, _, _, _, _, _, a14, l14, c14_, k14_, .inl ⟨rfl, rfl⟩⟩⟩
  have A15 : DefAt K d15.nm st15 [] f15 := ⟨⟨_, _, _, _, _, _, _, _, _, _, a15, l15, c15_, k15_, .inl ⟨rfl, rfl⟩⟩⟩
  have A16 : DefAt K d16.nm st16 [] f16 := ⟨⟨_, _, _, _, _, _, _, _, _, _, a16, l16, c16_, k16_, .inl ⟨rfl, rfl⟩⟩⟩
  have A17 : DefAt K d17.nm st17 [] f17 := ⟨⟨_, _, _, _, _, _, _, _, _, _, a17, l17, c17_, k17_, .inl ⟨rfl, rfl⟩⟩⟩
  have A18 : DefAt K d18.nm st18 [] f18 := ⟨⟨_, _, _, _, _, _, _, _, _, _, a18, l18, c18_, k18_, .inl ⟨rfl, rfl⟩⟩⟩
  have A19 : DefAt K d19.nm st19 [] f19 := ⟨⟨_, _, _, _, _, _, _, _, _, _, a19, l19, c19_, k19_, .inl ⟨rfl, rfl⟩⟩⟩
  have A20 : DefAt K d20.nm st20 [] f20 := ⟨⟨_, _, _, _, _, _, _, _, _, _, a20, l20, c20_, k20_, .inl ⟨rfl, rfl⟩⟩⟩
  have A21 : DefAt K d21.nm st21 [] f21 := ⟨⟨_, _, _, _, _, _, _, _, _, _, a21, l21, c21_, k21_, .inl ⟨rfl, rfl⟩⟩⟩
  have A22 : DefAt K d22.nm st22 [] f22 := ⟨⟨_, _, _, _, _, _, _, _, _, _, a22, l22, c22_, k22_, .inl ⟨rfl, rfl⟩⟩⟩
  have A23 : DefAt K d23.nm st23 [] f23 := ⟨⟨_, _, _, _, _, _, _, _, _, _, a23, l23, c23_, k23_, .inl ⟨rfl, rfl⟩⟩⟩
  have A24 : DefAt K d24.nm st24 [] f24 := ⟨⟨_, _, _, _, _, _, _, _, _, _, a24, l24, c24_, k24_, .inl ⟨rfl, rfl⟩⟩⟩
  have A25 : DefAt K d25.nm st25 [] f25 := ⟨⟨_, _, _, _, _, _, _, _, _, _, a25, l25, c25_, k25_, .inl ⟨rfl, rfl⟩⟩⟩
  have A26 : DefAt K d26.nm st26 [] f26 := ⟨⟨_, _, _, _, _, _, _, _, _, _, a26, l26, c26_, k26_, .inl ⟨rfl, rfl⟩⟩⟩
  have A27 : DefAt K d27.nm st27 [] f27 := ⟨⟨_, _, _, _, _, _, _, _, _, _, a27, l27, c27_, k27_, .inl ⟨rfl, rfl⟩⟩⟩
  have A28 : DefAt K d28.nm st28 [] f28 := ⟨⟨_, _, _, _, _, _, _, _, _, _, a28, l28, c28_, k28_, .inl ⟨rfl, rfl⟩⟩⟩
  have e := hfa.symm.trans (PySem.W.mg_of X Gn aL)
  cases e
  have D : DefsAt K cf [(d0, st0, f0), (d1, st1, f1), (d2, st2, f2), (d3, st3, f3), (d4, st4, f4), (d5, st5, f5), (d6, st6, f6), (d7, st7, f7), (d8, st8, f8), (d9, st9, f9), (d10, st10, f10), (d11, st11, f11), (d12, st12, f12), (d13, st13, f13), (d14, st14, f14), (d15, st15, f15), (d16, st16, f16), (d17, st17, f17), (d18, st18, f18), (d19, st19, f19), (d20, st20, f20), (d21, st21, f21), (d22, st22, f22), (d23, st23, f23), (d24, st24, f24), (d25, st25, f25), (d26, st26, f26), (d27, st27, f27), (d28, st28, f28)] := (.cons A0 c0 (.cons A1 c1 (.cons A2 c2 (.cons A3 c3 (.cons A4 c4 (.cons A5 c5 (.cons A6 c6 (.cons A7 c7 (.cons A8 c8 (.cons A9 c9 (.cons A10 c10 (.cons A11 c11 (.cons A12 c12 (.cons A13 c13 (.cons A14 c14 (.cons A15 c15 (.cons A16 c16 (.cons A17 c17 (.cons A18 c18 (.cons A19 c19 (.cons A20 c20 (.cons A21 c21 (.cons A22 c22 (.cons A23 c23 (.cons A24 c24 (.cons A25 c25 (.cons A26 c26 (.cons A27 c27 (.cons A28 c28 .nil)))))))))))))))))))))))))))))
  have E0 : ExcK l.prog K ("Unfit", none) x0 := ⟨eN0, eK0, eS0, eT0, eD0, eA0, eB0, eC0, eG, eH, eM0, fun _ => eX0, fun f h => (by cases h)⟩
  have E1 : ExcK l.prog K ("GridError", none) x1 := ⟨eN1, eK1, eS1, eT1, eD1, eA1, eB1, eC1, eG, eH, eM1, fun _ => eX1, fun f h => (by cases h)⟩
  have EX : ExcsK l.prog K cf.excs [x0, x1] := (.cons E0 (.cons E1 .nil))
  have SM : SubM K sub [x0, x1] 0 [x0, x1] := (.cons (.cons p0_0 (.cons p0_1 .nil)) (.cons (.cons p1_0 (.cons p1_1 .nil)) .nil))
  exact law_df (T := tbOf dfs sub) tbOf_ok (by decide) AL cL (facts_of X Gn z (fun _ => PySem.W.mg_of X Gn gC) k) rfl (fun dk h => by cases h; rfl) AM cM (facts_of X Gn z0 (fun h => by cases h) k0) (excF_of X Gn EX SM rfl) _ (hd_of D rfl rfl rfl) core
end G01
open PySem PySem.W PyProof.Rows
set_option maxHeartbeats 0 in
theorem PySem.Challenge.cw_gridfields_k01_whole_points_and_frames_holds : PySem.Challenge.rw_gridfields_k01_whole_points_and_frames.Holds := by
  w_on; o_law; k_head; (case hw => w_witness2)
  k_fill
  refine G.walk_g (l := PySem.Challenge.rw_gridfields_k01_whole_points_and_frames) (n := 63) (k := G01.lvl + 2) (x := "script") rfl (by decide) rfl ⟨rfl, by decide, by decide⟩ (fun w h Y => PySem.W.kIn_of Y) ?F
  case F =>
    intro w mg fa h KX Gm hmg
    refine' G01.all_mk KX Gm hmg ?aL ?lL ?cL_ ?kL_ ?aM ?lM ?cM_ ?kM_ ?a0 ?l0 ?c0_ ?k0_ ?a1 ?l1 ?c1_ ?k1_ ?a2 ?l2 ?c2_ ?k2_ ?a3 ?l3 ?c3_ ?k3_ ?a4 ?l4 ?c4_ ?k4_ ?a5 ?l5 ?c5_ ?k5_ ?a6 ?l6 ?c6_ ?k6_ ?a7 ?l7 ?c7_ ?k7_ ?a8 ?l8 ?c8_ ?k8_ ?a9 ?l9 ?c9_ ?k9_ ?a10 ?l10 ?c10_ ?k10_ ?a11 ?l11 ?c11_ ?k11_ ?a12 ?l12 ?c12_ ?k12_ ?a13 ?l13 ?c13_ ?k13_ ?a14 ?l14 ?c14_ ?k14_ ?a15 ?l15 ?c15_ ?k15_ ?a16 ?l16 ?c16_ ?k16_ ?a17 ?l17 ?c17_ ?k17_ ?a18 ?l18 ?c18_ ?k18_ ?a19 ?l19 ?c19_ ?k19_ ?a20 ?l20 ?c20_ ?k20_ ?a21 ?l21 ?c21_ ?k21_ ?a22 ?l22 ?c22_ ?k22_ ?a23 ?l23 ?c23_ ?k23_ ?a24 ?l24 ?c24_ ?k24_ ?a25 ?l25 ?c25_ ?k25_ ?a26 ?l26 ?c26_ ?k26_ ?a27 ?l27 ?c27_ ?k27_ ?a28 ?l28 ?c28_ ?k28_ ?eN0 ?eK0 ?eS0 ?eT0 ?eD0 ?eA0 ?eB0 ?eC0 ?eM0 ?eX0 ?eN1 ?eK1 ?eS1 ?eT1 ?eD1 ?eA1 ?eB1 ?eC1 ?eM1 ?eX1 ?gC ?eG ?eH ?p0_0 ?p0_1 ?p1_0 ?p1_1 ?zz ?zz0 ?kk ?kk0
    (case aL => k_is)
    (case lL => k_is)
    (case cL_ => k_is)
    (case kL_ => k_is)
    (case aM => k_is)
    (case lM => k_is)
    (case cM_ => k_is)
    (case kM_ => k_is)
    (case a0 => k_is)
    (case l0 => k_is)
    (case c0_ => k_is)
    (case k0_ => k_is)
    (case a1 => k_is)
    (case l1 => k_is)
    (case c1_ => k_is)
    (case k1_ => k_is)
    (case a2 => k_is)
    (case l2 => k_is)
    (case c2_ => k_is)
    (case k2_ => k_is)
    (case a3 => k_is)
    (case l3 => k_is)
    (case c3_ => k_is)
    (case k3_ => k_is)
    (case a4 => k_is)
    (case l4 => k_is)
    (case c4_ => k_is)
    (case k4_ => k_is)
    (case a5 => k_is)
    (case l5 => k_is)
    (case c5_ => k_is)
    (case k5_ => k_is)
    (case a6 => k_is)
    (case l6 => k_is)
    (case c6_ => k_is)
    (case k6_ => k_is)
    (case a7 => k_is)
    (case l7 => k_is)
    (case c7_ => k_is)
    (case k7_ => k_is)
    (case a8 => k_is)
    (case l8 => k_is)
    (case c8_ => k_is)
    (case k8_ => k_is)
    (case a9 => k_is)
    (case l9 => k_is)
    (case c9_ => k_is)
    (case k9_ => k_is)
    (case a10 => k_is)
    (case l10 => k_is)
    (case c10_ => k_is)
    (case k10_ => k_is)
    (case a11 => k_is)
    (case l11 => k_is)
    (case c11_ => k_is)
    (case k11_ => k_is)
    (case a12 => k_is)
    (case l12 => k_is)
    (case c12_ => k_is)
    (case k12_ => k_is)
    (case a13 => k_is)
    (case l13 => k_is)
    (case c13_ => k_is)
    (case k13_ => k_is)
    (case a14 => k_is)
    (case l14 => k_is)
    (case c14_ => k_is)
    (case k14_ => k_is)
    (case a15 => k_is)
    (case l15 => k_is)
    (case c15_ => k_is)
    (case k15_ => k_is)
    (case a16 => k_is)
    (case l16 => k_is)
    (case c16_ => k_is)
    (case k16_ => k_is)
    (case a17 => k_is)
    (case l17 => k_is)
    (case c17_ => k_is)
    (case k17_ => k_is)
    (case a18 => k_is)
    (case l18 => k_is)
    (case c18_ => k_is)
    (case k18_ => k_is)
    (case a19 => k_is)
    (case l19 => k_is)
    (case c19_ => k_is)
    (case k19_ => k_is)
    (case a20 => k_is)
    (case l20 => k_is)
    (case c20_ => k_is)
    (case k20_ => k_is)
    (case a21 => k_is)
    (case l21 => k_is)
    (case c21_ => k_is)
    (case k21_ => k_is)
    (case a22 => k_is)
    (case l22 => k_is)
    (case c22_ => k_is)
    (case k22_ => k_is)
    (case a23 => k_is)
    (case l23 => k_is)
    (case c23_ => k_is)
    (case k23_ => k_is)
    (case a24 => k_is)
    (case l24 => k_is)
    (case c24_ => k_is)
    (case k24_ => k_is)
    (case a25 => k_is)
    (case l25 => k_is)
    (case c25_ => k_is)
    (case k25_ => k_is)
    (case a26 => k_is)
    (case l26 => k_is)
    (case c26_ => k_is)
    (case k26_ => k_is)
    (case a27 => k_is)
    (case l27 => k_is)
    (case c27_ => k_is)
    (case k27_ => k_is)
    (case a28 => k_is)
    (case l28 => k_is)
    (case c28_ => k_is)
    (case k28_ => k_is)
    (case eN0 => k_is)
    (case eK0 => k_is)
    (case eS0 => k_is)
    (case eT0 => k_is)
    (case eD0 => k_is)
    (case eA0 => k_is)
    (case eB0 => k_is)
    (case eC0 => k_is)
    (case eM0 => k_is)
    (case eX0 => k_exc)
    (case eN1 => k_is)
    (case eK1 => k_is)
    (case eS1 => k_is)
    (case eT1 => k_is)
    (case eD1 => k_is)
    (case eA1 => k_is)
    (case eB1 => k_is)
    (case eC1 => k_is)
    (case eM1 => k_is)
    (case eX1 => k_exc)
    (case gC => k_is)
    (case eG => k_is)
    (case eH => k_is)
    (case p0_0 => k_is)
    (case p0_1 => k_is)
    (case p1_0 => k_is)
    (case p1_1 => k_is)
    (case zz => exact (.cons (by k_is) (.cons (by k_is) (.cons (by k_is) (.cons (by k_is) (.cons (by k_is) (.cons (by k_is) (.cons (by k_is) (.cons (by k_is) (.cons (by k_is) (.cons (by k_is) (.cons (by k_is) .nil))))))))))))
    (case zz0 => exact (.cons (by k_is) (.cons (by k_is) (.cons (by k_is) .nil))))
    (case kk => exact (.cons (by k_is) .nil))
    (case kk0 => exact .nil)

