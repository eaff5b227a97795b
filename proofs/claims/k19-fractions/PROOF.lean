import PyProof.Rows.All
import Wide.All
import OpenK.AllK
import Wide.FinOn
import HandS.ForMost
import HandS.ForExc
import HandS.Wide
import HandS.TupAny
import HandS.TupMul
import HandS.Style
import HandS.Deep
import HandS.Gcd
import HandS.IsInst
import HandS.SortInts
import HandS.WideBits
import HandS.RaiseMore
import HandS.Zip
import KE.KDictZip
import PyProof.ReprRoads
import PyProof.CallFns
import KE.GoesEnum
import KE.GoesMore
import HandS.Conv
import HandS.More
import KE.KExcSuper
import KE.KExcIs
import HandS.TryMany
import HandS.ExcIs
import HandS.ExcField
import HandS.Small
import HandS.Words
import HandS.Defaults
import HandS.Ends
import PySem.Challenge.RW_gridfields_k19_whole_nearest_fractions
set_option Elab.async false
set_option linter.all false
set_option maxRecDepth 100000
/-! Core: a small syntax over slots, and what it computes, over plain data. -/
namespace G
open PySem

abbrev D := PyData
/-- the token for the law's own random state -/
def JAR : D := .dict [(.none, .none)]
/-- the token for the script, as the def that makes the random state has it -/
abbrev SCR (ns : List Int) : D := .dict [(.none, .list (ns.map .int))]
/-- what an expression gives: plain data; a new list that nobody holds; the list that a slot owns -/
inductive Rz where
  | val (d : D) | new (ds : List D) | sl (i : Nat)
/-- a slot: empty; plain data; a list that it owns; a list of the law's random state -/
inductive Slot where
  | un | fz (d : D) | ow (ds : List D) | al (k : Sum Int Str)
/-- a list of the law's random state: where it is read -/
inductive Src where
  | fld (i : Nat) (k : Sum Int Str) | al (i : Nat)
/-- what the law's own random state holds: whole numbers, lists of them -/
abbrev Gh := List (Sum Int Str × D)
/-- the slots, and what the law's random state holds -/
structure En where
  s : List Slot
  g : Gh
def En.set (r : En) (i : Nat) (x : Slot) : En := { r with s := r.s.set i x }
def En.length (r : En) : Nat := r.s.length
def En.at (r : En) (g : Gh) : En := { r with g := g }
theorem En.length_set {r : En} {i : Nat} {x : Slot} : (r.set i x).length = r.length := List.length_set
def rd (r : En) (i : Nat) : Slot := r.s.getD i .un
structure Exn where
  cls : Nat
  arg : Option (Str × D)

inductive BO where | add | sub | mul | fdiv | mod | pow
inductive CO where | eq | ne | lt | le | gt | ge | isin | notin
inductive BI where | len | abs | min2 | max2 | min1 | max1 | sum | sorted | list | tuple | int | bool | repr | all | any | divmod | gcd | isTuple | isInt | isBool | isStr | isList | str

mutual
inductive Tg where
  | v (i : Nat) | t (ts : Tgs)
inductive Tgs where
  | nil | cons (t : Tg) (ts : Tgs)
end
mutual
inductive Ex where
  | v (i : Nat) | i (n : Int) | b (x : Bool) | n | s (x : Str) | g (x : Str) (n : Int)
  | tup (es : Exs) | lst (es : Exs)
  | bin (o : BO) (a b : Ex) | neg (a : Ex) | nt (a : Ex)
  | cmp (o : CO) (a b : Ex) | chain (o p : CO) (a b c : Ex) | isN (a : Ex) | notN (a : Ex)
  | and (a b : Ex) | or (a b : Ex) | ite (t : Ts) (a b : Ex)
  | ix (a i : Ex) | cut (a : Ex) (lo hi : Op) | rev (a : Ex)
  | call (f : Nat) (es : Exs) | callk (f : Nat) (es ks : Exs) (ps : List Nat)
  | bi (k : BI) (es : Exs)
  | comp (e : Ex) (t : Tg) (w : It) (c : Ts) (own : List (Str × Nat))
  | pop (i : Nat) | popA (i : Nat) (n : Int)
  | jg (i : Nat) (k : Sum Int Str) | jn (s : Src) | jp (s : Src) (b : Bool)
  | scut (i : Nat) (n : Int) | slen (i : Nat) | stp (a : Ex) (lo k : Nat)
  | calld (f : Nat) (es : Exs) (ns : List Int) | lw (w : It) | dct0
/-- tests -/
inductive Ts where
  | yes | and (a b : Ts) | or (a b : Ts) | nt (a : Ts) | e (a : Ex)
inductive Exs where
  | nil | cons (e : Ex) (es : Exs)
inductive Op where
  | no | so (e : Ex)
inductive It where
  | e (a : Ex) | r1 (a : Ex) | r2 (a b : Ex) | en (a : Ex) | zip (a b : Ex)
end
mutual
inductive St where
  | set (i : Nat) (e : Ex) | par (is : List Nat) (es : Exs) | unp (t : Tg) (e : Ex)
  | ret (e : Ex) | retN | drop (e : Ex)
  | ifs (t : Ts) (a b : Sts) | whl (t : Ts) (b : Sts) | fr (t : Tg) (w : It) (b : Sts)
  | app (i : Nat) (e : Ex) | ext (i : Nat) (e : Ex) | ins (i : Nat) (a e : Ex) | put (i : Nat) (a e : Ex)
  | ja (s : Src) (e : Ex) | ji (s : Src) (e : Ex) | js (i : Nat) (k : Sum Int Str) (e : Ex) | jl (j i : Nat) (k : Sum Int Str)
  | rais (c : Nat) (f : Option Str) (es : Exs) | pass | brk | cont | bomb
  | tri (b : Sts) (hs : Hds)
inductive Sts where
  | nil | cons (s : St) (ss : Sts)
/-- except clauses: the class, the slot of the name, what the suite does -/
inductive Hds where
  | nil | cons (c : Nat) (n : Option Nat) (u : Hu) (hs : Hds)
/-- a suite: return h; xs.append(h); if t: return h, then on -/
inductive Hu where
  | ret (h : Hx) | app (i : Nat) (h : Hx) | ifr (t h : Hx) (u : Hu)
/-- what a suite makes of the error -/
inductive Hx where
  | b (x : Bool) | s (x : Str) | i (n : Int) | n | fld (f : Str) | isA (cs : List Nat) | nt (a : Hx) | and (a b : Hx) | ite (t a b : Hx) | lst (hs : Hxs) | tup (hs : Hxs)
inductive Hxs where
  | nil | cons (e : Hx) (es : Hxs)
end

/-! ### the law's random state -/
def isJar : Slot → Bool
  | .fz (.dict [(.none, .none)]) => true | _ => false
def srcK (r : En) : Src → Option (Sum Int Str)
  | .fld i k => if isJar (rd r i) = true then some k else none
  | .al i => match rd r i with | .al k => some k | _ => none
def gget (g : Gh) (k : Sum Int Str) : Option D := (g.find? fun p => decide (p.1 = k)).map (·.2)
def gput (g : Gh) (k : Sum Int Str) (d : D) : Gh := g.map fun p => if p.1 = k then (p.1, d) else p

def srcL (r : En) (s : Src) : Bool :=
  match srcK r s with
  | some k => (match gget r.g k with | some (.list _) => true | _ => false)
  | none => false

/-! ### what values give -/
abbrev SZ : Nat := 16777216
def MulOk (i j : Int) : Prop := (-(2 ^ 64) < i ∧ i < 2 ^ 64) ∨ (-(2 ^ 64) < j ∧ j < 2 ^ 64) ∨ i.natAbs.log2 + j.natAbs.log2 < 1000000
def DivOk (j : Int) : Prop := (0 < j ∧ j.natAbs.log2 < 9000) ∨ (j ≠ 0 ∧ j.natAbs < 1073741824)
def asInts : List D → Option (List Int)
  | [] => some []
  | .int i :: r => (asInts r).map (i :: ·)
  | _ :: _ => none
def asBools : List D → Option (List Bool)
  | [] => some []
  | .bool i :: r => (asBools r).map (i :: ·)
  | _ :: _ => none
def isNon : D → Bool
  | .none => true | _ => false
def flatD : D → Bool
  | .none => true | .int _ => true | .bool _ => true | .str _ => true | _ => false
def shaped (d : D) : Prop := SeqAt.shaped d = true

def opW (o : BO) (a b : D) (K : Rz → Prop) : Prop :=
  match o with
  | .add => match a with
    | .int i => (match b with | .int j => K (.val (.int (i + j))) | _ => False)
    | .list x => (match b with | .list y => x.length + y.length ≤ SZ ∧ K (.new (x ++ y)) | _ => False)
    | .tuple x => (match b with | .tuple y => x.length + y.length ≤ SZ ∧ K (.val (.tuple (x ++ y))) | _ => False)
    | .str x => (match b with | .str y => x.length + y.length ≤ SZ ∧ K (.val (.str (x ++ y))) | _ => False)
    | _ => False
  | .sub => match a with
    | .int i => (match b with | .int j => K (.val (.int (i - j))) | _ => False)
    | _ => False
  | .mul => match a with
    | .int i => (match b with | .int j => MulOk i j ∧ K (.val (.int (i * j))) | _ => False)
    | .list x => (match b with | .int j => -(2 ^ 63) ≤ j ∧ j < 2 ^ 63 ∧ x.length * j.toNat ≤ SZ ∧ K (.new (List.replicate j.toNat x).flatten) | _ => False)
    | .tuple x => (match b with | .int j => x ≠ [] ∧ -(2 ^ 63) ≤ j ∧ j ≤ 1000 ∧ x.length ≤ 1000 ∧ K (.val (.tuple (List.replicate j.toNat x).flatten)) | _ => False)
    | _ => False
  | .fdiv => match a with
    | .int i => (match b with | .int j => DivOk j ∧ K (.val (.int (i.fdiv j))) | _ => False)
    | _ => False
  | .mod => match a with
    | .int i => (match b with | .int j => j ≠ 0 ∧ K (.val (.int (i.fmod j))) | _ => False)
    | _ => False
  | .pow => match a with
    | .int i => (match b with | .int j => (0 ≤ j ∧ j ≤ 1000000 ∧ i.natAbs < 2 ^ 64) ∧ K (.val (.int (i ^ j.toNat))) | _ => False)
    | _ => False

/-- == -/
def eqW (a b : D) (K : Bool → Prop) : Prop :=
  match a with
  | .int i => (match b with | .int j => K (decide (i = j)) | b => shaped b ∧ K (PyData.eqv (.int i) b))
  | .str x => (match b with | .str y => K (decide (x = y)) | b => shaped (.str x) ∧ shaped b ∧ K (PyData.eqv (.str x) b))
  | a => shaped a ∧ shaped b ∧ K (PyData.eqv a b)
def inD (x : D) (ys : List D) : Bool := ys.any fun y => PyData.eqv y x
def inW (a b : D) (K : Bool → Prop) : Prop :=
  match b with
  | .list ys => shaped a ∧ shaped (.list ys) ∧ K (inD a ys)
  | .tuple ys => flatD a = true ∧ ys.all flatD = true ∧ K (inD a ys)
  | _ => False
def ordW (fi : Int → Int → Bool) (ft : List Int → List Int → Bool) (a b : D) (K : Bool → Prop) : Prop :=
  match a with
  | .int i => (match b with | .int j => K (fi i j) | _ => False)
  | .tuple x => (match b with
    | .tuple y => (match asInts x with
      | some ns => (match asInts y with | some ms => K (ft ns ms) | none => False)
      | none => False)
    | _ => False)
  | _ => False
def cmpW (o : CO) (a b : D) (K : Bool → Prop) : Prop :=
  match o with
  | .eq => eqW a b K
  | .ne => eqW a b fun x => K (!x)
  | .lt => ordW (fun i j => decide (i < j)) HT.lexLt a b K
  | .le => (match a with | .int i => (match b with | .int j => K (decide (i ≤ j)) | _ => False) | _ => False)
  | .gt => (match a with | .int i => (match b with | .int j => K (decide (j < i)) | _ => False) | _ => False)
  | .ge => (match a with | .int i => (match b with | .int j => K (decide (j ≤ i)) | _ => False) | _ => False)
  | .isin => inW a b K
  | .notin => inW a b fun x => K (!x)
/-- truth -/
def truW (a : D) (K : Bool → Prop) : Prop :=
  match a with
  | .none => K false
  | .bool b => K b
  | .int i => K (i != 0)
  | .list x => K (!x.isEmpty)
  | .tuple x => K (!x.isEmpty)
  | _ => False
/-- a[i] -/
def atD (xs : List D) (i : Int) : Option D := L2.atI xs i
def ixW (a b : D) (K : D → Prop) : Prop :=
  match b with
  | .int i => (match a with
    | .list x => (match atD x i with | some d => K d | none => False)
    | .tuple x => (match atD x i with | some d => K d | none => False)
    | _ => False)
  | _ => False
def cutD (xs : List D) (lo hi : Option Int) : List D := (xs.drop (HT.sIx xs.length 0 lo)).take (HT.sIx xs.length xs.length hi - HT.sIx xs.length 0 lo)
/-- each k-th item from lo on -/
def stpL {α : Type} (xs : List α) (lo k : Nat) : List α :=
  (PySem.sliceRange (PySem.sliceBounds (some (lo : Int)) none (some (k : Int)) xs.length).1 (PySem.sliceBounds (some (lo : Int)) none (some (k : Int)) xs.length).2.1 (PySem.sliceBounds (some (lo : Int)) none (some (k : Int)) xs.length).2.2).filterMap (xs[·]?)
def isD (k : BI) (d : D) : Bool :=
  match k, d with
  | .isTuple, .tuple _ => true
  | .isInt, .int _ => true
  | .isInt, .bool _ => true
  | .isBool, .bool _ => true
  | .isStr, .str _ => true
  | .isList, .list _ => true
  | _, _ => false

/-- no dict in it, or the empty one -/
def ND (d : D) : Prop := d.hasDict = false ∨ d = .dict []
def biW (k : BI) (as : List D) (K : Rz → Prop) : Prop :=
  match k with
  | .len => (match as with
    | [.list x] => K (.val (.int (x.length : Int)))
    | [.tuple x] => K (.val (.int (x.length : Int)))
    | [.str x] => x.length ≤ SZ ∧ K (.val (.int (x.length : Int)))
    | _ => False)
  | .abs => (match as with | [.int i] => K (.val (.int (if i < 0 then -i else i))) | _ => False)
  | .min2 => (match as with | [.int i, .int j] => K (.val (.int (if j < i then j else i))) | _ => False)
  | .max2 => (match as with | [.int i, .int j] => K (.val (.int (if j > i then j else i))) | _ => False)
  | .min1 => (match as with
    | [.list x] => (match asInts x with | some ns => 0 < ns.length ∧ ∀ m, m ∈ ns → (∀ y, y ∈ ns → m ≤ y) → K (.val (.int m)) | none => False)
    | _ => False)
  | .max1 => (match as with
    | [.list x] => (match asInts x with | some ns => 0 < ns.length ∧ ∀ m, m ∈ ns → (∀ y, y ∈ ns → y ≤ m) → K (.val (.int m)) | none => False)
    | _ => False)
  | .sum => (match as with
    | [.list x] => (match asInts x with | some ns => K (.val (.int ns.sum)) | none => False)
    | _ => False)
  | .all => (match as with
    | [.list x] => (match asBools x with | some bs => K (.val (.bool (bs.all id))) | none => False)
    | _ => False)
  | .any => (match as with
    | [.list x] => (match asBools x with | some bs => K (.val (.bool (bs.any id))) | none => False)
    | _ => False)
  | .sorted => (match as with
    | [.list x] => (match asInts x with | some ns => ∀ ms : List Int, ms.Perm ns → ms.Pairwise (· ≤ ·) → K (.new (ms.map .int)) | none => False)
    | _ => False)
  | .list => (match as with | [.list x] => K (.new x) | [.tuple x] => K (.new x) | _ => False)
  | .tuple => (match as with | [.list x] => K (.val (.tuple x)) | [.tuple x] => K (.val (.tuple x)) | _ => False)
  | .int => (match as with | [.int i] => K (.val (.int i)) | [.bool b] => K (.val (.int (if b then 1 else 0))) | _ => False)
  | .bool => (match as with | [.int i] => K (.val (.bool (i != 0))) | [.bool b] => K (.val (.bool b)) | _ => False)
  | .repr => (match as with | [d] => d.showable = true ∧ d.depth ≤ 64 ∧ ND d ∧ d.shown.length ≤ SZ ∧ K (.val (.str d.shown)) | _ => False)
  | .divmod => (match as with | [.int i, .int j] => (0 < j ∧ (j < 1073741824 ∨ i.natAbs < 2 ^ 4000)) ∧ K (.val (.tuple [.int (i / j), .int (i % j)])) | _ => False)
  | .gcd => (match as with | [.int i, .int j] => K (.val (.int ((Nat.gcd i.natAbs j.natAbs : Nat) : Int))) | _ => False)
  | .str => (match as with | [.int i] => i.natAbs.log2 < 1920 ∧ K (.val (.str (toString i))) | _ => False)
  | k => (match as with | [d] => ND d ∧ K (.val (.bool (isD k d))) | _ => False)

/-! ### slots -/
def der (r : En) (x : Rz) (K : D → Prop) : Prop :=
  match x with
  | .val d => K d
  | .new ds => K (.list ds)
  | .sl i => match rd r i with | .ow ds => K (.list ds) | .fz d => K d | _ => False
/-- given up: from here on nobody changes it -/
def frz (r : En) (x : Rz) (K : D → En → Prop) : Prop :=
  match x with
  | .val d => K d r
  | .new ds => K (.list ds) r
  | .sl i => match rd r i with | .ow ds => K (.list ds) (r.set i (.fz (.list ds))) | .fz d => K d r | _ => False
/-- stored in a slot -/
def asg (i : Nat) (r : En) (x : Rz) (K : En → Prop) : Prop :=
  match x with
  | .val d => K (r.set i (.fz d))
  | .new ds => K (r.set i (.ow ds))
  | .sl j => match rd r j with | .ow ds => K ((r.set j (.fz (.list ds))).set i (.fz (.list ds))) | .fz d => K (r.set i (.fz d)) | _ => False
mutual
def tgW : Tg → D → En → (En → Prop) → Prop
  | .v i, d, r, K => K (r.set i (.fz d))
  | .t ts, d, r, K => (match d with
    | .list x => tgsW ts x r K
    | .tuple x => tgsW ts x r K
    | _ => False)
def tgsW : Tgs → List D → En → (En → Prop) → Prop
  | .nil, ds, r, K => ds = [] ∧ K r
  | .cons t ts, ds, r, K => (match ds with
    | [] => False
    | d :: ds => tgW t d r fun r1 => tgsW ts ds r1 K)
end
def wipe (own : List (Str × Nat)) (r : En) : En :=
  match own with
  | [] => r
  | (_, i) :: o => (wipe o r).set i .un
def unwipe (own : List (Str × Nat)) (r0 r : En) : En :=
  match own with
  | [] => r
  | (_, i) :: o => (unwipe o r0 r).set i (rd r0 i)
def noOw (own : List (Str × Nat)) (r : En) : Bool :=
  match own with
  | [] => true
  | (_, i) :: o => (match rd r i with | .un => true | .fz _ => true | _ => false) && noOw o r
/-- a comprehension's turns -/
def turns (f : D → En → (Option D → En → Prop) → Prop) : List D → List D → En → (List D → En → Prop) → Prop
  | [], acc, r, K => K acc r
  | d :: ds, acc, r, K => f d r fun o r1 => (match o with | some x => turns f ds (acc ++ [x]) r1 K | none => turns f ds acc r1 K)
def enumD (ds : List D) : List D := ds.mapIdx fun i d => .tuple [.int (i : Int), d]
def zipD (xs ys : List D) : List D := List.zipWith (fun x y => .tuple [x, y]) xs ys
def rangeD (lo : Int) (n : Nat) : List D := (List.range n).map fun (i : Nat) => .int (lo + (i : Int))

/-- what is wanted of an error -/
abbrev XW := Exn → En → Prop
abbrev Calls := Nat → List D → Gh → (D → Gh → Prop) → (Exn → Gh → Prop) → Prop
def noX : XW := fun _ _ => False
section
variable (C : Calls)
mutual
def exW : Ex → En → (Rz → En → Prop) → XW → Prop
  | .v i, r, K, _ => (match rd r i with | .fz d => K (.val d) r | .ow _ => K (.sl i) r | _ => False)
  | .i n, r, K, _ => K (.val (.int n)) r
  | .b x, r, K, _ => K (.val (.bool x)) r
  | .n, r, K, _ => K (.val .none) r
  | .s x, r, K, _ => K (.val (.str x)) r
  | .g _ n, r, K, _ => K (.val (.int n)) r
  | .tup es, r, K, X => exsW es r (fun ds r1 => K (.val (.tuple ds)) r1) X
  | .lst es, r, K, X => exsW es r (fun ds r1 => K (.new ds) r1) X
  | .bin o a b, r, K, X => exW a r (fun x r1 => exW b r1 (fun y r2 => der r2 x fun d => der r2 y fun e => opW o d e fun z => K z r2) X) X
  | .neg a, r, K, X => exW a r (fun x r1 => der r1 x fun d => (match d with | .int i => K (.val (.int (-i))) r1 | _ => False)) X
  | .nt a, r, K, X => exW a r (fun x r1 => der r1 x fun d => truW d fun b => K (.val (.bool (!b))) r1) X
  | .cmp o a b, r, K, X => exW a r (fun x r1 => exW b r1 (fun y r2 => der r2 x fun d => der r2 y fun e => cmpW o d e fun z => K (.val (.bool z)) r2) X) X
  | .chain o p a b c, r, K, X => exW a r (fun x r1 => exW b r1 (fun y r2 => der r2 x fun d => der r2 y fun e => cmpW o d e fun z =>
      if z = true then exW c r2 (fun w r3 => der r3 y fun e' => der r3 w fun f => cmpW p e' f fun z' => K (.val (.bool z')) r3) X else K (.val (.bool false)) r2) X) X
  | .isN a, r, K, X => exW a r (fun x r1 => der r1 x fun d => K (.val (.bool (isNon d))) r1) X
  | .notN a, r, K, X => exW a r (fun x r1 => der r1 x fun d => K (.val (.bool (!isNon d))) r1) X
  | .and a b, r, K, X => exW a r (fun x r1 => der r1 x fun d => (match d with | .bool c => (if c = true then exW b r1 K X else K (.val (.bool false)) r1) | _ => False)) X
  | .or a b, r, K, X => exW a r (fun x r1 => der r1 x fun d => (match d with | .bool c => (if c = true then K (.val (.bool true)) r1 else exW b r1 K X) | _ => False)) X
  | .ite t a b, r, K, X => tsW t r (fun c r1 => if c = true then exW a r1 K X else exW b r1 K X) X
  | .ix a i, r, K, X => exW a r (fun x r1 => exW i r1 (fun y r2 => der r2 x fun d => der r2 y fun e => ixW d e fun z => K (.val z) r2) X) X
  | .cut a lo hi, r, K, X => exW a r (fun x r1 => opwW lo r1 (fun l r2 => opwW hi r2 (fun h r3 => der r3 x fun d => (match d with
      | .list ds => K (.new (cutD ds l h)) r3
      | .tuple ds => K (.val (.tuple (cutD ds l h))) r3
      | _ => False)) X) X) X
  | .rev a, r, K, X => exW a r (fun x r1 => der r1 x fun d => (match d with | .list ds => K (.new ds.reverse) r1 | .tuple ds => K (.val (.tuple ds.reverse)) r1 | _ => False)) X
  | .call f es, r, K, X => exsW es r (fun ds r1 => C f ds r1.g (fun d g => K (.val d) (r1.at g)) (fun e g => X e (r1.at g))) X
  | .callk f es ks ps, r, K, X => exsW es r (fun ds r1 => exsW ks r1 (fun ws r2 => C f (ps.map fun p => (ds ++ ws).getD p .none) r2.g (fun d g => K (.val d) (r2.at g)) (fun e g => X e (r2.at g))) X) X
  | .bi k es, r, K, X => argsW es r (fun ds r1 => biW k ds fun z => K z r1) X
  | .comp e t w c own, r, K, X => itW w r (fun ds r1 => noOw own r1 = true ∧ turns (fun d r2 k => tgW t d r2 fun r3 => tsW c r3 (fun b r4 => if b = true then exW e r4 (fun x r5 => frz r5 x fun y r6 => k (some y) (wipe own r6)) noX else k none (wipe own r4)) noX) ds [] (wipe own r1) (fun ys r7 => K (.new ys) (unwipe own r1 r7))) X
  | .pop i, r, K, _ => (match rd r i with | .ow ds => (match ds.getLast? with | some d => K (.val d) (r.set i (.ow ds.dropLast)) | none => False) | _ => False)
  | .popA i n, r, K, _ => (match rd r i with | .ow ds => (match L2.ixN ds.length n with | some j => (-(2 ^ 63) ≤ n ∧ n < 2 ^ 63) ∧ K (.val (ds.getD j .none)) (r.set i (.ow (ds.eraseIdx j))) | none => False) | _ => False)
  | .jg i k, r, K, _ => isJar (rd r i) = true ∧ (match gget r.g k with | some (.int n) => K (.val (.int n)) r | _ => False)
  | .jn s, r, K, _ => (match srcK r s with | some k => (match gget r.g k with | some (.list ds) => K (.val (.bool (!ds.isEmpty))) r | _ => False) | none => False)
  | .scut i n, r, K, _ => (match rd r i with | .fz (.dict [(.none, .list ds)]) => K (.new (cutD ds none (some n))) r | _ => False)
  | .stp a lo k, r, K, X => exW a r (fun x r1 => der r1 x fun d => (match d with | .list ds => (stpL ds lo k).length ≤ SZ ∧ K (.new (stpL ds lo k)) r1 | _ => False)) X
  | .calld f es ns, r, K, X => exsW es r (fun ds r1 => C f (ds ++ ns.map .int) r1.g (fun d g => K (.val d) (r1.at g)) (fun e g => X e (r1.at g))) X
  | .lw w, r, K, X => itW w r (fun ds r1 => ds.length ≤ SZ ∧ K (.new ds) r1) X
  | .dct0, r, K, _ => K (.val (.dict [])) r
  | .slen i, r, K, _ => (match rd r i with | .fz (.dict [(.none, .list ds)]) => K (.val (.int (ds.length : Int))) r | _ => False)
  | .jp s b, r, K, _ => (match srcK r s with
    | some k => (match gget r.g k with
      | some (.list ds) => (match (if b = true then ds.head? else ds.getLast?) with
        | some d => K (.val d) (r.at (gput r.g k (.list (if b = true then ds.tail else ds.dropLast))))
        | none => False)
      | _ => False)
    | none => False)
/-- as a test -/
def tsW : Ts → En → (Bool → En → Prop) → XW → Prop
  | .yes, r, K, _ => K true r
  | .and a b, r, K, X => tsW a r (fun c r1 => if c = true then tsW b r1 K X else K false r1) X
  | .or a b, r, K, X => tsW a r (fun c r1 => if c = true then K true r1 else tsW b r1 K X) X
  | .nt a, r, K, X => tsW a r (fun c r1 => K (!c) r1) X
  | .e a, r, K, X => exW a r (fun x r1 => der r1 x fun d => truW d fun b => K b r1) X
/-- given up, one by one -/
def exsW : Exs → En → (List D → En → Prop) → XW → Prop
  | .nil, r, K, _ => K [] r
  | .cons e es, r, K, X => exW e r (fun x r1 => frz r1 x fun d r2 => exsW es r2 (fun ds r3 => K (d :: ds) r3) X) X
/-- read, one by one -/
def argsW : Exs → En → (List D → En → Prop) → XW → Prop
  | .nil, r, K, _ => K [] r
  | .cons e es, r, K, X => exW e r (fun x r1 => argsW es r1 (fun ds r3 => der r3 x fun d => K (d :: ds) r3) X) X
def opwW : Op → En → (Option Int → En → Prop) → XW → Prop
  | .no, r, K, _ => K none r
  | .so e, r, K, X => exW e r (fun x r1 => der r1 x fun d => (match d with | .int i => K (some i) r1 | _ => False)) X
def itW : It → En → (List D → En → Prop) → XW → Prop
  | .e a, r, K, X => exW a r (fun x r1 => frz r1 x fun d r2 => (match d with | .list ds => K ds r2 | .tuple ds => K ds r2 | _ => False)) X
  | .r1 a, r, K, X => exW a r (fun x r1 => der r1 x fun d => (match d with | .int j => (-(2 ^ 62) ≤ j ∧ j ≤ SZ) ∧ K (rangeD 0 j.toNat) r1 | _ => False)) X
  | .r2 a b, r, K, X => exW a r (fun x r1 => exW b r1 (fun y r2 => der r2 x fun d => der r2 y fun e => (match d with
      | .int i => (match e with | .int j => (-(2 ^ 62) ≤ i ∧ i < 2 ^ 62 ∧ -(2 ^ 62) ≤ j ∧ j < 2 ^ 62 ∧ j - i ≤ SZ) ∧ K (rangeD i (j - i).toNat) r2 | _ => False)
      | _ => False)) X) X
  | .en a, r, K, X => exW a r (fun x r1 => frz r1 x fun d r2 => (match d with | .list ds => K (enumD ds) r2 | .tuple ds => K (enumD ds) r2 | _ => False)) X
  | .zip a b, r, K, X => exW a r (fun x r1 => frz r1 x fun d r2 => exW b r2 (fun y r3 => frz r3 y fun e r4 => (match d with
      | .list xs => (match e with | .list ys => K (zipD xs ys) r4 | _ => False)
      | .tuple xs => (match e with | .tuple ys => K (zipD xs ys) r4 | _ => False)
      | _ => False)) X) X
end
end
end G

set_option linter.all false
set_option maxRecDepth 100000
namespace G
open PySem

structure Ks where
  nx : En → Prop
  rt : D → En → Prop
  bk : En → Prop
  ct : En → Prop
  ex : XW
def forL (f : D → En → (En → Prop) → Prop) (nx : En → Prop) : List D → En → Prop
  | [], r => nx r
  | d :: ds, r => f d r fun r1 => forL f nx ds r1
def whlW (t : En → (Bool → En → Prop) → Prop) (b : En → (En → Prop) → Prop) (nx : En → Prop) (r : En) : Prop :=
  ∃ W : Nat → En → Prop, (∃ m, W m r) ∧ ∀ m r, W m r → t r fun c r1 => if c = true then b r1 fun r2 => ∃ m', m' < m ∧ W m' r2 else nx r1
/-- the values of a display, stored one by one -/
def frzS (r : En) (x : Rz) (K : Rz → En → Prop) : Prop :=
  match x with
  | .val d => K (.val d) r
  | .new ds => K (.new ds) r
  | .sl i => frz r (.sl i) fun d r1 => K (.val d) r1
/-- what an error keeps -/
def raisA : Option Str → List D → Option (Str × D)
  | some f, [d] => some (f, d)
  | _, _ => none
def isOw : Slot → Bool | .ow _ => true | _ => false
def rsW (C : Calls) : Exs → En → (List Rz → En → Prop) → XW → Prop
  | .nil, r, K, _ => K [] r
  | .cons e es, r, K, X => exW C e r (fun x r1 => frzS r1 x fun y r2 => rsW C es r2 (fun xs r3 => K (y :: xs) r3) X) X
def asgs : List Nat → List Rz → En → (En → Prop) → Prop
  | [], [], r, K => K r
  | i :: is, x :: xs, r, K => asg i r x fun r1 => asgs is xs r1 K
  | _, _, _, _ => False
mutual
def hxW (S : Nat → Nat → Bool) (e : Exn) : Hx → (D → Prop) → Prop
  | .b x, K => K (.bool x)
  | .s x, K => K (.str x)
  | .i n, K => K (.int n)
  | .n, K => K .none
  | .fld f, K => (match e.arg with | some d => d.1 = f ∧ K d.2 | none => False)
  | .isA cs, K => K (.bool (cs.any fun c => S e.cls c))
  | .nt a, K => hxW S e a fun d => (match d with | .bool b => K (.bool (!b)) | _ => False)
  | .and a b, K => hxW S e a fun d => (match d with | .bool c => (if c = true then hxW S e b K else K (.bool false)) | _ => False)
  | .ite t a b, K => hxW S e t fun d => (match d with | .bool c => (if c = true then hxW S e a K else hxW S e b K) | _ => False)
  | .lst hs, K => hxsW S e hs fun ds => K (.list ds)
  | .tup hs, K => hxsW S e hs fun ds => K (.tuple ds)
def hxsW (S : Nat → Nat → Bool) (e : Exn) : Hxs → (List D → Prop) → Prop
  | .nil, K => K []
  | .cons h hs, K => hxW S e h fun d => hxsW S e hs fun ds => K (d :: ds)
end
def huW (S : Nat → Nat → Bool) (K : Ks) (e : Exn) (r : En) : Hu → Prop
  | .ret h => hxW S e h fun d => K.rt d r
  | .app i h => hxW S e h fun d => (match rd r i with | .ow ds => ds.length < SZ ∧ K.nx (r.set i (.ow (ds ++ [d]))) | _ => False)
  | .ifr t h u => hxW S e t fun d => (match d with | .bool b => (if b = true then hxW S e h fun d => K.rt d r else huW S K e r u) | _ => False)
def unN (r : En) : Option Nat → En
  | some i => r.set i .un
  | none => r
def hdW (S : Nat → Nat → Bool) (K : Ks) (e : Exn) (r : En) : Hds → Prop
  | .nil => K.ex e r
  | .cons c n u hs => if S e.cls c = true then huW S K e (unN r n) u else hdW S K e r hs

section
variable (C : Calls) (S : Nat → Nat → Bool)
mutual
def stW : St → En → Ks → Prop
  | .set i e, r, K => exW C e r (fun x r1 => asg i r1 x K.nx) K.ex
  | .par is es, r, K => rsW C es r (fun xs r1 => asgs is xs r1 K.nx) K.ex
  | .unp t e, r, K => exW C e r (fun x r1 => frz r1 x fun d r2 => tgW t d r2 K.nx) K.ex
  | .ret e, r, K => exW C e r (fun x r1 => frz r1 x fun d r2 => K.rt d r2) K.ex
  | .retN, r, K => K.rt .none r
  | .drop e, r, K => exW C e r (fun _ r1 => K.nx r1) K.ex
  | .ifs t a b, r, K => tsW C t r (fun c r1 => if c = true then stsW a r1 K else stsW b r1 K) K.ex
  | .whl t b, r, K => whlW (fun r k => tsW C t r k K.ex) (fun r k => stsW b r { K with nx := k, ct := k, bk := K.nx }) K.nx r
  | .fr t w b, r, K => itW C w r (fun ds r1 => forL (fun d r k => tgW t d r fun r2 => stsW b r2 { K with nx := k, ct := k, bk := K.nx }) K.nx ds r1) K.ex
  | .app i e, r, K => isOw (rd r i) = true ∧ exW C e r (fun x r1 => frz r1 x fun d r2 => (match rd r2 i with | .ow ds => ds.length < SZ ∧ K.nx (r2.set i (.ow (ds ++ [d]))) | _ => False)) K.ex
  | .ext i e, r, K => isOw (rd r i) = true ∧ exW C e r (fun x r1 => frz r1 x fun d r2 => (match d with
      | .list xs => (match rd r2 i with | .ow ds => ds.length + xs.length ≤ SZ ∧ K.nx (r2.set i (.ow (ds ++ xs))) | _ => False)
      | _ => False)) K.ex
  | .ins i a e, r, K => isOw (rd r i) = true ∧ exW C a r (fun x r1 => der r1 x fun k => exW C e r1 (fun y r2 => frz r2 y fun d r3 => (match k with
      | .int j => (match rd r3 i with | .ow ds => (0 ≤ j ∧ j ≤ (ds.length : Int) ∧ ds.length < SZ) ∧ K.nx (r3.set i (.ow (ds.take j.toNat ++ d :: ds.drop j.toNat))) | _ => False)
      | _ => False)) K.ex) K.ex
  | .put i a e, r, K => isOw (rd r i) = true ∧ exW C e r (fun y r1 => frz r1 y fun d r2 => exW C a r2 (fun x r3 => der r3 x fun k => (match k with
      | .int j => (match rd r3 i with
        | .ow ds => (match L2.ixN ds.length j with | some m => K.nx (r3.set i (.ow (ds.set m d))) | none => False)
        | _ => False)
      | _ => False)) K.ex) K.ex
  | .ja s e, r, K => srcL r s = true ∧ exW C e r (fun x r1 => der r1 x fun d => (match d with
      | .int n => (match srcK r1 s with
        | some k => (match gget r1.g k with
          | some (.list ds) => ds.length < SZ ∧ K.nx (r1.at (gput r1.g k (.list (ds ++ [.int n]))))
          | _ => False)
        | none => False)
      | _ => False)) K.ex
  | .ji s e, r, K => srcL r s = true ∧ exW C e r (fun x r1 => der r1 x fun d => (match d with
      | .int n => (match srcK r1 s with
        | some k => (match gget r1.g k with
          | some (.list ds) => ds.length < SZ ∧ K.nx (r1.at (gput r1.g k (.list (.int n :: ds))))
          | _ => False)
        | none => False)
      | _ => False)) K.ex
  | .js i k e, r, K => exW C e r (fun x r1 => der r1 x fun d => (match d with
      | .int n => isJar (rd r1 i) = true ∧ (match gget r1.g k with
        | some (.int _) => K.nx (r1.at (gput r1.g k (.int n)))
        | _ => False)
      | _ => False)) K.ex
  | .jl j i k, r, K => isJar (rd r i) = true ∧ (match gget r.g k with | some (.list _) => K.nx (r.set j (.al k)) | _ => False)
  | .rais c f es, r, K => exsW C es r (fun ds r1 => K.ex ⟨c, raisA f ds⟩ r1) K.ex
  | .pass, r, K => K.nx r
  | .brk, r, K => K.bk r
  | .cont, r, K => K.ct r
  | .bomb, r, K => False
  | .tri b hs, r, K => stsW b r { K with ex := fun e r1 => hdW S K e r1 hs }
def stsW : Sts → En → Ks → Prop
  | .nil, r, K => K.nx r
  | .cons s ss, r, K => stW s r { K with nx := fun r1 => stsW ss r1 K }
end
end

/-- a def: its parameters, its slots, its body; or a def told by what it does -/
inductive Fn where
  | df (np ns : Nat) (b : Sts)
  | pr (P : List D → Gh → (D → Gh → Prop) → Prop)
structure Tb where
  fn : Nat → Option Fn
  sub : Nat → Nat → Bool
def startE (ns : Nat) (ds : List D) (g : Gh) : En := ⟨ds.map .fz ++ List.replicate (ns - ds.length) .un, g⟩
def callW (T : Tb) : Nat → Calls
  | 0 => fun _ _ _ _ _ => False
  | n + 1 => fun f ds g K X => match T.fn f with
    | some (.df np ns b) => ds.length = np ∧ stsW (callW T n) T.sub b (startE ns ds g) { nx := fun r => K .none r.g, rt := fun d r => K d r.g, bk := fun _ => False, ct := fun _ => False, ex := fun e r => X e r.g }
    | some (.pr P) => P ds g K
    | none => False

/-! ### what is wanted may grow -/
theorem opW_mono {o : BO} {a b : D} {K K' : Rz → Prop} (h : ∀ x, K x → K' x) : opW o a b K → opW o a b K' := by
  unfold opW
  cases o <;> dsimp only <;> (repeat' split) <;> intro q <;> first | exact q.elim | exact h _ q | exact ⟨q.1, h _ q.2⟩ | exact ⟨q.1, q.2.1, q.2.2.1, h _ q.2.2.2⟩ | exact ⟨q.1, q.2.1, q.2.2.1, q.2.2.2.1, h _ q.2.2.2.2⟩ | trivial
theorem eqW_mono {a b : D} {K K' : Bool → Prop} (h : ∀ x, K x → K' x) : eqW a b K → eqW a b K' := by
  unfold eqW
  (repeat' split) <;> intro q <;> first | exact h _ q | exact ⟨q.1, h _ q.2⟩ | exact ⟨q.1, q.2.1, h _ q.2.2⟩
theorem inW_mono {a b : D} {K K' : Bool → Prop} (h : ∀ x, K x → K' x) : inW a b K → inW a b K' := by
  unfold inW
  (repeat' split) <;> intro q <;> first | exact q.elim | exact ⟨q.1, q.2.1, h _ q.2.2⟩
theorem ordW_mono {fi : Int → Int → Bool} {ft : List Int → List Int → Bool} {a b : D} {K K' : Bool → Prop} (h : ∀ x, K x → K' x) : ordW fi ft a b K → ordW fi ft a b K' := by
  unfold ordW
  (repeat' split) <;> intro q <;> first | exact q.elim | exact h _ q
theorem cmpW_mono {o : CO} {a b : D} {K K' : Bool → Prop} (h : ∀ x, K x → K' x) : cmpW o a b K → cmpW o a b K' := by
  unfold cmpW
  cases o with
  | eq => exact eqW_mono h
  | ne => exact eqW_mono fun x => h _
  | lt => exact ordW_mono h
  | isin => exact inW_mono h
  | notin => exact inW_mono fun x => h _
  | _ => dsimp only; (repeat' split) <;> intro q <;> first | exact q.elim | exact h _ q
theorem truW_mono {a : D} {K K' : Bool → Prop} (h : ∀ x, K x → K' x) : truW a K → truW a K' := by
  unfold truW
  (repeat' split) <;> intro q <;> first | exact q.elim | exact h _ q
theorem ixW_mono {a b : D} {K K' : D → Prop} (h : ∀ x, K x → K' x) : ixW a b K → ixW a b K' := by
  unfold ixW
  (repeat' split) <;> intro q <;> first | exact q.elim | exact h _ q
theorem biW_mono {k : BI} {as : List D} {K K' : Rz → Prop} (h : ∀ x, K x → K' x) : biW k as K → biW k as K' := by
  unfold biW
  cases k <;> dsimp only <;> (repeat' split) <;> intro q <;> first
    | exact q.elim
    | exact h _ q
    | exact ⟨q.1, h _ q.2⟩
    | exact ⟨q.1, fun m h1 h2 => h _ (q.2 m h1 h2)⟩
    | exact fun m h1 h2 => h _ (q m h1 h2)
    | exact ⟨q.1, q.2.1, q.2.2.1, q.2.2.2.1, h _ q.2.2.2.2⟩
theorem der_mono {r : En} {x : Rz} {K K' : D → Prop} (h : ∀ d, K d → K' d) : der r x K → der r x K' := by
  unfold der
  (repeat' split) <;> intro q <;> first | exact q.elim | exact h _ q
theorem frz_mono {r : En} {x : Rz} {K K' : D → En → Prop} (h : ∀ d r, K d r → K' d r) : frz r x K → frz r x K' := by
  unfold frz
  (repeat' split) <;> intro q <;> first | exact q.elim | exact h _ _ q
theorem asg_mono {i : Nat} {r : En} {x : Rz} {K K' : En → Prop} (h : ∀ r, K r → K' r) : asg i r x K → asg i r x K' := by
  unfold asg
  (repeat' split) <;> intro q <;> first | exact q.elim | exact h _ q
theorem frzS_mono {r : En} {x : Rz} {K K' : Rz → En → Prop} (h : ∀ d r, K d r → K' d r) : frzS r x K → frzS r x K' := by
  unfold frzS
  split
  · exact h _ _
  · exact h _ _
  · exact frz_mono fun d r1 => h _ _
mutual
theorem tgW_mono : ∀ (t : Tg) {d : D} {r : En} {K K' : En → Prop}, (∀ r, K r → K' r) → tgW t d r K → tgW t d r K'
  | .v i, d, r, K, K', h => by unfold tgW; exact h _
  | .t ts, d, r, K, K', h => by
    unfold tgW
    split
    · exact tgsW_mono ts h
    · exact tgsW_mono ts h
    · exact id
theorem tgsW_mono : ∀ (t : Tgs) {d : List D} {r : En} {K K' : En → Prop}, (∀ r, K r → K' r) → tgsW t d r K → tgsW t d r K'
  | .nil, d, r, K, K', h => by unfold tgsW; exact fun q => ⟨q.1, h _ q.2⟩
  | .cons t ts, d, r, K, K', h => by
    unfold tgsW
    split
    · exact id
    · exact tgW_mono t fun r => tgsW_mono ts h
end
theorem turns_mono {f g : D → En → (Option D → En → Prop) → Prop} {K K' : List D → En → Prop} (hf : ∀ d r k k', (∀ o r, k o r → k' o r) → f d r k → g d r k') (h : ∀ x r, K x r → K' x r) :
    ∀ (ds acc : List D) (r : En), turns f ds acc r K → turns g ds acc r K'
  | [], acc, r => h acc r
  | d :: ds, acc, r => by
    unfold turns
    refine hf d r _ _ fun o r1 => ?_
    cases o with
    | some x => exact turns_mono hf h ds _ r1
    | none => exact turns_mono hf h ds _ r1
def CLe (C C' : Calls) : Prop := ∀ f ds g (K K' : D → Gh → Prop) (X X' : Exn → Gh → Prop), (∀ d g, K d g → K' d g) → (∀ e g, X e g → X' e g) → C f ds g K X → C' f ds g K' X'
abbrev CMono (C : Calls) : Prop := CLe C C
section
variable {C C' : Calls} (hC : CLe C C')
include hC
mutual
theorem exW_mono : ∀ (e : Ex) {r : En} {K K' : Rz → En → Prop} {X X' : XW}, (∀ x r, K x r → K' x r) → (∀ e r, X e r → X' e r) → exW C e r K X → exW C' e r K' X'
  | .v i, r, K, K', X, X', h, hx => by
    unfold exW; split <;> first | exact id | exact h _ _
  | .i n, r, K, K', X, X', h, hx => by unfold exW; exact h _ _
  | .b n, r, K, K', X, X', h, hx => by unfold exW; exact h _ _
  | .n, r, K, K', X, X', h, hx => by unfold exW; exact h _ _
  | .s n, r, K, K', X, X', h, hx => by unfold exW; exact h _ _
  | .g _ n, r, K, K', X, X', h, hx => by unfold exW; exact h _ _
  | .tup es, r, K, K', X, X', h, hx => by unfold exW; exact exsW_mono es (fun _ _ => h _ _) hx
  | .lst es, r, K, K', X, X', h, hx => by unfold exW; exact exsW_mono es (fun _ _ => h _ _) hx
  | .bin o a b, r, K, K', X, X', h, hx => by
    unfold exW; exact exW_mono a (fun x r1 => exW_mono b (fun y r2 => der_mono fun d => der_mono fun e => opW_mono fun z => h _ _) hx) hx
  | .neg a, r, K, K', X, X', h, hx => by
    unfold exW; exact exW_mono a (fun x r1 => der_mono fun d => by split <;> first | exact h _ _ | exact id) hx
  | .nt a, r, K, K', X, X', h, hx => by unfold exW; exact exW_mono a (fun x r1 => der_mono fun d => truW_mono fun b => h _ _) hx
  | .cmp o a b, r, K, K', X, X', h, hx => by
    unfold exW; exact exW_mono a (fun x r1 => exW_mono b (fun y r2 => der_mono fun d => der_mono fun e => cmpW_mono fun z => h _ _) hx) hx
  | .chain o p a b c, r, K, K', X, X', h, hx => by
    unfold exW; exact exW_mono a (fun x r1 => exW_mono b (fun y r2 => der_mono fun d => der_mono fun e => cmpW_mono fun z => by
      split
      · exact exW_mono c (fun w r3 => der_mono fun e' => der_mono fun f => cmpW_mono fun z' => h _ _) hx
      · exact h _ _) hx) hx
  | .isN a, r, K, K', X, X', h, hx => by unfold exW; exact exW_mono a (fun x r1 => der_mono fun d => h _ _) hx
  | .notN a, r, K, K', X, X', h, hx => by unfold exW; exact exW_mono a (fun x r1 => der_mono fun d => h _ _) hx
  | .and a b, r, K, K', X, X', h, hx => by
    unfold exW; exact exW_mono a (fun x r1 => der_mono fun d => by
      split
      · split
        · exact exW_mono b h hx
        · exact h _ _
      · exact id) hx
  | .or a b, r, K, K', X, X', h, hx => by
    unfold exW; exact exW_mono a (fun x r1 => der_mono fun d => by
      split
      · split
        · exact h _ _
        · exact exW_mono b h hx
      · exact id) hx
  | .ite t a b, r, K, K', X, X', h, hx => by
    unfold exW; exact tsW_mono t (fun c r1 => by
      split
      · exact exW_mono a h hx
      · exact exW_mono b h hx) hx
  | .ix a i, r, K, K', X, X', h, hx => by
    unfold exW; exact exW_mono a (fun x r1 => exW_mono i (fun y r2 => der_mono fun d => der_mono fun e => ixW_mono fun z => h _ _) hx) hx
  | .cut a lo hi, r, K, K', X, X', h, hx => by
    unfold exW; exact exW_mono a (fun x r1 => opwW_mono lo (fun l r2 => opwW_mono hi (fun u r3 => der_mono fun d => by
      split <;> first | exact h _ _ | exact id) hx) hx) hx
  | .rev a, r, K, K', X, X', h, hx => by
    unfold exW; exact exW_mono a (fun x r1 => der_mono fun d => by split <;> first | exact h _ _ | exact id) hx
  | .call f es, r, K, K', X, X', h, hx => by
    unfold exW; exact exsW_mono es (fun ds r1 => hC f ds _ _ _ _ _ (fun d g => h _ _) fun e g => hx _ _) hx
  | .callk f es ks ps, r, K, K', X, X', h, hx => by
    unfold exW; exact exsW_mono es (fun ds r1 => exsW_mono ks (fun ws r2 => hC f _ _ _ _ _ _ (fun d g => h _ _) fun e g => hx _ _) hx) hx
  | .bi k es, r, K, K', X, X', h, hx => by unfold exW; exact argsW_mono es (fun ds r1 => biW_mono fun z => h _ _) hx
  | .comp e t w c own, r, K, K', X, X', h, hx => by
    unfold exW
    refine itW_mono w (fun ds r1 q => ⟨q.1, turns_mono (fun d r2 k k' hk => ?_) (fun ys r7 => h _ _) _ _ _ q.2⟩) hx
    refine tgW_mono t fun r3 => tsW_mono c (fun b r4 => ?_) fun _ _ => id
    split
    · exact exW_mono e (fun x r5 => frz_mono fun y r6 => hk _ _) fun _ _ => id
    · exact hk _ _
  | .pop i, r, K, K', X, X', h, hx => by
    unfold exW
    split
    · split
      · exact h _ _
      · exact id
    · exact id
  | .popA i n, r, K, K', X, X', h, hx => by
    unfold exW
    split
    · split
      · exact fun q => ⟨q.1, h _ _ q.2⟩
      · exact id
    · exact id
  | .jg i k, r, K, K', X, X', h, hx => by
    unfold exW
    refine fun q => ⟨q.1, ?_⟩
    have q2 := q.2
    revert q2
    split
    · exact h _ _
    · exact id
  | .scut i n, r, K, K', X, X', h, hx => by
    unfold exW
    split <;> first | exact h _ _ | exact id
  | .stp a lo k, r, K, K', X, X', h, hx => by
    unfold exW; exact exW_mono a (fun x r1 => der_mono fun d => by split <;> first | exact fun q => ⟨q.1, h _ _ q.2⟩ | exact id) hx
  | .calld f es ns, r, K, K', X, X', h, hx => by
    unfold exW; exact exsW_mono es (fun ds r1 => hC f _ _ _ _ _ _ (fun d g => h _ _) fun e g => hx _ _) hx
  | .lw w, r, K, K', X, X', h, hx => by
    unfold exW; exact itW_mono w (fun ds r1 q => ⟨q.1, h _ _ q.2⟩) hx
  | .dct0, r, K, K', X, X', h, hx => by unfold exW; exact h _ _
  | .slen i, r, K, K', X, X', h, hx => by
    unfold exW
    split <;> first | exact h _ _ | exact id
  | .jn s, r, K, K', X, X', h, hx => by
    unfold exW
    split
    · split
      · exact h _ _
      · exact id
    · exact id
  | .jp s b, r, K, K', X, X', h, hx => by
    unfold exW
    split
    · split
      · split
        · exact h _ _
        · exact id
      · exact id
    · exact id
theorem tsW_mono : ∀ (e : Ts) {r : En} {K K' : Bool → En → Prop} {X X' : XW}, (∀ x r, K x r → K' x r) → (∀ e r, X e r → X' e r) → tsW C e r K X → tsW C' e r K' X'
  | .yes, r, K, K', X, X', h, hx => by unfold tsW; exact h _ _
  | .and a b, r, K, K', X, X', h, hx => by
    unfold tsW; exact tsW_mono a (fun c r1 => by
      split
      · exact tsW_mono b h hx
      · exact h _ _) hx
  | .or a b, r, K, K', X, X', h, hx => by
    unfold tsW; exact tsW_mono a (fun c r1 => by
      split
      · exact h _ _
      · exact tsW_mono b h hx) hx
  | .nt a, r, K, K', X, X', h, hx => by unfold tsW; exact tsW_mono a (fun c r1 => h _ _) hx
  | .e a, r, K, K', X, X', h, hx => by unfold tsW; exact exW_mono a (fun x r1 => der_mono fun d => truW_mono fun b => h _ _) hx
theorem exsW_mono : ∀ (e : Exs) {r : En} {K K' : List D → En → Prop} {X X' : XW}, (∀ x r, K x r → K' x r) → (∀ e r, X e r → X' e r) → exsW C e r K X → exsW C' e r K' X'
  | .nil, r, K, K', X, X', h, hx => by unfold exsW; exact h _ _
  | .cons e es, r, K, K', X, X', h, hx => by unfold exsW; exact exW_mono e (fun x r1 => frz_mono fun d r2 => exsW_mono es (fun ds r3 => h _ _) hx) hx
theorem argsW_mono : ∀ (e : Exs) {r : En} {K K' : List D → En → Prop} {X X' : XW}, (∀ x r, K x r → K' x r) → (∀ e r, X e r → X' e r) → argsW C e r K X → argsW C' e r K' X'
  | .nil, r, K, K', X, X', h, hx => by unfold argsW; exact h _ _
  | .cons e es, r, K, K', X, X', h, hx => by unfold argsW; exact exW_mono e (fun x r1 => argsW_mono es (fun ds r3 => der_mono fun d => h _ _) hx) hx
theorem opwW_mono : ∀ (e : Op) {r : En} {K K' : Option Int → En → Prop} {X X' : XW}, (∀ x r, K x r → K' x r) → (∀ e r, X e r → X' e r) → opwW C e r K X → opwW C' e r K' X'
  | .no, r, K, K', X, X', h, hx => by unfold opwW; exact h _ _
  | .so e, r, K, K', X, X', h, hx => by unfold opwW; exact exW_mono e (fun x r1 => der_mono fun d => by split <;> first | exact h _ _ | exact id) hx
theorem itW_mono : ∀ (e : It) {r : En} {K K' : List D → En → Prop} {X X' : XW}, (∀ x r, K x r → K' x r) → (∀ e r, X e r → X' e r) → itW C e r K X → itW C' e r K' X'
  | .e a, r, K, K', X, X', h, hx => by unfold itW; exact exW_mono a (fun x r1 => frz_mono fun d r2 => by split <;> first | exact h _ _ | exact id) hx
  | .r1 a, r, K, K', X, X', h, hx => by unfold itW; exact exW_mono a (fun x r1 => der_mono fun d => by split <;> first | exact fun q => ⟨q.1, h _ _ q.2⟩ | exact id) hx
  | .r2 a b, r, K, K', X, X', h, hx => by
    unfold itW; exact exW_mono a (fun x r1 => exW_mono b (fun y r2 => der_mono fun d => der_mono fun e => by
      split
      · split
        · exact fun q => ⟨q.1, h _ _ q.2⟩
        · exact id
      · exact id) hx) hx
  | .en a, r, K, K', X, X', h, hx => by unfold itW; exact exW_mono a (fun x r1 => frz_mono fun d r2 => by split <;> first | exact h _ _ | exact id) hx
  | .zip a b, r, K, K', X, X', h, hx => by
    unfold itW; exact exW_mono a (fun x r1 => frz_mono fun d r2 => exW_mono b (fun y r3 => frz_mono fun e r4 => by
      (repeat' split) <;> first | exact h _ _ | exact id) hx) hx
end
theorem rsW_mono : ∀ (e : Exs) {r : En} {K K' : List Rz → En → Prop} {X X' : XW}, (∀ x r, K x r → K' x r) → (∀ e r, X e r → X' e r) → rsW C e r K X → rsW C' e r K' X'
  | .nil, r, K, K', X, X', h, hx => by unfold rsW; exact h _ _
  | .cons e es, r, K, K', X, X', h, hx => by unfold rsW; exact exW_mono hC e (fun x r1 => frzS_mono fun y r2 => rsW_mono es (fun xs r2 => h _ _) hx) hx
end
structure Ks.Le (K K' : Ks) : Prop where
  nx : ∀ r, K.nx r → K'.nx r
  rt : ∀ d r, K.rt d r → K'.rt d r
  bk : ∀ r, K.bk r → K'.bk r
  ct : ∀ r, K.ct r → K'.ct r
  ex : ∀ e r, K.ex e r → K'.ex e r
theorem Ks.Le.loop {K K' : Ks} (h : K.Le K') {k k' : En → Prop} (hk : ∀ r, k r → k' r) : Ks.Le { K with nx := k, ct := k, bk := K.nx } { K' with nx := k', ct := k', bk := K'.nx } := ⟨hk, h.rt, h.nx, hk, h.ex⟩
theorem asgs_mono : ∀ (is : List Nat) (xs : List Rz) {r : En} {K K' : En → Prop}, (∀ r, K r → K' r) → asgs is xs r K → asgs is xs r K'
  | [], [], r, K, K', h => h _
  | i :: is, x :: xs, r, K, K', h => asg_mono fun r1 => asgs_mono is xs h
  | [], _ :: _, r, K, K', h => id
  | _ :: _, [], r, K, K', h => id
theorem forL_mono {f g : D → En → (En → Prop) → Prop} {K K' : En → Prop} (hf : ∀ d r k k', (∀ r, k r → k' r) → f d r k → g d r k') (h : ∀ r, K r → K' r) : ∀ (ds : List D) (r : En), forL f K ds r → forL g K' ds r
  | [], r => h r
  | d :: ds, r => hf d r _ _ fun r1 => forL_mono hf h ds r1
mutual
theorem hxW_mono {S : Nat → Nat → Bool} {e : Exn} : ∀ (x : Hx) {K K' : D → Prop}, (∀ d, K d → K' d) → hxW S e x K → hxW S e x K'
  | .b x, K, K', h => by unfold hxW; exact h _
  | .s x, K, K', h => by unfold hxW; exact h _
  | .i x, K, K', h => by unfold hxW; exact h _
  | .n, K, K', h => by unfold hxW; exact h _
  | .fld f, K, K', h => by unfold hxW; split <;> first | exact fun q => ⟨q.1, h _ q.2⟩ | exact id
  | .isA cs, K, K', h => by unfold hxW; exact h _
  | .nt a, K, K', h => by unfold hxW; exact hxW_mono a fun d => by split <;> first | exact h _ | exact id
  | .and a b, K, K', h => by
    unfold hxW; exact hxW_mono a fun d => by
      split
      · split
        · exact hxW_mono b h
        · exact h _
      · exact id
  | .ite t a b, K, K', h => by
    unfold hxW; exact hxW_mono t fun d => by
      split
      · split
        · exact hxW_mono a h
        · exact hxW_mono b h
      · exact id
  | .lst hs, K, K', h => by unfold hxW; exact hxsW_mono hs fun ds => h _
  | .tup hs, K, K', h => by unfold hxW; exact hxsW_mono hs fun ds => h _
theorem hxsW_mono {S : Nat → Nat → Bool} {e : Exn} : ∀ (x : Hxs) {K K' : List D → Prop}, (∀ d, K d → K' d) → hxsW S e x K → hxsW S e x K'
  | .nil, K, K', h => by unfold hxsW; exact h _
  | .cons x xs, K, K', h => by unfold hxsW; exact hxW_mono x fun d => hxsW_mono xs fun ds => h _
end
theorem huW_mono {S : Nat → Nat → Bool} {K K' : Ks} (h : K.Le K') {e : Exn} {r : En} : ∀ u : Hu, huW S K e r u → huW S K' e r u
  | .ret x => by unfold huW; exact hxW_mono x fun d => h.rt d r
  | .app i x => by unfold huW; exact hxW_mono x fun d => by split <;> first | exact fun q => ⟨q.1, h.nx _ q.2⟩ | exact id
  | .ifr t x u => by
    unfold huW; exact hxW_mono t fun d => by
      split
      · split
        · exact hxW_mono x fun d => h.rt d r
        · exact huW_mono h u
      · exact id
theorem hdW_mono {S : Nat → Nat → Bool} {K K' : Ks} (h : K.Le K') {e : Exn} {r : En} : ∀ hs : Hds, hdW S K e r hs → hdW S K' e r hs
  | .nil => by unfold hdW; exact h.ex _ _
  | .cons c n x hs => by
    unfold hdW; split
    · exact huW_mono h x
    · exact hdW_mono h hs
section
variable {C C' : Calls} (hC : CLe C C') {S : Nat → Nat → Bool}
include hC
theorem whlW_mono {t t' : En → (Bool → En → Prop) → Prop} {b b' : En → (En → Prop) → Prop} {K K' : En → Prop} (ht : ∀ r k k', (∀ c r, k c r → k' c r) → t r k → t' r k') (hb : ∀ r k k', (∀ r, k r → k' r) → b r k → b' r k')
    (h : ∀ r, K r → K' r) {r : En} : whlW t b K r → whlW t' b' K' r := by
  rintro ⟨W, hm, hW⟩
  refine ⟨W, hm, fun m r w => ht r _ _ (fun c r1 => ?_) (hW m r w)⟩
  split
  · exact hb _ _ _ fun _ => id
  · exact h _
mutual
theorem stW_mono : ∀ (s : St) {r : En} {K K' : Ks}, K.Le K' → stW C S s r K → stW C' S s r K'
  | .set i e, r, K, K', h => by unfold stW; exact exW_mono hC e (fun x r1 => asg_mono h.nx) h.ex
  | .par is es, r, K, K', h => by unfold stW; exact rsW_mono hC es (fun x r1 => asgs_mono _ _ h.nx) h.ex
  | .unp t e, r, K, K', h => by unfold stW; exact exW_mono hC e (fun x r1 => frz_mono fun d r2 => tgW_mono t h.nx) h.ex
  | .ret e, r, K, K', h => by unfold stW; exact exW_mono hC e (fun x r1 => frz_mono fun d r2 => h.rt _ _) h.ex
  | .retN, r, K, K', h => by unfold stW; exact h.rt _ _
  | .drop e, r, K, K', h => by unfold stW; exact exW_mono hC e (fun x r1 => h.nx _) h.ex
  | .ifs t a b, r, K, K', h => by
    unfold stW; exact tsW_mono hC t (fun c r1 => by
      split
      · exact stsW_mono a h
      · exact stsW_mono b h) h.ex
  | .whl t b, r, K, K', h => by
    unfold stW; exact whlW_mono hC (fun r k k' hk => tsW_mono hC t (r := r) hk h.ex) (fun r k k' hk => stsW_mono b (r := r) (h.loop hk)) h.nx
  | .fr t w b, r, K, K', h => by
    unfold stW; exact itW_mono hC w (fun ds r1 => forL_mono (fun d r k k' hk => tgW_mono t (d := d) (r := r) fun r2 => stsW_mono b (r := r2) (h.loop hk)) h.nx _ _) h.ex
  | .app i e, r, K, K', h => by
    unfold stW; exact fun q0 => ⟨q0.1, exW_mono hC e (fun x r1 => frz_mono fun d r2 => by split <;> first | exact fun q => ⟨q.1, h.nx _ q.2⟩ | exact id) h.ex q0.2⟩
  | .ext i e, r, K, K', h => by
    unfold stW; exact fun q0 => ⟨q0.1, exW_mono hC e (fun x r1 => frz_mono fun d r2 => by
      split
      · split <;> first | exact fun q => ⟨q.1, h.nx _ q.2⟩ | exact id
      · exact id) h.ex q0.2⟩
  | .ins i a e, r, K, K', h => by
    unfold stW; exact fun q0 => ⟨q0.1, exW_mono hC a (fun x r1 => der_mono fun k => exW_mono hC e (fun y r2 => frz_mono fun d r3 => by
      split
      · split <;> first | exact fun q => ⟨q.1, h.nx _ q.2⟩ | exact id
      · exact id) h.ex) h.ex q0.2⟩
  | .put i a e, r, K, K', h => by
    unfold stW; exact fun q0 => ⟨q0.1, exW_mono hC e (fun y r1 => frz_mono fun d r2 => exW_mono hC a (fun x r3 => der_mono fun k => by
      split
      · split
        · split <;> first | exact h.nx _ | exact id
        · exact id
      · exact id) h.ex) h.ex q0.2⟩
  | .ja s e, r, K, K', h => by
    unfold stW; exact fun q0 => ⟨q0.1, exW_mono hC e (fun x r1 => der_mono fun d => by
      split
      · split
        · split <;> first | exact fun q => ⟨q.1, h.nx _ q.2⟩ | exact id
        · exact id
      · exact id) h.ex q0.2⟩
  | .ji s e, r, K, K', h => by
    unfold stW; exact fun q0 => ⟨q0.1, exW_mono hC e (fun x r1 => der_mono fun d => by
      split
      · split
        · split <;> first | exact fun q => ⟨q.1, h.nx _ q.2⟩ | exact id
        · exact id
      · exact id) h.ex q0.2⟩
  | .js i k e, r, K, K', h => by
    unfold stW; exact exW_mono hC e (fun x r1 => der_mono fun d => by
      split
      · refine fun q => ⟨q.1, ?_⟩
        have q2 := q.2
        revert q2
        split
        · exact h.nx _
        · exact id
      · exact id) h.ex
  | .jl j i k, r, K, K', h => by
    unfold stW
    refine fun q => ⟨q.1, ?_⟩
    have q2 := q.2
    revert q2
    split
    · exact h.nx _
    · exact id
  | .rais c f es, r, K, K', h => by unfold stW; exact exsW_mono hC es (fun ds r1 => h.ex _ _) h.ex
  | .bomb, r, K, K', h => by unfold stW; exact id
  | .pass, r, K, K', h => by unfold stW; exact h.nx _
  | .brk, r, K, K', h => by unfold stW; exact h.bk _
  | .cont, r, K, K', h => by unfold stW; exact h.ct _
  | .tri b hs, r, K, K', h => by unfold stW; exact stsW_mono b ⟨h.nx, h.rt, h.bk, h.ct, fun e r1 => hdW_mono h hs⟩
theorem stsW_mono : ∀ (s : Sts) {r : En} {K K' : Ks}, K.Le K' → stsW C S s r K → stsW C' S s r K'
  | .nil, r, K, K', h => by unfold stsW; exact h.nx _
  | .cons s ss, r, K, K', h => by unfold stsW; exact stW_mono s ⟨fun r1 => stsW_mono ss h, h.rt, h.bk, h.ct, h.ex⟩
end
end
def Tb.Ok (T : Tb) : Prop := ∀ f P, T.fn f = some (.pr P) → ∀ ds g (K K' : D → Gh → Prop), (∀ d g, K d g → K' d g) → P ds g K → P ds g K'
theorem top_le {K K' : D → Gh → Prop} {X X' : Exn → Gh → Prop} (h : ∀ d g, K d g → K' d g) (hx : ∀ e g, X e g → X' e g) : Ks.Le { nx := fun r => K .none r.g, rt := fun d r => K d r.g, bk := fun _ => False, ct := fun _ => False, ex := fun e r => X e r.g } { nx := fun r => K' .none r.g, rt := fun d r => K' d r.g, bk := fun _ => False, ct := fun _ => False, ex := fun e r => X' e r.g } :=
  ⟨fun r => h _ _, fun d r => h _ _, fun _ => id, fun _ => id, fun e r => hx e _⟩
theorem callW_mono {T : Tb} (ok : T.Ok) : ∀ n, CMono (callW T n)
  | 0 => fun _ _ _ _ _ _ _ _ _ q => q
  | n + 1 => fun f ds g K K' X X' h hx => by
    unfold callW
    split
    · exact fun q => ⟨q.1, stsW_mono (callW_mono ok n) _ (top_le h hx) q.2⟩
    · rename_i P e
      exact ok f P e ds g K K' h
    · exact id
/-- more room -/
theorem callW_more {T : Tb} (ok : T.Ok) : ∀ n, CLe (callW T n) (callW T (n + 1))
  | 0 => fun _ _ _ _ _ _ _ _ _ q => (show False from q).elim
  | n + 1 => fun f ds g K K' X X' h hx => by
    intro q
    unfold callW at q ⊢
    split at q
    · rename_i np ns b e
      exact ⟨q.1, stsW_mono (callW_more ok n) _ (top_le h hx) q.2⟩
    · rename_i P e
      exact ok f P e ds g K K' h q
    · exact q.elim
theorem callW_le {T : Tb} (ok : T.Ok) {f : Nat} {ds : List D} {g : Gh} {K : D → Gh → Prop} {X : Exn → Gh → Prop} {n m : Nat} (h : n ≤ m) (q : callW T n f ds g K X) : callW T m f ds g K X := by
  induction h with
  | refl => exact q
  | step _ ih => exact callW_more ok _ _ _ _ _ _ _ _ (fun _ _ => id) (fun _ _ => id) ih
end G

set_option linter.all false
set_option maxRecDepth 100000
set_option Elab.async false
/-! Sa: plain data in the abstract heap; what stands behind a piece of core syntax. -/
namespace G
open PySem PySem.Spec PyProof.Rows L2

/-- the law's own random state: where it stands, which addresses are its own, what is true of it -/
structure Jar where
  at_ : Option Addr
  sc : Option (Addr × List Int)
  L : Sum Int Str → Option Addr
  A : Addr → Prop
  P : Gh → Hp → Prop
  there : ∀ g H b, P g H → A b → H b ≠ none
  stable : ∀ g H H', P g H → (∀ b, A b → H' b = H b) → P g H'

mutual
inductive Rep (K : PySem.W.Frag) (J : Jar) (Z : Hp) : V → D → Prop
  | non : Rep K J Z .non .none
  | bl (b : Bool) : Rep K J Z (.bl b) (.bool b)
  | int (i : Int) : Rep K J Z (.int i) (.int i)
  | str (x : Str) : Rep K J Z (.str x) (.str x)
  | lst {a : Addr} {xs : List V} {ds : List D} : Z a = some (.lst xs) → RepL K J Z xs ds → Rep K J Z (.ref a) (.list ds)
  | tup {a : Addr} {xs : List V} {ds : List D} : SqT K Z a xs → RepL K J Z xs ds → Rep K J Z (.ref a) (.tuple ds)
  | jar {a : Addr} : J.at_ = some a → Rep K J Z (.ref a) JAR
  | dct {a : Addr} : Z a = some (.dK []) → Rep K J Z (.ref a) (.dict [])
  | scr {a : Addr} {ns : List Int} : J.sc = some (a, ns) → Rep K J Z (.ref a) (SCR ns)
inductive RepL (K : PySem.W.Frag) (J : Jar) (Z : Hp) : List V → List D → Prop
  | nil : RepL K J Z [] []
  | cons {v : V} {vs : List V} {d : D} {ds : List D} : Rep K J Z v d → RepL K J Z vs ds → RepL K J Z (v :: vs) (d :: ds)
end
section
variable {K : PySem.W.Frag} {J : Jar} {Z Z' H F : Hp}
theorem sqT_mono {H H' : Hp} {a : Addr} {xs : List V} (e : Same H H') (h : SqT K H a xs) : SqT K H' a xs := by
  rcases h with (h | ⟨o, h⟩) | h
  · exact .inl (.inl (e _ _ h))
  · exact .inl (.inr ⟨o, e _ _ h⟩)
  · exact .inr h
mutual
theorem Rep.mono (s : Same Z Z') : ∀ {v : V} {d : D}, Rep K J Z v d → Rep K J Z' v d
  | _, _, .non => .non
  | _, _, .bl b => .bl b
  | _, _, .int b => .int b
  | _, _, .str b => .str b
  | _, _, .lst h l => .lst (s _ _ h) (RepL.mono s l)
  | _, _, .tup h l => .tup (sqT_mono s h) (RepL.mono s l)
  | _, _, .jar h => .jar h
  | _, _, .dct h => .dct (s _ _ h)
  | _, _, .scr h => .scr h
theorem RepL.mono (s : Same Z Z') : ∀ {v : List V} {d : List D}, RepL K J Z v d → RepL K J Z' v d
  | _, _, .nil => .nil
  | _, _, .cons h l => .cons (Rep.mono s h) (RepL.mono s l)
end
theorem RepL.length : ∀ {v : List V} {d : List D}, RepL K J Z v d → v.length = d.length
  | _, _, .nil => rfl
  | _, _, .cons _ l => by rw [List.length_cons, List.length_cons, RepL.length l]
theorem RepL.append : ∀ {v w : List V} {d e : List D}, RepL K J Z v d → RepL K J Z w e → RepL K J Z (v ++ w) (d ++ e)
  | _, _, _, _, .nil, s => s
  | _, _, _, _, .cons h l, s => .cons h (RepL.append l s)
theorem RepL.take : ∀ {v : List V} {d : List D} (n : Nat), RepL K J Z v d → RepL K J Z (v.take n) (d.take n)
  | _, _, 0, _ => .nil
  | _, _, _ + 1, .nil => .nil
  | _, _, n + 1, .cons h l => .cons h (RepL.take n l)
theorem RepL.drop : ∀ {v : List V} {d : List D} (n : Nat), RepL K J Z v d → RepL K J Z (v.drop n) (d.drop n)
  | _, _, 0, h => h
  | _, _, _ + 1, .nil => .nil
  | _, _, n + 1, .cons h l => RepL.drop n l
theorem RepL.reverse {v : List V} {d : List D} (h : RepL K J Z v d) : RepL K J Z v.reverse d.reverse := by
  induction v generalizing d with
  | nil => cases h; exact .nil
  | cons x xs ih =>
    cases h with
    | cons h1 h2 => rw [List.reverse_cons, List.reverse_cons]; exact (ih h2).append (.cons h1 .nil)
theorem RepL.get : ∀ {v : List V} {d : List D} {i : Nat} {x : D}, RepL K J Z v d → d[i]? = some x → ∃ y, v[i]? = some y ∧ Rep K J Z y x
  | _, _, _, _, .nil, e => by simp at e
  | _, _, 0, _, .cons h _, e => by simp at e; subst e; exact ⟨_, rfl, h⟩
  | _, _, i + 1, x, .cons _ t, e => by
    obtain ⟨u, h1, h2⟩ := RepL.get (i := i) (x := x) t (by simpa using e)
    exact ⟨u, by simpa using h1, h2⟩
theorem RepL.getV : ∀ {v : List V} {d : List D} {i : Nat} {y : V}, RepL K J Z v d → v[i]? = some y → ∃ x, d[i]? = some x ∧ Rep K J Z y x
  | _, _, _, _, .nil, e => by simp at e
  | _, _, 0, _, .cons h _, e => by simp at e; subst e; exact ⟨_, rfl, h⟩
  | _, _, i + 1, x, .cons _ t, e => by
    obtain ⟨u, h1, h2⟩ := RepL.getV (i := i) (y := x) t (by simpa using e)
    exact ⟨u, by simpa using h1, h2⟩
theorem RepL.set : ∀ {v : List V} {d : List D} {x : V} {y : D} (i : Nat), RepL K J Z v d → Rep K J Z x y → RepL K J Z (v.set i x) (d.set i y)
  | _, _, _, _, _, .nil, _ => .nil
  | _, _, _, _, 0, .cons _ l, r => .cons r l
  | _, _, _, _, i + 1, .cons h l, r => .cons h (RepL.set i l r)
theorem RepL.eraseIdx : ∀ {v : List V} {d : List D} (i : Nat), RepL K J Z v d → RepL K J Z (v.eraseIdx i) (d.eraseIdx i)
  | _, _, _, .nil => .nil
  | _, _, 0, .cons _ l => l
  | _, _, i + 1, .cons h l => .cons h (RepL.eraseIdx i l)
theorem RepL.rep {v : List V} {d : List D} (h : RepL K J Z v d) : ∀ k : Nat, RepL K J Z (List.replicate k v).flatten (List.replicate k d).flatten
  | 0 => .nil
  | k + 1 => by rw [List.replicate_succ, List.replicate_succ, List.flatten_cons, List.flatten_cons]; exact h.append (RepL.rep h k)
theorem RepL.ints : ∀ {v : List V} {d : List D} {ns : List Int}, RepL K J Z v d → asInts d = some ns → v = ns.map V.int ∧ d = ns.map .int
  | _, [], ns, .nil, e => by cases e; exact ⟨rfl, rfl⟩
  | _, d :: ds, ns, .cons h l, e => by
    cases h with
    | int i =>
      unfold asInts at e
      cases q : asInts ds with
      | none => rw [q] at e; cases e
      | some ms =>
        rw [q] at e; cases e
        obtain ⟨h1, h2⟩ := RepL.ints l q
        exact ⟨by rw [h1]; rfl, by rw [h2]; rfl⟩
    | _ => cases e
theorem RepL.bools : ∀ {v : List V} {d : List D} {ns : List Bool}, RepL K J Z v d → asBools d = some ns → v = ns.map V.bl
  | _, [], ns, .nil, e => by cases e; rfl
  | _, d :: ds, ns, .cons h l, e => by
    cases h with
    | bl i =>
      unfold asBools at e
      cases q : asBools ds with
      | none => rw [q] at e; cases e
      | some ms =>
        rw [q] at e; cases e
        rw [RepL.bools l q]; rfl
    | _ => cases e
theorem RepL.ofInts : ∀ ns : List Int, RepL K J Z (ns.map V.int) (ns.map .int)
  | [] => .nil
  | n :: ns => .cons (.int n) (RepL.ofInts ns)

/-- a data object at the heap, its items given up -/
def RepS (K : PySem.W.Frag) (J : Jar) (H Z : Hp) (v : V) (d : D) : Prop :=
  match d with
  | .list ds => ∃ a vs, v = .ref a ∧ H a = some (.lst vs) ∧ vs.length ≤ sizeLine ∧ RepL K J Z vs ds
  | d => Rep K J Z v d

mutual
theorem Rep.dp (s : Same Z H) : ∀ {v : V} {d : D}, Rep K J Z v d → d.hasDict = false → Dp K H v d
  | _, _, .non, _ => .non
  | _, _, .bl b, _ => .bl b
  | _, _, .int b, _ => .int b
  | _, _, .str b, _ => .str b
  | _, _, .lst h l, n => .lst (.of (s _ _ h)) (RepL.dp s l (by simpa only [PyData.hasDict] using n))
  | _, _, .tup h l, n => .tup (sqT_mono s h) (RepL.dp s l (by simpa only [PyData.hasDict] using n))
  | _, _, .jar h, n => by simp [JAR, PyData.hasDict] at n
  | _, _, .dct h, n => by simp [PyData.hasDict] at n
  | _, _, .scr h, n => by simp [SCR, PyData.hasDict] at n
theorem RepL.dp (s : Same Z H) : ∀ {v : List V} {d : List D}, RepL K J Z v d → PyData.hasDictAll d = false → DpAll K H v d
  | _, _, .nil, _ => .nil
  | _, _, .cons h l, n => by
    simp only [PyData.hasDictAll, Bool.or_eq_false_iff] at n
    exact .cons (Rep.dp s h n.1) (RepL.dp s l n.2)
end
theorem RepS.dp (s : Same Z H) {v : V} {d : D} (h : RepS K J H Z v d) (n : d.hasDict = false) : Dp K H v d := by
  cases d with
  | list ds =>
    obtain ⟨a, vs, rfl, e, _, l⟩ := h
    exact .lst (.of e) (l.dp s (by simpa only [PyData.hasDict] using n))
  | _ => exact Rep.dp s h n
end

/-- what must stand: the objects as they are, and the addresses that are not given up -/
structure Fm where
  o : Hp
  g : Addr → Prop
/-- the state of a body: F what must stand as it is, Z what is given up, r what the slots hold -/
structure Rel (K : PySem.W.Frag) (J : Jar) (F : Fm) (σ : L2.St) (H Z : Hp) (r : En) : Prop where
  sub : Same Z H
  frame : ∀ b o, F.o b = some o → ¬ J.A b → H b = some o
  jar : J.P r.g H
  jz : ∀ b, J.A b → Z b = none
  len : σ.length = r.length
  fz : ∀ i d, rd r i = .fz d → ∃ v, σ[i]? = some (some v) ∧ Rep K J Z v d
  ow : ∀ i ds, rd r i = .ow ds → ∃ a vs, σ[i]? = some (some (.ref a)) ∧ H a = some (.lst vs) ∧ vs.length ≤ sizeLine ∧ RepL K J Z vs ds ∧ Z a = none ∧ F.o a = none ∧ ¬ J.A a
  sep : ∀ i j ds es a, rd r i = .ow ds → rd r j = .ow es → σ[i]? = some (some (.ref a)) → σ[j]? = some (some (.ref a)) → i = j
  zs : ∀ a xs, Z a = some (.lst xs) ∨ Z a = some (.tup xs) → xs.length ≤ sizeLine
  zo : ∀ a o, Z a = some o → (∃ xs, o = .lst xs) ∨ (∃ xs, o = .tup xs) ∨ o = .dK []
  ng : ∀ b, F.g b → Z b = none
  gf : ∀ b, F.g b → F.o b ≠ none
  al : ∀ i k, rd r i = .al k → ∃ l, J.L k = some l ∧ J.A l ∧ σ[i]? = some (some (.ref l))

def RepR (K : PySem.W.Frag) (J : Jar) (F : Fm) (σ : L2.St) (H Z : Hp) (r : En) (x : Rz) (v : V) : Prop :=
  match x with
  | .val d => Rep K J Z v d
  | .new ds => ∃ a vs, v = .ref a ∧ H a = some (.lst vs) ∧ vs.length ≤ sizeLine ∧ RepL K J Z vs ds ∧ Z a = none ∧ F.o a = none ∧ ¬ J.A a ∧ ∀ i es, rd r i = .ow es → σ[i]? ≠ some (some (.ref a))
  | .sl i => σ[i]? = some (some v) ∧ rd r i ≠ .un
/-- the same, where it stands also behind further steps -/
def Pin (K : PySem.W.Frag) (J : Jar) (σ : L2.St) (Z : Hp) (x : Rz) (v : V) : Prop :=
  match x with
  | .val d => Rep K J Z v d
  | .new ds => Rep K J Z v (.list ds)
  | .sl i => σ[i]? = some (some v)

theorem Same.upd {H : Hp} {p : Addr} {o : HO} (h : H p = none) : Same H (upd H p o) := fun b x e => by
  rw [upd_ne (ne_of_none e h)]
  exact e
theorem rd_lt {r : En} {i : Nat} (h : rd r i ≠ .un) : i < r.length := by
  unfold rd at h
  unfold En.length
  rw [List.getD_eq_getElem?_getD] at h
  by_cases q : i < r.s.length
  · exact q
  · rw [List.getElem?_eq_none (by omega)] at h
    exact absurd rfl h
theorem rd_set {r : En} {i j : Nat} {s : Slot} : rd (r.set i s) j = if i = j ∧ i < r.length then s else rd r j := by
  unfold rd En.set En.length
  dsimp only
  rw [List.getD_eq_getElem?_getD, List.getD_eq_getElem?_getD, List.getElem?_set]
  by_cases h : i = j
  · subst h
    by_cases q : i < r.s.length
    · simp [q]
    · simp [q, List.getElem?_eq_none (Nat.le_of_not_lt q)]
  · simp [h]
theorem rd_same {r : En} {i : Nat} {s : Slot} (h : i < r.length) : rd (r.set i s) i = s := by rw [rd_set, if_pos ⟨rfl, h⟩]
theorem rd_ne {r : En} {i j : Nat} {s : Slot} (h : i ≠ j) : rd (r.set i s) j = rd r j := by rw [rd_set, if_neg fun q => h q.1]

section
variable {K : PySem.W.Frag} {J : Jar} {F : Fm} {σ : L2.St} {H Z : Hp} {r : En}
theorem Rel.alS (R : Rel K J F σ H Z r) {i : Nat} {s : Slot} (n : ∀ k, s ≠ .al k) : ∀ j k, rd (r.set i s) j = .al k → i ≠ j ∧ ∃ l, J.L k = some l ∧ J.A l ∧ σ[j]? = some (some (.ref l)) := fun j k h => by
  by_cases ij : i = j
  · subst ij
    have il : i < r.length := by
      have := rd_lt (r := r.set i s) (i := i) (by rw [h]; exact fun z => by cases z)
      rwa [En.length_set] at this
    rw [rd_same il] at h
    exact absurd h (n k)
  · rw [rd_ne ij] at h
    exact ⟨ij, R.al j k h⟩
theorem Rel.alV (R : Rel K J F σ H Z r) {i : Nat} {s : Slot} {v : Option V} (n : ∀ k, s ≠ .al k) : ∀ j k, rd (r.set i s) j = .al k → ∃ l, J.L k = some l ∧ J.A l ∧ (σ.set i v)[j]? = some (some (.ref l)) := fun j k h => by
  obtain ⟨ij, l, h1, h2, h3⟩ := R.alS n j k h
  exact ⟨l, h1, h2, by rw [List.getElem?_set_ne ij]; exact h3⟩
/-- a new address -/
theorem Rel.fresh (R : Rel K J F σ H Z r) {p : Addr} (h : H p = none) : Z p = none ∧ F.o p = none ∧ ¬ J.A p ∧ ∀ i es, rd r i = .ow es → σ[i]? ≠ some (some (.ref p)) := by
  have nj : ¬ J.A p := fun q => R.jar |> fun j => J.there _ H p j q h
  refine ⟨R.sub.free h, ?_, nj, fun i es e q => ?_⟩
  · cases e : F.o p with
    | none => rfl
    | some o => rw [R.frame p o e nj] at h; cases h
  · obtain ⟨a, vs, e1, e2, _⟩ := R.ow i es e
    rw [q] at e1
    cases e1
    rw [h] at e2
    cases e2
/-- a new object comes that is not given up -/
theorem Rel.grow (R : Rel K J F σ H Z r) {p : Addr} {o : HO} (h : H p = none) : Rel K J F σ (upd H p o) Z r := by
  have s : Same H (upd H p o) := Same.upd h
  obtain ⟨_, _, nj, _⟩ := R.fresh h
  refine ⟨R.sub.trans s, fun b o' e n => s _ _ (R.frame b o' e n), J.stable _ H _ R.jar fun b hb => ?_, R.jz, R.len, R.fz, fun i ds e => ?_, R.sep, R.zs, R.zo, R.ng, R.gf, R.al⟩
  · rw [upd_ne]; rintro rfl; exact nj hb
  · obtain ⟨a, vs, e1, e2, e3⟩ := R.ow i ds e
    exact ⟨a, vs, e1, s _ _ e2, e3⟩
/-- a new object comes, given up at once -/
theorem Rel.lay (R : Rel K J F σ H Z r) {p : Addr} {o : HO} (h : H p = none) (z : ∀ xs, o = .lst xs ∨ o = .tup xs → xs.length ≤ sizeLine) (zo : (∃ xs, o = .lst xs) ∨ (∃ xs, o = .tup xs) ∨ o = .dK []) : Same Z (upd Z p o) ∧ Rel K J F σ (upd H p o) (upd Z p o) r := by
  obtain ⟨hz, hf, nj, hs⟩ := R.fresh h
  have G := R.grow (o := o) h
  have s : Same Z (upd Z p o) := Same.upd hz
  refine ⟨s, fun b x e => ?_, G.frame, G.jar, fun b hb => ?_, G.len, fun i d e => ?_, fun i ds e => ?_, G.sep, fun a xs e => ?_, fun a x e => ?_, fun b hb => ?_, G.gf, G.al⟩
  · by_cases q : b = p
    · subst q; rw [upd_same] at e ⊢; exact e
    · rw [upd_ne q] at e; exact G.sub b x e
  · rw [upd_ne]
    · exact R.jz b hb
    · rintro rfl; exact nj hb
  · obtain ⟨v, e1, e2⟩ := R.fz i d e
    exact ⟨v, e1, e2.mono s⟩
  · obtain ⟨a, vs, e1, e2, e3, e4, e5, e6⟩ := G.ow i ds e
    refine ⟨a, vs, e1, e2, e3, e4.mono s, ?_, e6⟩
    rw [upd_ne]
    · exact e5
    · rintro rfl; exact hs i ds e e1
  · by_cases q : a = p
    · subst q; rw [upd_same] at e
      exact z xs (by rcases e with e | e <;> cases e; exact .inl rfl; exact .inr rfl)
    · rw [upd_ne q] at e; exact R.zs a xs e
  · by_cases q : a = p
    · subst q; rw [upd_same] at e; cases e; exact zo
    · rw [upd_ne q] at e; exact R.zo a x e
  · rw [upd_ne]
    · exact R.ng b hb
    · rintro rfl; exact R.gf _ hb hf
/-- what nobody holds is given up -/
theorem Rel.give (R : Rel K J F σ H Z r) {a : Addr} {vs : List V} (h : H a = some (.lst vs)) (hz : Z a = none) (hf : F.o a = none) (nj : ¬ J.A a) (hl : vs.length ≤ sizeLine) (hs : ∀ i es, rd r i = .ow es → σ[i]? ≠ some (some (.ref a))) :
    Same Z (upd Z a (.lst vs)) ∧ Rel K J F σ H (upd Z a (.lst vs)) r := by
  have s : Same Z (upd Z a (.lst vs)) := Same.upd hz
  refine ⟨s, fun b x e => ?_, R.frame, R.jar, fun b hb => ?_, R.len, fun i d e => ?_, fun i ds e => ?_, R.sep, fun b xs e => ?_, fun b x e => ?_, fun b hb => ?_, R.gf, R.al⟩
  · by_cases q : b = a
    · subst q; rw [upd_same] at e; cases e; exact h
    · rw [upd_ne q] at e; exact R.sub b x e
  · rw [upd_ne]
    · exact R.jz b hb
    · rintro rfl; exact nj hb
  · obtain ⟨v, e1, e2⟩ := R.fz i d e
    exact ⟨v, e1, e2.mono s⟩
  · obtain ⟨b, ws, e1, e2, e3, e4, e5, e6⟩ := R.ow i ds e
    refine ⟨b, ws, e1, e2, e3, e4.mono s, ?_, e6⟩
    rw [upd_ne]
    · exact e5
    · rintro rfl; exact hs i ds e e1
  · by_cases q : b = a
    · subst q; rw [upd_same] at e
      rcases e with e | e <;> cases e
      exact hl
    · rw [upd_ne q] at e; exact R.zs b xs e
  · by_cases q : b = a
    · subst q; rw [upd_same] at e; cases e; exact .inl ⟨_, rfl⟩
    · rw [upd_ne q] at e; exact R.zo b x e
  · rw [upd_ne]
    · exact R.ng b hb
    · rintro rfl; exact R.gf _ hb hf
theorem Rel.pinned (R : Rel K J F σ H Z r) {x : Rz} {v : V} (h : RepR K J F σ H Z r x v) : ∃ Z', Same Z Z' ∧ Rel K J F σ H Z' r ∧ Pin K J σ Z' x v := by
  cases x with
  | val d => exact ⟨Z, .refl _, R, h⟩
  | sl i => exact ⟨Z, .refl _, R, h.1⟩
  | new ds =>
    obtain ⟨a, vs, rfl, e1, e2, e3, e4, e5, e6, e7⟩ := h
    obtain ⟨s, R'⟩ := R.give e1 e4 e5 e6 e2 e7
    exact ⟨_, s, R', .lst upd_same (e3.mono s)⟩
theorem Pin.mono {Z' : Hp} {x : Rz} {v : V} (s : Same Z Z') (h : Pin K J σ Z x v) : Pin K J σ Z' x v := by
  cases x with
  | val d => exact Rep.mono s h
  | sl i => exact h
  | new ds => exact Rep.mono s h
theorem Rel.repS (R : Rel K J F σ H Z r) {v : V} {d : D} (h : Rep K J Z v d) : RepS K J H Z v d := by
  cases h with
  | lst h l => exact ⟨_, _, rfl, R.sub _ _ h, R.zs _ _ (.inl h), l⟩
  | tup h l => exact .tup h l
  | jar h => exact .jar h
  | dct h => exact .dct h
  | scr h => exact .scr h
  | non => exact .non
  | bl b => exact .bl b
  | int b => exact .int b
  | str b => exact .str b
/-- a value is read -/
theorem Rel.der (R : Rel K J F σ H Z r) {x : Rz} {v : V} {Q : D → Prop} (h : Pin K J σ Z x v) (q : der r x Q) : ∃ d, RepS K J H Z v d ∧ Q d := by
  cases x with
  | val d => exact ⟨d, R.repS h, q⟩
  | new ds => exact ⟨.list ds, R.repS h, q⟩
  | sl i =>
    unfold G.der at q
    dsimp only at q
    split at q
    · rename_i ds e
      obtain ⟨a, vs, e1, e2, e3, e4, _⟩ := R.ow i ds e
      have e0 : σ[i]? = some (some v) := h
      rw [e0] at e1
      cases e1
      exact ⟨.list ds, ⟨a, vs, rfl, e2, e3, e4⟩, q⟩
    · rename_i d e
      obtain ⟨w, e1, e2⟩ := R.fz i d e
      have e0 : σ[i]? = some (some v) := h
      rw [e0] at e1
      cases e1
      exact ⟨d, R.repS e2, q⟩
    · exact q.elim
/-- a value is given up -/
theorem Rel.frz (R : Rel K J F σ H Z r) {x : Rz} {v : V} {Q : D → En → Prop} (h : RepR K J F σ H Z r x v) (q : frz r x Q) : ∃ d r' Z', Same Z Z' ∧ Rel K J F σ H Z' r' ∧ Rep K J Z' v d ∧ Q d r' := by
  cases x with
  | val d => exact ⟨d, r, Z, .refl _, R, h, q⟩
  | new ds =>
    obtain ⟨a, vs, rfl, e1, e2, e3, e4, e5, e6, e7⟩ := h
    obtain ⟨s, R'⟩ := R.give e1 e4 e5 e6 e2 e7
    exact ⟨.list ds, r, _, s, R', .lst upd_same (e3.mono s), q⟩
  | sl i =>
    obtain ⟨h, hn⟩ := h
    unfold G.frz at q
    dsimp only at q
    split at q
    · rename_i ds e
      obtain ⟨a, vs, e1, e2, e3, e4, e5, e6, e7⟩ := R.ow i ds e
      rw [h] at e1
      cases e1
      have il : i < r.length := rd_lt hn
      -- the slot lets go of it
      have R1 : Rel K J F σ H Z (r.set i .un) := by
        refine ⟨R.sub, R.frame, R.jar, R.jz, by rw [En.length_set]; exact R.len, fun j d ej => ?_, fun j es ej => ?_, fun j k es fs b ej ek => ?_, R.zs, R.zo, R.ng, R.gf, fun j k h => (R.alS (fun k z => by cases z) j k h).2⟩
        · by_cases ij : i = j
          · subst ij; rw [rd_same il] at ej; cases ej
          · rw [rd_ne ij] at ej; exact R.fz j d ej
        · by_cases ij : i = j
          · subst ij; rw [rd_same il] at ej; cases ej
          · rw [rd_ne ij] at ej; exact R.ow j es ej
        · by_cases ij : i = j
          · subst ij; rw [rd_same il] at ej; cases ej
          · rw [rd_ne ij] at ej
            by_cases ik : i = k
            · subst ik; rw [rd_same il] at ek; cases ek
            · rw [rd_ne ik] at ek; exact R.sep j k es fs b ej ek
      obtain ⟨s, R2⟩ := R1.give e2 e5 e6 e7 e3 fun j es ej ej2 => by
        by_cases ij : i = j
        · subst ij; rw [rd_same il] at ej; cases ej
        · rw [rd_ne ij] at ej
          exact ij (R.sep i j ds es a e ej h ej2)
      refine ⟨.list ds, _, _, s, ?_, .lst upd_same (e4.mono s), q⟩
      refine ⟨R2.sub, R2.frame, R2.jar, R2.jz, by rw [En.length_set]; exact R.len, fun j d ej => ?_, fun j es ej => ?_, fun j k es fs b ej ek => ?_, R2.zs, R2.zo, R2.ng, R2.gf, fun j k h => (R.alS (s := .fz (.list ds)) (fun k z => by cases z) j k h).2⟩
      · by_cases ij : i = j
        · subst ij; rw [rd_same il] at ej; cases ej
          exact ⟨_, h, .lst upd_same (e4.mono s)⟩
        · rw [rd_ne ij] at ej; exact R2.fz j d (by rw [rd_ne ij]; exact ej)
      · by_cases ij : i = j
        · subst ij; rw [rd_same il] at ej; cases ej
        · rw [rd_ne ij] at ej; exact R2.ow j es (by rw [rd_ne ij]; exact ej)
      · by_cases ij : i = j
        · subst ij; rw [rd_same il] at ej; cases ej
        · rw [rd_ne ij] at ej
          by_cases ik : i = k
          · subst ik; rw [rd_same il] at ek; cases ek
          · rw [rd_ne ik] at ek; exact R.sep j k es fs b ej ek
    · rename_i d e
      obtain ⟨w, e1, e2⟩ := R.fz i d e
      rw [h] at e1
      cases e1
      exact ⟨d, r, Z, .refl _, R, e2, q⟩
    · exact q.elim
end
end G

set_option linter.all false
set_option maxRecDepth 100000
set_option Elab.async false
/-! Kw: how keywords bind in a plain def. -/
namespace G
open PySem PySem.Spec PyProof.Rows L2
theorem forIn_inv {α σ : Type} {f : α → σ → Sem (ForInStep σ)} {g : σ → α → σ} (P : List α → σ → Prop) (hf : ∀ a l b, P (a :: l) b → f a b = pure (.yield (g b a)) ∧ P l (g b a)) : ∀ (l : List α) (b : σ), P l b → forIn l b f = pure (l.foldl g b)
  | [], b, _ => by rw [List.forIn_nil]; rfl
  | a :: l, b, h => by
    obtain ⟨h1, h2⟩ := hf a l b h
    rw [List.forIn_cons, h1]
    show forIn l (g b a) f = _
    rw [forIn_inv P hf l (g b a) h2]
    rfl
/-- a def with plain parameters only -/
structure Plain (fd : FuncData) (ps : List Str) : Prop where
  pos : fd.params.posonlyargs = []
  kwo : fd.params.kwonlyargs = []
  va : fd.params.vararg = none
  ka : fd.params.kwarg = none
  df : fd.defaults = .none
  ps : fd.params.args.map (·.arg) = ps
theorem bind_plain {fd : FuncData} {ps : List Str} (h : Plain fd ps) {us : List Value} {kws : List (Str × Value)} (hl : us.length ≤ ps.length) (hk : ∀ p ∈ kws, p.1 ∈ ps) (hn : (kws.map (·.1)).Nodup) (hd : ∀ p ∈ kws, ∀ v, (p.1, v) ∉ ps.zip us)
    (hall : ∀ n ∈ ps, ((ps.zip us ++ kws).lookup n).isSome = true) : bindArgs fd ⟨us, kws⟩ = pure (ps.filterMap fun n => ((ps.zip us ++ kws).lookup n).map (n, ·)) := by
  have key : ∀ {q : List (Str × Value)} {x : Str}, (∀ v, (x, v) ∉ q) → q.lookup x = none := by
    intro q x hx
    induction q with
    | nil => rfl
    | cons p q ih =>
      rw [List.lookup_cons]
      have : (x == p.1) = false := by
        rw [beq_eq_false_iff_ne]
        rintro rfl
        exact hx p.2 List.mem_cons_self
      rw [this]
      exact ih fun v hv => hx v (List.mem_cons_of_mem _ hv)
  have hloop : kws.foldl (fun (b : List (Str × Value) × List (Str × Value)) a => (b.1 ++ [(a.1, a.2)], b.2)) (ps.zip us, []) = (ps.zip us ++ kws, []) := by
    have : ∀ (l : List (Str × Value)) (b : List (Str × Value)), l.foldl (fun (b : List (Str × Value) × List (Str × Value)) a => (b.1 ++ [(a.1, a.2)], b.2)) (b, []) = (b ++ l, []) := by
      intro l
      induction l with
      | nil => intro b; simp
      | cons a l ih => intro b; rw [List.foldl_cons, ih]; simp
    exact this kws _
  unfold bindArgs
  dsimp only
  rw [h.pos, h.kwo, h.va, h.ka, h.df, h.ps]
  simp only [List.map_nil, List.nil_append, List.append_nil]
  rw [forIn_inv (g := fun (b : List (Str × Value) × List (Str × Value)) a => (b.1 ++ [(a.1, a.2)], b.2)) (fun l b => (∀ p ∈ l, p.1 ∈ ps) ∧ (l.map (·.1)).Nodup ∧ ∀ p ∈ l, ∀ v, (p.1, v) ∉ b.1) ?hf kws _ ⟨hk, hn, hd⟩, hloop]
  case hf =>
    rintro a l b ⟨g1, g2, g3⟩
    rw [List.map_cons, List.nodup_cons] at g2
    have c1 : (ps.contains a.1 || [].contains a.1) = true := by
      rw [Bool.or_eq_true]
      exact .inl (List.contains_iff_mem.mpr (g1 a List.mem_cons_self))
    rw [if_pos c1, if_neg (by rw [key (g3 a List.mem_cons_self)]; exact Bool.false_ne_true)]
    refine ⟨rfl, fun p hp => g1 p (List.mem_cons_of_mem _ hp), g2.2, fun p hp v hv => ?_⟩
    rcases List.mem_append.mp hv with hv | hv
    · exact g3 p (List.mem_cons_of_mem _ hp) v hv
    · rw [List.mem_singleton] at hv
      have e : p.1 = a.1 := (Prod.mk.inj hv).1
      exact g2.1 (e ▸ List.mem_map_of_mem hp)
  have e0 : (decide (us.length > ps.length)) = false := by simpa using hl
  have e1 : (List.filter (fun n => (List.lookup n (ps.zip us ++ kws)).isNone) ps) = [] := by
    rw [List.filter_eq_nil_iff]
    intro n hn' q
    rw [Option.isNone_iff_eq_none] at q
    have := hall n hn'
    rw [q] at this
    cases this
  show (do
    let dl ← seqItems? Value.none
    _) = _
  have es : seqItems? Value.none = pure none := rfl
  rw [es]
  show (if (decide (us.length > ps.length) && none.isNone) = true then _ else _) = _
  rw [e0, Bool.false_and, if_neg Bool.false_ne_true]
  have ed : ((none : Option (Array Value)).getD #[]).toList = [] := rfl
  rw [ed]
  simp only [List.drop_nil, List.length_nil, Nat.sub_zero, List.take_length, List.drop_length, List.zip_nil_left, e1, List.isEmpty_nil, Bool.not_true, if_neg Bool.false_ne_true]
  rfl
/-- the places of the parameters' values among those given -/
def kperm (ps : List Str) (n : Nat) (ks : List Str) : List Nat := ps.mapIdx fun i x => if i < n then i else n + ks.idxOf x
def kOk (ps : List Str) (n : Nat) (ks : List Str) : Bool := decide (n ≤ ps.length) && (decide ps.Nodup && (decide ks.Nodup && ((ps.drop n).all (fun x => decide (x ∈ ks)) && ks.all fun x => decide (x ∈ ps.drop n))))
theorem lookup_zip {ks : List Str} {ws : List Value} {x : Str} (h : x ∈ ks) (hl : ws.length = ks.length) : (ks.zip ws).lookup x = ws[ks.idxOf x]? := by
  induction ks generalizing ws with
  | nil => cases h
  | cons k ks ih =>
    cases ws with
    | nil => cases hl
    | cons w ws =>
      rw [List.zip_cons_cons, List.lookup_cons, List.idxOf_cons]
      by_cases e : x = k
      · subst e
        simp
      · have e1 : (x == k) = false := beq_eq_false_iff_ne.mpr e
        have e2 : (k == x) = false := beq_eq_false_iff_ne.mpr (Ne.symm e)
        rw [e1, e2]
        rcases List.mem_cons.mp h with q | q
        · exact absurd q e
        · simpa using ih q (by simpa using hl)
theorem lookup_none {q : List (Str × Value)} {x : Str} (hx : ∀ v, (x, v) ∉ q) : q.lookup x = none := by
  induction q with
  | nil => rfl
  | cons p q ih =>
    rw [List.lookup_cons]
    have : (x == p.1) = false := by
      rw [beq_eq_false_iff_ne]
      rintro rfl
      exact hx p.2 List.mem_cons_self
    rw [this]
    exact ih fun v hv => hx v (List.mem_cons_of_mem _ hv)
theorem lookup_app {q r : List (Str × Value)} {x : Str} : (q ++ r).lookup x = (q.lookup x).or (r.lookup x) := by
  induction q with
  | nil => simp
  | cons p q ih =>
    rw [List.cons_append, List.lookup_cons, List.lookup_cons, ih]
    cases x == p.1 <;> rfl
theorem lookup_pos : ∀ {ps : List Str} {us : List Value} {i : Nat} {x : Str}, ps.Nodup → ps[i]? = some x → i < us.length → (ps.zip us).lookup x = us[i]?
  | [], us, i, x, _, h, _ => by simp at h
  | p :: ps, [], i, x, _, _, h => by simp at h
  | p :: ps, u :: us, 0, x, _, h, _ => by
    simp at h
    subst h
    simp
  | p :: ps, u :: us, i + 1, x, n, h, l => by
    rw [List.nodup_cons] at n
    have hm : x ∈ ps := List.mem_of_getElem? (by simpa using h)
    have e : (x == p) = false := beq_eq_false_iff_ne.mpr (by rintro rfl; exact n.1 hm)
    rw [List.zip_cons_cons, List.lookup_cons, e]
    simpa using lookup_pos (us := us) (i := i) n.2 (by simpa using h) (by simpa using l)
theorem mem_zip_take {ps : List Str} {us : List Value} {x : Str} {v : Value} (h : (x, v) ∈ ps.zip us) : x ∈ ps.take us.length := by
  obtain ⟨i, hi, e⟩ := List.mem_iff_getElem.mp h
  rw [List.getElem_zip] at e
  have e1 := (Prod.mk.inj e).1
  rw [List.length_zip] at hi
  rw [← e1]
  exact List.mem_take_iff_getElem.mpr ⟨i, by omega, rfl⟩
theorem fm_idx {α γ : Type} (f : α → Option (α × γ)) : ∀ (v : Nat → α → γ) (ps : List α), (∀ i x, ps[i]? = some x → f x = some (x, v i x)) → ps.filterMap f = ps.zip (ps.mapIdx v)
  | v, [], _ => rfl
  | v, p :: ps, h => by
    rw [List.filterMap_cons, h 0 p rfl, List.mapIdx_cons, List.zip_cons_cons, fm_idx f (fun i => v (i + 1)) ps fun i x hx => h (i + 1) x (by simpa using hx)]
theorem kbind {fd : FuncData} {ps : List Str} (h : Plain fd ps) {us ws : List Value} {ks : List Str} (hk : kOk ps us.length ks = true) (hw : ws.length = ks.length) :
    bindArgs fd ⟨us, ks.zip ws⟩ = pure (ps.zip ((kperm ps us.length ks).map fun p => (us ++ ws).getD p .none)) := by
  unfold kOk at hk
  simp only [Bool.and_eq_true, decide_eq_true_eq, List.all_eq_true] at hk
  obtain ⟨h1, h2, h3, h4, h5⟩ := hk
  have keys : (ks.zip ws).map (·.1) = ks := by rw [List.map_fst_zip (by omega)]
  have val : ∀ i x, ps[i]? = some x → (ps.zip us ++ ks.zip ws).lookup x = some ((us ++ ws).getD (if i < us.length then i else us.length + ks.idxOf x) .none) := by
    intro i x hx
    rw [lookup_app]
    by_cases hi : i < us.length
    · rw [if_pos hi, lookup_pos h2 hx hi, List.getElem?_eq_getElem hi]
      rw [List.getD_eq_getElem?_getD, List.getElem?_append_left hi, List.getElem?_eq_getElem hi]
      rfl
    · have hd : x ∈ ps.drop us.length := by
        apply List.mem_of_getElem? (i := i - us.length)
        rw [List.getElem?_drop, show us.length + (i - us.length) = i by omega]
        exact hx
      have hm := h4 x hd
      rw [if_neg hi, lookup_none, Option.none_or, lookup_zip hm hw]
      · have : ks.idxOf x < ws.length := by rw [hw]; exact List.idxOf_lt_length_of_mem hm
        rw [List.getElem?_eq_getElem this]
        rw [List.getD_eq_getElem?_getD, List.getElem?_append_right (by omega), show us.length + ks.idxOf x - us.length = ks.idxOf x by omega, List.getElem?_eq_getElem this]
        rfl
      · intro v hv
        have q := mem_zip_take hv
        have nd : (ps.take us.length ++ ps.drop us.length).Nodup := by rw [List.take_append_drop]; exact h2
        exact (List.nodup_append.mp nd).2.2 x q x hd rfl
  rw [bind_plain h h1 (fun p hp => ?_) (by rw [keys]; exact h3) (fun p hp v hv => ?_) (fun n hn => ?_)]
  · congr 1
    rw [fm_idx (fun n => ((ps.zip us ++ ks.zip ws).lookup n).map (n, ·)) (fun i x => (us ++ ws).getD (if i < us.length then i else us.length + ks.idxOf x) .none) ps fun i x hx => by rw [val i x hx]; rfl]
    unfold kperm
    congr 1
    apply List.ext_getElem?
    intro i
    rw [List.getElem?_map, List.getElem?_mapIdx, List.getElem?_mapIdx]
    cases ps[i]? <;> rfl
  · have : p.1 ∈ ks := (List.of_mem_zip hp).1
    exact List.mem_of_mem_drop (h5 _ this)
  · have : p.1 ∈ ks := (List.of_mem_zip hp).1
    have nd : (ps.take us.length ++ ps.drop us.length).Nodup := by rw [List.take_append_drop]; exact h2
    exact (List.nodup_append.mp nd).2.2 _ (mem_zip_take hv) _ (h5 _ this) rfl
  · obtain ⟨i, hi⟩ := List.mem_iff_getElem?.mp hn
    rw [val i n hi]
    rfl
end G

set_option linter.all false
set_option maxRecDepth 100000
set_option Elab.async false
/-! Zl: list(zip(a, b)) of two lists, of two tuples. -/
namespace G
open PySem PySem.Spec PyProof.Rows L2 RZ

/-- the iterator i stands at place k of the items xs of l -/
def Sit (h : Heap) (i l : Addr) (k : Nat) (xs : Array Value) : Prop :=
  (h.IsListIter i l k ∧ h.IsList l xs) ∨ (h.IsTupleIter i l k ∧ h.IsTuple l xs)
theorem Sit.keep {h h' : Heap} {i l : Addr} {k : Nat} {xs : Array Value} (g : Sit h i l k xs) (p : ∀ o, h.get? i = some o → h'.get? i = some o) (q : ∀ o, h.get? l = some o → h'.get? l = some o) : Sit h' i l k xs := by
  rcases g with ⟨g1, g2⟩ | ⟨g1, g2⟩
  · exact .inl ⟨g1.at p, g2.at q⟩
  · exact .inr ⟨g1.at p, g2.at q⟩
theorem Sit.there {h : Heap} {i l : Addr} {k : Nat} {xs : Array Value} (g : Sit h i l k xs) : ∃ o, h.get? i = some o := by
  rcases g with ⟨⟨o, e, _⟩, _⟩ | ⟨⟨o, e, _⟩, _⟩ <;> exact ⟨o, e⟩
section
variable {P : Program} {w : World} {A : Around} {E : Value → Shared → Prop} {s : Shared}
theorem sit_item {i l : Addr} {k : Nat} {xs : Array Value} {x : Value} {Q : Value → Shared → Prop} (il : l ≠ i) (g : Sit s.heap i l k xs) (hx : xs[k]? = some x)
    (q : ∀ h', Sit h' i l (k + 1) xs → Heap.SameBut i s.heap h' → Q x { s with heap := h' }) : wpAny (model P w) A (Builtin.SmallTypes.nextOf (.ref i)) Q E s := by
  rcases g with ⟨g1, g2⟩ | ⟨g1, g2⟩
  · exact wpAny_nextOf_list_item g1 g2 hx fun h' a b => q h' (.inl ⟨a, g2.extBut b.extBut il⟩) b
  · exact nextOf_tuple_item g1 g2 hx fun h' a b => q h' (.inr ⟨a, g2.extBut b.extBut il⟩) b
theorem sit_end {i l : Addr} {k : Nat} {xs : Array Value} {Q : Value → Shared → Prop} (hh : A.handled = none) (g : Sit s.heap i l k xs) (hx : xs[k]? = none)
    (q : ∀ h' e, Heap.ExtBut i s.heap h' → (∃ o, h'.get? e = some o ∧ o.cls = .type "StopIteration") → E (.ref e) { s with heap := h' }) : wpAny (model P w) A (Builtin.SmallTypes.nextOf (.ref i)) Q E s := by
  rcases g with ⟨g1, g2⟩ | ⟨g1, g2⟩
  · exact wpAny_nextOf_list_end hh g1 g2 hx q
  · exact nextOf_tuple_end hh g1 g2 hx q
open PySem.W in
/-- the next pair, the one before still alive -/
theorem held_item {z TI TO T i1 i2 l1 l2 : Addr} {f : Bool} {oT : Obj} {k : Nat} {xs ys : Array Value} {x y : Value} {Q : Option Value → Shared → Prop} (D : ZipApart z TI TO i1 i2 l1 l2)
    (gz : IsZipHeld s.heap z TI TO T f) (gT : s.heap.get? T = some oT) (gI : IsPair s.heap TI (.ref i1) (.ref i2)) (s1 : Sit s.heap i1 l1 k xs) (s2 : Sit s.heap i2 l2 k ys) (n1 : l1 ≠ i1) (n2 : l2 ≠ i2) (n3 : l1 ≠ i2) (hx : xs[k]? = some x) (hy : ys[k]? = some y)
    (q : ∀ h', IsZipHeld h' z TI TO T true → Sit h' i1 l1 (k + 1) xs → Sit h' i2 l2 (k + 1) ys → IsPair h' s.heap.objs.size x y → h'.objs.size = s.heap.objs.size + 1 → (∀ c o, c ≠ z → c ≠ i1 → c ≠ i2 → s.heap.get? c = some o → h'.get? c = some o) →
      Q (some (.ref s.heap.objs.size)) { s with heap := h' }) : wpAny (model P w) A (pyNext (.ref z)) Q E s := by
  have ty : s.TypeIs (.ref z) "zip" := ⟨_, gz, rfl⟩
  unfold pyNext
  refine wpAny_bind (wpAny_attempt (wpAny_callSpecial?_slot (name := Str.ofString "__next__") ty F.slot_zip_next (wpAny_call_entry F.slot_zip_next ty F.entry_zip_next ?_ (F.args_zip_next_1 _))))
  show wpAny _ _ (field (.ref z) 2 >>= _) _ _ _
  refine wpAny_bind (wpAny_field gz rfl (x := .bool false) (by rfl) ?_)
  show wpAny _ _ (field (.ref z) 3 >>= _) _ _ _
  refine wpAny_bind (wpAny_field gz rfl (x := .ref TI) (by rfl) (wpAny_bind (wpAny_seqItems gI rfl ?_)))
  show wpAny _ _ (Builtin.SmallTypes.ownedTupleIsFree (.ref z) >>= _) _ _ _
  refine wpAny_bind (wpAny_tupleHeld_zip gz gT fun h1 gz1 b1 => ?_)
  simp only [Bool.false_eq_true, if_false]
  refine wpAny_bind ?_
  rw [← Array.forIn_toList]
  simp only [List.forIn_cons, List.forIn_nil]
  refine wpAny_bind (wpAny_bind (wpAny_holding ?_))
  show wpAny _ _ (Builtin.SmallTypes.nextOf (.ref i1) >>= _) _ _ _
  refine wpAny_bind (sit_item (s := { s with heap := h1 }) n1 (s1.keep (b1.extBut _ · D.i1z) (b1.extBut _ · D.l1z)) hx fun h2 t1 b2 => wpAny_pure (wpAny_pure ?_))
  refine wpAny_bind (wpAny_bind (wpAny_holding ?_))
  show wpAny _ _ (Builtin.SmallTypes.nextOf (.ref i2) >>= _) _ _ _
  have e2 : Sit h2 i2 l2 k ys := (s2.keep (b1.extBut _ · D.i2z) (b1.extBut _ · D.l2z)).keep (b2.extBut _ · D.i12.symm) (b2.extBut _ · D.l2i1)
  refine wpAny_bind (sit_item (s := { s with heap := h2 }) n2 e2 hy fun h3 t2 b3 => wpAny_pure (wpAny_pure (wpAny_pure ?_)))
  show wpAny _ _ (newTuple [x, y] >>= _) _ _ _
  refine wpAny_bind (wpAny_newTuple ?_)
  have sz : h3.objs.size = s.heap.objs.size := b3.1.trans (b2.1.trans b1.1)
  have gz3 : IsZipHeld h3 z TI TO T true := b3.extBut _ _ D.i2z.symm (b2.extBut _ _ D.i1z.symm gz1)
  have kp : ∀ c o, c ≠ z → c ≠ i1 → c ≠ i2 → s.heap.get? c = some o → h3.get? c = some o := fun c o c1 c2 c3 e => b3.extBut _ _ c3 (b2.extBut _ _ c2 (b1.extBut _ _ c1 e))
  have t13 : Sit h3 i1 l1 (k + 1) xs := t1.keep (b3.extBut _ · D.i12) (b3.extBut _ · n3)
  have pr : IsPair (h3.push { cls := .type "tuple", data := .seq #[x, y] }) h3.objs.size x y := Heap.get?_push_size _ rfl
  have pz : (h3.push { cls := .type "tuple", data := .seq #[x, y] }).objs.size = h3.objs.size + 1 := Heap.size_push ..
  refine wpAny_pure ⟨_, rfl, wpAny_pure ?_⟩
  show Q (some (.ref h3.objs.size)) _
  rw [sz] at pr pz ⊢
  exact q _ (Heap.get?_push_of_some _ gz3) (t13.keep (fun o e => Heap.get?_push_of_some _ e) fun o e => Heap.get?_push_of_some _ e) (t2.keep (fun o e => Heap.get?_push_of_some _ e) fun o e => Heap.get?_push_of_some _ e) pr pz fun c o c1 c2 c3 e => Heap.get?_push_of_some _ (kp c o c1 c2 c3 e)
open PySem.W in
theorem held_end {z TI TO T i1 i2 l1 l2 : Addr} {f : Bool} {oT : Obj} {k : Nat} {xs ys : Array Value} {Q : Option Value → Shared → Prop} (hh : A.handled = none) (D : ZipApart z TI TO i1 i2 l1 l2)
    (gz : IsZipHeld s.heap z TI TO T f) (gT : s.heap.get? T = some oT) (gI : IsPair s.heap TI (.ref i1) (.ref i2)) (s1 : Sit s.heap i1 l1 k xs) (s2 : Sit s.heap i2 l2 k ys) (n1 : l1 ≠ i1) (hend : xs[k]? = none ∨ ys[k]? = none)
    (q : ∀ h', (∀ c o, c ≠ z → c ≠ i1 → c ≠ i2 → s.heap.get? c = some o → h'.get? c = some o) → Q none { s with heap := h' }) : wpAny (model P w) A (pyNext (.ref z)) Q E s := by
  have ty : s.TypeIs (.ref z) "zip" := ⟨_, gz, rfl⟩
  unfold pyNext
  have stop : ∀ h' e, (∀ c o, c ≠ z → c ≠ i1 → c ≠ i2 → s.heap.get? c = some o → h'.get? c = some o) → (∃ o, h'.get? e = some o ∧ o.cls = .type "StopIteration") →
      wpAny (model P w) A (do if ← isInstance (.ref e) (.type "StopIteration") then return (none : Option Value) else throw (.ref e)) Q E { s with heap := h' } := fun h' e kp ⟨o, eo, ec⟩ =>
    wpAny_bind (wpAny_isInstance (T := "StopIteration") (b := true) ⟨o, eo, ec⟩ isSubtype_stop (wpAny_pure (q h' kp)))
  refine wpAny_bind (wpAny_attempt (wpAny_callSpecial?_slot (name := Str.ofString "__next__") ty F.slot_zip_next (wpAny_call_entry F.slot_zip_next ty F.entry_zip_next ?_ (F.args_zip_next_1 _))))
  show wpAny _ _ (field (.ref z) 2 >>= _) _ _ _
  refine wpAny_bind (wpAny_field gz rfl (x := .bool false) (by rfl) ?_)
  show wpAny _ _ (field (.ref z) 3 >>= _) _ _ _
  refine wpAny_bind (wpAny_field gz rfl (x := .ref TI) (by rfl) (wpAny_bind (wpAny_seqItems gI rfl ?_)))
  show wpAny _ _ (Builtin.SmallTypes.ownedTupleIsFree (.ref z) >>= _) _ _ _
  refine wpAny_bind (wpAny_tupleHeld_zip gz gT fun h1 gz1 b1 => ?_)
  simp only [Bool.false_eq_true, if_false]
  refine wpAny_bind ?_
  rw [← Array.forIn_toList]
  simp only [List.forIn_cons, List.forIn_nil]
  refine wpAny_bind (wpAny_bind (wpAny_holding ?_))
  show wpAny _ _ (Builtin.SmallTypes.nextOf (.ref i1) >>= _) _ _ _
  have e1 : Sit h1 i1 l1 k xs := s1.keep (b1.extBut _ · D.i1z) (b1.extBut _ · D.l1z)
  cases hx : xs[k]? with
  | none => exact wpAny_bind (sit_end (s := { s with heap := h1 }) hh e1 hx fun h2 e b2 he => stop h2 e (fun c o c1 c2 _ x => b2 _ _ c2 (b1.extBut _ _ c1 x)) he)
  | some x =>
    have hy : ys[k]? = none := hend.resolve_left (by rw [hx]; exact fun z => by cases z)
    refine wpAny_bind (sit_item (s := { s with heap := h1 }) n1 e1 hx fun h2 t1 b2 => wpAny_pure (wpAny_pure ?_))
    refine wpAny_bind (wpAny_bind (wpAny_holding ?_))
    show wpAny _ _ (Builtin.SmallTypes.nextOf (.ref i2) >>= _) _ _ _
    have e2 : Sit h2 i2 l2 k ys := (s2.keep (b1.extBut _ · D.i2z) (b1.extBut _ · D.l2z)).keep (b2.extBut _ · D.i12.symm) (b2.extBut _ · D.l2i1)
    exact wpAny_bind (sit_end (s := { s with heap := h2 }) hh e2 hy fun h3 e b3 he => stop h3 e (fun c o c1 c2 c3 x => b3 _ _ c3 (b2.extBut _ _ c2 (b1.extBut _ _ c1 x))) he)
end

theorem cls_ne {h : Heap} {T z TI TO T2 : Addr} {f : Bool} {a b : Value} (g : IsPair h T a b) (gz : IsZipHeld h z TI TO T2 f) : T ≠ z := fun e => by
  rw [← e] at gz
  have e3 := Option.some.inj ((show h.get? T = some _ from g).symm.trans gz)
  have e4 := congrArg (·.cls) e3
  simp at e4
theorem sit_ne {h : Heap} {T i l : Addr} {k : Nat} {xs : Array Value} {a b : Value} (g : IsPair h T a b) (gs : Sit h i l k xs) : T ≠ i := fun e => by
  rw [← e] at gs
  rcases gs with ⟨⟨o, e1, e2, _⟩, _⟩ | ⟨⟨o, e1, e2, _⟩, _⟩
  all_goals
    have e3 := Option.some.inj ((show h.get? T = some _ from g).symm.trans e1)
    rw [← e3] at e2
    simp at e2
/-- the pairs that are laid so far -/
def Prs (H0 H : Hp) (xs ys vs : List V) : Prop := ∀ (j : Nat) (v : V), vs[j]? = some v → ∃ (T : Addr) (x y : V), v = .ref T ∧ H T = some (.tup [x, y]) ∧ xs[j]? = some x ∧ ys[j]? = some y ∧ H0 T = none
section
variable {X : Cx} {pins : List (Addr × Obj)} {σ : L2.St} {A : Around} {R : Result → Shared → Prop} {res : Value} {S z TI TO i1 i2 l1 l2 : Addr} {its its2 : Array Value} {xs ys : List V}
open PySem.W in
/-- how the zip stands -/
def Zst (z TI TO i1 i2 l1 l2 : Addr) (its its2 : Array Value) (h : Heap) (k : Nat) : Prop :=
  (k = 0 ∧ IsZip h z TI TO .none ∧ (∃ a b, IsPair h TO a b) ∧ ((h.IsListIter i1 l1 0 ∧ h.IsListIter i2 l2 0 ∧ h.IsList l1 its ∧ h.IsList l2 its2) ∨ (h.IsTupleIter i1 l1 0 ∧ h.IsTupleIter i2 l2 0 ∧ h.IsTuple l1 its ∧ h.IsTuple l2 its2))) ∨
  ((∃ T f a b, IsZipHeld h z TI TO T f ∧ IsPair h T a b) ∧ Sit h i1 l1 k its ∧ Sit h i2 l2 k its2)
theorem Zst.keep {h h' : Heap} {k : Nat} (g : Zst z TI TO i1 i2 l1 l2 its its2 h k) (q : ∀ c o, c ≠ S → h.get? c = some o → h'.get? c = some o) (nS : S ∉ [z, TI, TO, i1, i2, l1, l2]) (hS : ∀ T a b, IsPair h T a b → T ≠ S) : Zst z TI TO i1 i2 l1 l2 its its2 h' k := by
  simp only [List.mem_cons, List.not_mem_nil, or_false, not_or] at nS
  obtain ⟨a1, a2, a3, a4, a5, a6, a7⟩ := nS
  rcases g with ⟨g1, g2, ⟨a, b, g3⟩, g4⟩ | ⟨⟨T, f, a, b, g1, g2⟩, g3, g4⟩
  · refine .inl ⟨g1, q _ _ (Ne.symm a1) g2, ⟨a, b, q _ _ (Ne.symm a3) g3⟩, ?_⟩
    rcases g4 with ⟨b1, b2, b3, b4⟩ | ⟨b1, b2, b3, b4⟩
    · exact .inl ⟨b1.at fun o => q _ o (Ne.symm a4), b2.at fun o => q _ o (Ne.symm a5), b3.at fun o => q _ o (Ne.symm a6), b4.at fun o => q _ o (Ne.symm a7)⟩
    · exact .inr ⟨b1.at fun o => q _ o (Ne.symm a4), b2.at fun o => q _ o (Ne.symm a5), b3.at fun o => q _ o (Ne.symm a6), b4.at fun o => q _ o (Ne.symm a7)⟩
  · have nT : T ≠ S := hS T a b g2
    exact .inr ⟨⟨T, f, a, b, q _ _ (Ne.symm a1) g1, q _ _ nT g2⟩, g3.keep (fun o => q _ o (Ne.symm a4)) fun o => q _ o (Ne.symm a6), g4.keep (fun o => q _ o (Ne.symm a5)) fun o => q _ o (Ne.symm a7)⟩
theorem zip_drain {H0 : Hp} (hh : A.handled = none) (D : ZipApart z TI TO i1 i2 l1 l2) (n1 : l1 ≠ i1) (n2 : l2 ≠ i2) (n3 : l1 ≠ i2) (nS : S ∉ [z, TI, TO, i1, i2, l1, l2]) (rx : Vals xs its.toList) (ry : Vals ys its2.toList) (sz : xs.length ≤ sizeLine)
    (fin : ∀ s' H' vs, Inv X pins σ H' s' → H' S = some (.lst vs) → vs.length = min xs.length ys.length → Prs H0 H' xs ys vs → (∀ b o, b ≠ S → H0 b = some o → H' b = some o) → R (.ok (.ret res)) s') :
    ∀ (m k : Nat) (s : Shared) (H : Hp) (vs : List V), k + m = min xs.length ys.length → Inv X pins σ H s → (∀ c ∈ [z, TI, TO, i1, i2], FpOk X pins H c) → (∀ c ∈ [z, TI, TO, i1, i2], c < s.heap.objs.size) → H S = some (.lst vs) → vs.length = k → Prs H0 H xs ys vs →
      (∀ b o, b ≠ S → H0 b = some o → H b = some o) → IsPair s.heap TI (.ref i1) (.ref i2) → Zst z TI TO i1 i2 l1 l2 its its2 s.heap k → codeAny (model X.prog X.w) A (.builtin "list.extend.loop" ⟨[.ref S, .ref z, res], []⟩) R s := by
  intro m
  have lx : its.size = xs.length := by rw [← Array.length_toList, rx.length]
  have ly : its2.size = ys.length := by rw [← Array.length_toList, ry.length]
  induction m with
  | zero =>
    intro k s H vs hk I fp lt hS hv pr sm gI st
    refine codeAny_builtin F.entry_extend_loop ?_
    rw [Around.under_plainId F.plain_extend_loop _]
    show wpAny _ A.in1 (pyNext (.ref z) >>= _) _ _ s
    have en : its[k]? = none ∨ its2[k]? = none := by
      by_cases q : xs.length ≤ ys.length
      · exact .inl (Array.getElem?_eq_none (by omega))
      · exact .inr (Array.getElem?_eq_none (by omega))
    have out : ∀ h', (∀ c o, c ∉ [z, TO, i1, i2] → s.heap.get? c = some o → h'.get? c = some o) → R (.ok (.ret res)) { s with heap := h' } := fun h' kp =>
      fin _ H vs (I.turnedL (t' := s.toks) (ch := [z, TO, i1, i2]) (fun b o hb e => kp b o hb e) fun b hb => fp b (by simp only [List.mem_cons, List.not_mem_nil, or_false] at hb ⊢; rcases hb with q | q | q | q <;> simp [q])) hS (by omega) pr sm
    rcases st with ⟨g1, g2, ⟨a, b, g3⟩, g4⟩ | ⟨⟨T, f, a, b, g1, g2⟩, g3, g4⟩
    · subst g1
      rcases g4 with ⟨b1, b2, b3, b4⟩ | ⟨b1, b2, b3, b4⟩
      · refine wpAny_bind (wpAny_pyNext_zip_end (A := A.in1) hh D g2 gI g3 b1 b2 b3 b4 en fun h' kp => wpAny_pure (out h' fun c o hc e => ?_))
        simp only [List.mem_cons, List.not_mem_nil, or_false, not_or] at hc
        exact kp c o hc.1 hc.2.1 hc.2.2.1 hc.2.2.2 e
      · refine wpAny_bind (pyNext_zipT_end (A := A.in1) hh D g2 gI g3 b1 b2 b3 b4 en fun h' kp => wpAny_pure (out h' fun c o hc e => ?_))
        simp only [List.mem_cons, List.not_mem_nil, or_false, not_or] at hc
        exact kp c o hc.1 hc.2.1 hc.2.2.1 hc.2.2.2 e
    · refine wpAny_bind (held_end (A := A.in1) hh D g1 g2 gI g3 g4 n1 en fun h' kp => wpAny_pure (out h' fun c o hc e => ?_))
      simp only [List.mem_cons, List.not_mem_nil, or_false, not_or] at hc
      exact kp c o hc.1 hc.2.2.1 hc.2.2.2 e
  | succ m ih =>
    intro k s H vs hk I fp lt hS hv pr sm gI st
    refine codeAny_builtin F.entry_extend_loop ?_
    rw [Around.under_plainId F.plain_extend_loop _]
    show wpAny _ A.in1 (pyNext (.ref z) >>= _) _ _ s
    have kx : k < xs.length := by omega
    have ky : k < ys.length := by omega
    obtain ⟨u, hu, ru⟩ := rx.get (List.getElem?_eq_getElem kx)
    obtain ⟨u2, hu2, ru2⟩ := ry.get (List.getElem?_eq_getElem ky)
    have hu' : its[k]? = some u := by rw [← hu, Array.getElem?_toList]
    have hu2' : its2[k]? = some u2 := by rw [← hu2, Array.getElem?_toList]
    have hfN : H s.heap.objs.size = none := I.hok.fresh (Nat.le_refl _)
    have neS : S ≠ s.heap.objs.size := fun e => by rw [e, hfN] at hS; cases hS
    have go : ∀ h', (∀ c o, c ∉ [z, TO, i1, i2] → s.heap.get? c = some o → h'.get? c = some o) → IsPair h' s.heap.objs.size u u2 → h'.objs.size = s.heap.objs.size + 1 → IsPair h' TI (.ref i1) (.ref i2) →
        (∃ T f a b, IsZipHeld h' z TI TO T f ∧ IsPair h' T a b) → Sit h' i1 l1 (k + 1) its → Sit h' i2 l2 (k + 1) its2 →
        wpAny (model X.prog X.w) A.in1 (updateSeq S (·.push (.ref s.heap.objs.size)) >>= fun _ => again (.builtin "list.extend.loop" ⟨[.ref S, .ref z, res], []⟩)) (fun fin s' => match fin with | .done f => R (.ok f) s' | .again c' => c'.quiet = true ∧ codeAny (model X.prog X.w) A c' R s') (fun e s' => R (.error e) s') { s with heap := h' } := by
      intro h' kp gp hz gI' gh t1 t2
      have new : ObjOk X.prog X.w (upd H s.heap.objs.size (.tup [xs[k], ys[k]])) h' s.heap.objs.size (.tup [xs[k], ys[k]]) := ⟨by show 2 ≤ sizeLine; decide, [u, u2], .cons ru (.cons ru2 .nil), ⟨_, gp, rfl, _, rfl⟩⟩
      have fp4 : ∀ b ∈ [z, TO, i1, i2], FpOk X pins H b := fun b hb => fp b (by simp only [List.mem_cons, List.not_mem_nil, or_false] at hb ⊢; rcases hb with q | q | q | q <;> simp [q])
      have I1 := I.turnedNew (t' := s.toks) (ch := [z, TO, i1, i2]) (fun b o hb e => kp b o hb e) fp4 (Nat.le_refl _) new
      have hS1 : upd H s.heap.objs.size (.tup [xs[k], ys[k]]) S = some (.lst vs) := by rw [upd_ne neS]; exact hS
      obtain ⟨zl, us, c, rv, eS⟩ := I1.hok S _ hS1
      have eS' : h'.get? S = some { cls := .type "list", data := .seq us.toArray c } := eS
      have ul : us.length = k := by rw [← rv.length, hv]
      refine wpAny_bind (wpAny_updateSeq eS' rfl (wpAny_pure ⟨plainId_quiet F.plain_extend_loop _, ?_⟩) (by rw [List.size_toArray]; omega) (by show (us.toArray.push _).size ≤ _; rw [Array.size_push, List.size_toArray]; omega))
      have es := Heap.get?_update_self (Obj.mapSeq (·.push (Value.ref s.heap.objs.size))) eS' rfl
      have ot : ∀ b o, b ≠ S → h'.get? b = some o → (h'.update S (Obj.mapSeq (·.push (Value.ref s.heap.objs.size)))).get? b = some o := fun b o hb e => (Heap.get?_update_other _ _ (Ne.symm hb)).trans e
      have new2 : ObjOk X.prog X.w (upd (upd H s.heap.objs.size (.tup [xs[k], ys[k]])) S (.lst (vs ++ [.ref s.heap.objs.size]))) (h'.update S (Obj.mapSeq (·.push (Value.ref s.heap.objs.size)))) S (.lst (vs ++ [.ref s.heap.objs.size])) := by
        have e9 : ∃ c2, (h'.update S (Obj.mapSeq (·.push (Value.ref s.heap.objs.size)))).get? S = some { cls := .type "list", data := .seq (us ++ [Value.ref s.heap.objs.size]).toArray c2 } := by
          rw [es, ← List.push_toArray]
          exact ⟨_, rfl⟩
        obtain ⟨c2, e9⟩ := e9
        exact ⟨by rw [List.length_append, hv]; show k + 1 ≤ sizeLine; omega, us ++ [Value.ref s.heap.objs.size], c2, rv.append (.cons (show RelV (V.ref _) (Value.ref s.heap.objs.size) from rfl) .nil), e9⟩
      have I2 := I1.write (x := S) (e := S) (t' := s.toks) (by rw [hS1]; exact trivial) (.inl rfl) (fun b o hb e => ot b o hb e) ⟨_, es⟩ new2
      have nS' := nS
      simp only [List.mem_cons, List.not_mem_nil, or_false, not_or] at nS'
      refine ih (k + 1) _ _ (vs ++ [.ref s.heap.objs.size]) (by omega) I2 (fun c hc => ?_) (fun c hc => ?_) upd_same (by rw [List.length_append, hv]; rfl) (fun j v hj => ?_) (fun b o hb e => ?_) (ot _ _ (Ne.symm nS'.2.1) gI') (Zst.keep (S := S) (.inr ⟨gh, t1, t2⟩) ot nS fun T a b g e => by rw [e] at g; have e3 := Option.some.inj ((show h'.get? S = some _ from g).symm.trans eS'); have e4 := congrArg (·.cls) e3; simp at e4)
      · have hS3 : S ≠ c := fun e => by
          subst e
          simp only [List.mem_cons, List.not_mem_nil, or_false] at hc
          rcases hc with q | q | q | q | q
          · exact nS'.1 q
          · exact nS'.2.1 q
          · exact nS'.2.2.1 q
          · exact nS'.2.2.2.1 q
          · exact nS'.2.2.2.2.1 q
        obtain ⟨f1, f2⟩ := fp c hc
        exact ⟨by rw [upd_ne (Ne.symm hS3), upd_ne (Nat.ne_of_lt (lt c hc))]; exact f1, f2⟩
      · show c < (h'.update S _).objs.size
        rw [Heap.size_update, hz]
        exact Nat.lt_succ_of_lt (lt c hc)
      · by_cases hjk : j < k
        · rw [List.getElem?_append_left (by rw [hv]; exact hjk)] at hj
          obtain ⟨T, x, y, e1, e2, e3, e4, e5⟩ := pr j v hj
          have nT : T ≠ S := fun e => by rw [e, hS] at e2; cases e2
          exact ⟨T, x, y, e1, by rw [upd_ne nT, upd_ne (ne_of_none e2 hfN)]; exact e2, e3, e4, e5⟩
        · have jk : j = k := by
            have := (List.getElem?_eq_some_iff.mp hj).1
            rw [List.length_append, hv] at this
            simp at this
            omega
          subst jk
          rw [List.getElem?_append_right (by omega), hv, Nat.sub_self] at hj
          cases hj
          exact ⟨_, _, _, rfl, by rw [upd_ne (Ne.symm neS)]; exact upd_same, List.getElem?_eq_getElem kx, List.getElem?_eq_getElem ky, by
            cases q : H0 s.heap.objs.size with
            | none => rfl
            | some o => rw [sm _ o (Ne.symm neS) q] at hfN; cases hfN⟩
      · have q := sm b o hb e
        rw [upd_ne hb, upd_ne (ne_of_none q hfN)]
        exact q
    rcases st with ⟨g1, g2, ⟨a, b, g3⟩, g4⟩ | ⟨⟨T, f, a, b, g1, g2⟩, g3, g4⟩
    · subst g1
      rcases g4 with ⟨b1, b2, b3, b4⟩ | ⟨b1, b2, b3, b4⟩
      · refine wpAny_bind (wpAny_pyNext_zip_item (A := A.in1) D g2 gI g3 b1 b2 b3 b4 hu' hu2' fun h' z1 z2 z3 z4 z5 z6 z7 => go h' (fun c o hc e => ?_) z5 z6 (z7 _ _ D.TIz D.TITO D.TIi1 D.TIi2 gI) ⟨_, false, _, _, z1, z5⟩ (.inl ⟨z3, b3.at fun o e => z7 _ _ D.l1z D.l1TO n1 n3 e⟩) (.inl ⟨z4, b4.at fun o e => z7 _ _ D.l2z D.l2TO D.l2i1 n2 e⟩))
        simp only [List.mem_cons, List.not_mem_nil, or_false, not_or] at hc
        exact z7 c o hc.1 hc.2.1 hc.2.2.1 hc.2.2.2 e
      · refine wpAny_bind (pyNext_zipT_item (A := A.in1) D g2 gI g3 b1 b2 b3 b4 hu' hu2' fun h' z1 z2 z3 z4 z5 z6 z7 => go h' (fun c o hc e => ?_) z5 z6 (z7 _ _ D.TIz D.TITO D.TIi1 D.TIi2 gI) ⟨_, false, _, _, z1, z5⟩ (.inr ⟨z3, b3.at fun o e => z7 _ _ D.l1z D.l1TO n1 n3 e⟩) (.inr ⟨z4, b4.at fun o e => z7 _ _ D.l2z D.l2TO D.l2i1 n2 e⟩))
        simp only [List.mem_cons, List.not_mem_nil, or_false, not_or] at hc
        exact z7 c o hc.1 hc.2.1 hc.2.2.1 hc.2.2.2 e
    · refine wpAny_bind (held_item (A := A.in1) D g1 g2 gI g3 g4 n1 n2 n3 hu' hu2' fun h' z1 z3 z4 z5 z6 z7 => go h' (fun c o hc e => ?_) z5 z6 (z7 _ _ D.TIz D.TIi1 D.TIi2 gI) ⟨T, true, a, b, z1, z7 _ _ (cls_ne g2 g1) (sit_ne g2 g3) (sit_ne g2 g4) g2⟩ z3 z4)
      simp only [List.mem_cons, List.not_mem_nil, or_false, not_or] at hc
      exact z7 c o hc.1 hc.2.2.1 hc.2.2.2 e
end
theorem zip_no_len : typeLookup (.type "zip") "__len__" = pure none := am_miss_of_fast (by decide +kernel)
theorem zip_no_hint : typeLookup (.type "zip") "__length_hint__" = pure none := am_miss_of_fast (by decide +kernel)
section
variable {X : Cx}
/-- zip(a, b) is made -/
theorem zip_made {pins : List (Addr × Obj)} {σ : L2.St} {H : Hp} {s : Shared} {e e2 : Expr} {ta : TA} {p pos : Pos} {Q : Addr → List V → Addr → List V → Hp → Prop} (hg : Gl X "zip") (hm : X.mg "zip" = none) (ha : PA X [e, e2] ta) (I : Inv X pins σ H s)
    (hs : starEach [e, e2] X.env = (false, eval e X.env) :: starEach [e2] X.env) (hpl : (backTo pos (starEach [e2] X.env)).any (·.1) = false)
    (h : ta σ H fun vs H1 => ∃ a b xs ys, vs = [.ref a, .ref b] ∧ ((SqL X.K H1 a xs ∧ SqL X.K H1 b ys) ∨ (SqT X.K H1 a xs ∧ SqT X.K H1 b ys)) ∧ Q a xs b ys H1) :
    wpAny (model X.prog X.w) X.A (eval (.Call (.Name "zip" p) [e, e2] [] pos) X.env) (fun u s' => ∃ z TI TO i1 i2 a b its its2 xs ys H1, u = .ref z ∧ Inv X pins σ H1 s' ∧ ZipApart z TI TO i1 i2 a b ∧ (a < i1 ∧ a < i2 ∧ b < i1 ∧ b < i2 ∧ a < s'.heap.objs.size ∧ b < s'.heap.objs.size) ∧ Vals xs its.toList ∧ Vals ys its2.toList ∧ xs.length ≤ sizeLine ∧
      (∀ c ∈ [z, TI, TO, i1, i2], FpOk X pins H1 c) ∧ (∀ c ∈ [z, TI, TO, i1, i2], c < s'.heap.objs.size) ∧ IsZip s'.heap z TI TO .none ∧ IsPair s'.heap TI (.ref i1) (.ref i2) ∧ Zst z TI TO i1 i2 a b its its2 s'.heap 0 ∧ Q a xs b ys H1) X.xe s := by
  refine Call_ (ld_blt I hg hm PyProof.Rows.boot_zip (PyProof.Rows.callWith_type1 (thn (ha.run pos pins s σ H _ I h) fun us s1 ⟨vs, H1, I1, r1, q1⟩ => ?_) hs hpl))
  obtain ⟨a, b, xs, ys, ex, kd, q⟩ := q1
  subst ex
  cases r1 with
  | cons r rr =>
    cases rr with
    | cons r' rr =>
      cases rr
      cases r
      cases r'
      have five : ∀ c, c ∈ [s1.heap.objs.size + 4, s1.heap.objs.size + 2, s1.heap.objs.size + 3, s1.heap.objs.size, s1.heap.objs.size + 1] → s1.heap.objs.size ≤ c ∧ c < s1.heap.objs.size + 5 := fun c hc => by
        simp only [List.mem_cons, List.not_mem_nil, or_false] at hc
        rcases hc with z | z | z | z | z
        · rw [z]; exact ⟨Nat.le_add_right _ _, Nat.lt_succ_self _⟩
        · rw [z]; exact ⟨Nat.le_add_right _ _, Nat.add_lt_add_left (by decide) _⟩
        · rw [z]; exact ⟨Nat.le_add_right _ _, Nat.add_lt_add_left (by decide) _⟩
        · rw [z]; exact ⟨Nat.le_refl _, Nat.lt_add_of_pos_right (by decide)⟩
        · rw [z]; exact ⟨Nat.le_add_right _ _, Nat.add_lt_add_left (by decide) _⟩
      have fp5 : ∀ c, c ∈ [s1.heap.objs.size + 4, s1.heap.objs.size + 2, s1.heap.objs.size + 3, s1.heap.objs.size, s1.heap.objs.size + 1] → FpOk X pins H1 c := fun c hc => I1.fpOk (five c hc).1 (I1.hok.fresh (five c hc).1)
      rcases kd with ⟨k1, k2⟩ | ⟨k1, k2⟩
      · obtain ⟨us1, rv, p1, zl⟩ := I1.list k1
        obtain ⟨us2, rv2, p2, _⟩ := I1.list k2
        refine call_zip_2 p1.isList p2.isList fun h' z1 z2 z3 z4 z5 z6 z7 => ?_
        have l1 := p1.lt
        have l2 := p2.lt
        refine ⟨_, _, _, _, _, a, b, us1.toArray, us2.toArray, xs, ys, H1, rfl, I1.kept (t' := s1.toks) z7, PySem.W.ktu_apart s1.heap.objs.size a b l1 l2, ⟨l1, Nat.lt_succ_of_lt l1, l2, Nat.lt_succ_of_lt l2, ?_, ?_⟩, rv, rv2, zl, fp5, fun c hc => ?_, z1, z2, .inl ⟨rfl, z1, ⟨_, _, z3⟩, .inl ⟨z4, z5, p1.isList.at fun o => z7 _ o, p2.isList.at fun o => z7 _ o⟩⟩, q⟩
        · show a < h'.objs.size; rw [z6]; exact Nat.lt_add_right 5 l1
        · show b < h'.objs.size; rw [z6]; exact Nat.lt_add_right 5 l2
        · show c < h'.objs.size; rw [z6]; exact (five c hc).2
      · obtain ⟨us1, rv, p1, zl⟩ := I1.tuple k1
        obtain ⟨us2, rv2, p2, _⟩ := I1.tuple k2
        obtain ⟨o1, ho1, _⟩ := id p1
        obtain ⟨o2, ho2, _⟩ := id p2
        have l1 := Heap.lt_size ho1
        have l2 := Heap.lt_size ho2
        have t1 : s1.heap.IsTuple a us1.toArray := p1
        have t2 : s1.heap.IsTuple b us2.toArray := p2
        refine call_zipT t1 t2 fun h' z1 z2 z3 z4 z5 z6 z7 => ?_
        refine ⟨_, _, _, _, _, a, b, us1.toArray, us2.toArray, xs, ys, H1, rfl, I1.kept (t' := s1.toks) z7, PySem.W.ktu_apart s1.heap.objs.size a b l1 l2, ⟨l1, Nat.lt_succ_of_lt l1, l2, Nat.lt_succ_of_lt l2, ?_, ?_⟩, rv, rv2, zl, fp5, fun c hc => ?_, z1, z2, .inl ⟨rfl, z1, ⟨_, _, z3⟩, .inr ⟨z4, z5, t1.at fun o => z7 _ o, t2.at fun o => z7 _ o⟩⟩, q⟩
        · show a < h'.objs.size; rw [z6]; exact Nat.lt_add_right 5 l1
        · show b < h'.objs.size; rw [z6]; exact Nat.lt_add_right 5 l2
        · show c < h'.objs.size; rw [z6]; exact (five c hc).2
/-- list(zip(a, b)) -/
def tLz (K : PySem.W.Frag) (ta : TA) : TE := fun σ H Q => ta σ H fun vs H1 => ∃ a b xs ys, vs = [.ref a, .ref b] ∧ ((SqL K H1 a xs ∧ SqL K H1 b ys) ∨ (SqT K H1 a xs ∧ SqT K H1 b ys)) ∧
  ∀ S H' ws, H1 S = none → H' S = some (.lst ws) → ws.length = min xs.length ys.length → ws.length ≤ sizeLine → Prs H1 H' xs ys ws → Same H1 H' → Q (.ref S) H'
theorem pe_lz {e e2 : Expr} {ta : TA} {p p2 pos pos2 : Pos} (hc : X.calm = true) (hl : Gl X "list") (hml : X.mg "list" = none) (hg : Gl X "zip") (hm : X.mg "zip" = none) (ha : PA X [e, e2] ta)
    (hs : starEach [e, e2] X.env = (false, eval e X.env) :: starEach [e2] X.env) (hpl : (backTo pos2 (starEach [e2] X.env)).any (·.1) = false) :
    PE X (.Call (.Name "list" p) [.Call (.Name "zip" p2) [e, e2] [] pos2] [] pos) (tLz X.K ta) := by
  refine ⟨fun pins s σ H Q I h => ?_⟩
  unfold tLz at h
  refine Call_ (ld_blt I hl hml boot_list (PyProof.Rows.callWith_type1 (args_cons (thn (zip_made (Q := fun a xs b ys H1 => ∀ S H' ws, H1 S = none → H' S = some (.lst ws) → ws.length = min xs.length ys.length → ws.length ≤ sizeLine → Prs H1 H' xs ys ws → Same H1 H' → Q (.ref S) H') hg hm ha I hs hpl h) fun u s1 hh => args_nil ?_) rfl) rfl))
  obtain ⟨z, TI, TO, i1, i2, a, b, its, its2, xs, ys, H1, rfl, I1, D, ⟨m1, m2, m3, m4, m5, m6⟩, rx, ry, zl, fp, lt, gz, gI, st, q⟩ := hh
  have Sb : ∀ c ∈ [z, TI, TO, i1, i2, a, b], c < s1.heap.objs.size := fun c hc => by
    simp only [List.mem_cons, List.not_mem_nil, or_false] at hc lt
    rcases hc with k | k | k | k | k | k | k
    · exact lt c (.inl k)
    · exact lt c (.inr (.inl k))
    · exact lt c (.inr (.inr (.inl k)))
    · exact lt c (.inr (.inr (.inr (.inl k))))
    · exact lt c (.inr (.inr (.inr (.inr k))))
    · rw [k]; exact m5
    · rw [k]; exact m6
  have nS : s1.heap.objs.size ∉ [z, TI, TO, i1, i2, a, b] := fun hc => Nat.lt_irrefl _ (Sb _ hc)
  have nSz : s1.heap.objs.size ≠ z := fun k => nS (by rw [k]; exact List.mem_cons_self)
  refine callType_codes (Q₁ := fun obj s2 => obj = .ref s1.heap.objs.size ∧ s2 = { s1 with heap := s1.heap.push { cls := .type "list", data := .seq #[] } }) PySem.F.called_list (PySem.F.typeCall_list_1 _) PySem.F.entry_list_init (code_list_new _ ⟨rfl, rfl⟩) fun obj s2 h2 => ?_
  obtain ⟨rfl, rfl⟩ := h2
  have g0 : (s1.heap.push { cls := .type "list", data := .seq #[] }).get? s1.heap.objs.size = some { cls := .type "list", data := .seq #[] } := Heap.get?_push_size _ rfl
  refine ⟨⟨_, g0, rfl⟩, PySem.F.args_list_init_2 _ _, ?_⟩
  show wpAny _ _ (do let old ← Builtin.List.listItems (.ref s1.heap.objs.size); Builtin.List.listUpdate (.ref s1.heap.objs.size) (fun _ => #[]); letGo old.toList.reverse; Builtin.List.listExtendWith (.ref s1.heap.objs.size) (.ref z) .none) _ _ _
  refine wpAny_bind ?_
  unfold Builtin.List.listItems
  refine wpAny_bind (wpAny_seqItems g0 rfl (wpAny_pure ?_))
  show wpAny _ _ (updateSeq s1.heap.objs.size (fun _ => #[]) >>= fun _ => letGo (#[] : Array Value).toList.reverse >>= fun _ => Builtin.List.listExtendWith (.ref s1.heap.objs.size) (.ref z) .none) _ _ _
  refine wpAny_bind (wpAny_updateSeq g0 rfl ?_)
  have g1 := Heap.get?_update_self (Obj.mapSeq (fun _ => (#[] : Array Value))) g0 rfl
  have k0 : ∀ c o, s1.heap.get? c = some o → (s1.heap.push { cls := .type "list", data := .seq #[] }).get? c = some o := fun c o e => Heap.get?_push_of_some _ e
  have ne : ∀ c o, s1.heap.get? c = some o → s1.heap.objs.size ≠ c := fun c o e => Ne.symm (Nat.ne_of_lt (Heap.lt_size e))
  have k1 : ∀ c o, s1.heap.get? c = some o → ((s1.heap.push { cls := .type "list", data := .seq #[] }).update s1.heap.objs.size (Obj.mapSeq (fun _ => (#[] : Array Value)))).get? c = some o := fun c o e => (Heap.get?_update_other _ _ (ne c o e)).trans (k0 c o e)
  generalize hh1 : (s1.heap.push { cls := .type "list", data := .seq #[] }).update s1.heap.objs.size (Obj.mapSeq (fun _ => (#[] : Array Value))) = hp1 at g1 k1 ⊢
  obtain ⟨c1, g1'⟩ : ∃ c, hp1.get? s1.heap.objs.size = some { cls := .type "list", data := .seq #[] c } := by rw [g1]; exact ⟨_, rfl⟩
  refine wpAny_bind (wpAny_letGo ?_)
  unfold Builtin.List.listExtendWith
  have ty : ∀ (hp : Heap) (tk : Nat), (∀ c o, s1.heap.get? c = some o → hp.get? c = some o) → (⟨hp, s1.gens, s1.drawn, tk, s1.os⟩ : Shared).TypeIs (.ref z) "zip" := fun hp tk k => ⟨_, k _ _ gz, rfl⟩
  refine wpAny_bind (wpAny_typeOf (T := "zip") (ty hp1 _ k1) ?_)
  have c1' : Builtin.List.listSameRef (.ref s1.heap.objs.size) (.ref z) = false := by simp [Builtin.List.listSameRef, nSz]
  simp only [c1', show (Value.type "zip" == Value.type "list") = false by decide, show (Value.type "zip" == Value.type "tuple") = false by decide, Bool.or_false, Bool.false_eq_true, if_false]
  refine wpAny_bind (wpAny_pyIter_zip (s := { s1 with heap := hp1 }) (k1 _ _ gz) ?_)
  refine wpAny_bind (wpAny_holding ?_)
  unfold Builtin.List.listLengthHint
  refine wpAny_bind (wpAny_specialOf (ty hp1 _ k1) zip_no_len ?_)
  show wpAny _ _ (specialOf (Value.ref z) (Str.ofString "__length_hint__") >>= _) _ _ _
  refine wpAny_bind (wpAny_specialOf (ty hp1 _ k1) zip_no_hint (wpAny_pure ?_))
  show wpAny _ _ (rule "list.extend.makes-room" >>= fun _ => Builtin.List.listTouch (.ref s1.heap.objs.size) >>= fun _ => again (.builtin "list.extend.loop" ⟨[.ref s1.heap.objs.size, .ref z, .none], []⟩)) _ _ _
  refine wpAny_bind (wpAny_rule (wpAny_bind ?_))
  show wpAny _ _ (updateSeq s1.heap.objs.size (·.push .none) >>= fun _ => updateSeq s1.heap.objs.size (·.pop)) _ _ _
  refine wpAny_bind (wpAny_updateSeq g1' rfl ?_)
  have g2 := Heap.get?_update_self (Obj.mapSeq (·.push Value.none)) g1' rfl
  refine wpAny_updateSeq (hz := by seq_fits) g2 rfl ?_
  have g3 := Heap.get?_update_self (Obj.mapSeq (·.pop)) g2 rfl
  have k3 : ∀ c o, s1.heap.get? c = some o → ((hp1.update s1.heap.objs.size (Obj.mapSeq (·.push Value.none))).update s1.heap.objs.size (Obj.mapSeq (·.pop))).get? c = some o := fun c o e => (Heap.get?_update_other _ _ (ne c o e)).trans ((Heap.get?_update_other _ _ (ne c o e)).trans (k1 c o e))
  generalize hh3 : (hp1.update s1.heap.objs.size (Obj.mapSeq (·.push Value.none))).update s1.heap.objs.size (Obj.mapSeq (·.pop)) = hp3 at g3 k3 ⊢
  obtain ⟨c3, g3'⟩ : ∃ c, hp3.get? s1.heap.objs.size = some { cls := .type "list", data := .seq #[] c } := by rw [g3]; exact ⟨_, rfl⟩
  refine wpAny_pure ⟨plainId_quiet F.plain_extend_loop _, ?_⟩
  have I3 : Inv X pins σ (upd H1 s1.heap.objs.size (.lst [])) { s1 with heap := hp3 } := I1.laid (t' := s1.toks) k3 (Nat.le_refl _) (show ObjOk X.prog X.w _ _ _ (.lst []) from ⟨Nat.zero_le _, [], c3, .nil, g3'⟩)
  have nf : H1 s1.heap.objs.size = none := I1.hok.fresh (Nat.le_refl _)
  have sz3 : s1.heap.objs.size < hp3.objs.size := Heap.lt_size g3'
  refine zip_drain (A := X.A.in1) (S := s1.heap.objs.size) (H0 := H1) (I1.ok.hd hc) D (Nat.ne_of_lt m1) (Nat.ne_of_lt m4) (Nat.ne_of_lt m2) nS rx ry zl (fun s' H' vs I' e1 e2 e3 e4 => ?_) (min xs.length ys.length) 0 _ _ [] (Nat.zero_add _) I3 (fun c hc => ?_) (fun c hc => ?_) upd_same rfl (fun j v hj => by simp at hj) (fun b o hb e => by rw [upd_ne hb]; exact e) (k3 _ _ gI) (Zst.keep (S := s1.heap.objs.size) st (fun c o _ e => k3 c o e) nS fun T a b g => Nat.ne_of_lt (Heap.lt_size g))
  · refine ⟨rfl, .ref s1.heap.objs.size, H', I', rfl, q _ H' vs nf e1 e2 (by rw [e2]; exact Nat.le_trans (Nat.min_le_left _ _) zl) e3 fun b o e => e4 b o (fun k => by rw [k, nf] at e; cases e) e⟩
  · obtain ⟨f1, f2⟩ := fp c hc
    refine ⟨?_, f2⟩
    rw [upd_ne (Nat.ne_of_lt (lt c hc))]
    exact f1
  · exact Nat.lt_trans (lt c hc) sz3
end
end G

set_option Elab.async false
set_option linter.all false
set_option maxRecDepth 100000
set_option maxHeartbeats 4000000
/-! Zt: tuple * int, by one and by nothing. -/
namespace G
open PySem PySem.Spec PyProof.Rows L2
theorem tuple_mulB (l : Addr) (items : Array Value) (n : Nat) (dd : Option Addr) (sl : Array (Option Value)) (x : Int) (u : Tok) (c0 : (decide (x < -(2 ^ 63)) || decide (x ≥ 2 ^ 63)) = false) (c1 : (items.isEmpty || x == 1) = true) :
    Meets (Builtin.«tuple.__mul__» ⟨[.ref l, .int x u], []⟩) (fun _ R s => s.heap.get? l = some { cls := .type "tuple", dict := dd, data := .seq items n, slots := sl } ∧ R (.ok (.ret (Value.ref l))) { s with heap := s.heap, toks := s.toks }) :=
  .of_wp fun prog w A R s h => by
    obtain ⟨hp, g, d, tk, os⟩ := s
    obtain ⟨hl, h⟩ := h
    have f1 := AutoSeq1.idx_int
    wp_walk using wpAny_loadPart' hl
    repeat (first
      | (refine wpAny_ite_false (decide_eq_false (by rw [c0]; exact Bool.false_ne_true)) ?_; wp_walk using wpAny_loadPart' hl)
      | (refine wpAny_ite_true (decide_eq_true c1) ?_; wp_walk using wpAny_loadPart' hl))
    exact ⟨_, rfl, h⟩
theorem tuple_mulC (l : Addr) (items : Array Value) (n : Nat) (dd : Option Addr) (sl : Array (Option Value)) (x : Int) (u : Tok) (c0 : (decide (x < -(2 ^ 63)) || decide (x ≥ 2 ^ 63)) = false) (c1 : (items.isEmpty || x == 1) = false) (c2 : (decide (x ≤ 0) || items.isEmpty) = true) :
    Meets (Builtin.«tuple.__mul__» ⟨[.ref l, .int x u], []⟩) (fun _ R s => s.heap.get? l = some { cls := .type "tuple", dict := dd, data := .seq items n, slots := sl } ∧ R (.ok (.ret (Value.ref s.heap.objs.size))) { s with heap := s.heap.push { cls := Value.type "tuple", data := Data.seq #[] }, toks := s.toks }) :=
  .of_wp fun prog w A R s h => by
    obtain ⟨hp, g, d, tk, os⟩ := s
    obtain ⟨hl, h⟩ := h
    have f1 := AutoSeq1.idx_int
    wp_walk using wpAny_loadPart' hl
    repeat (first
      | (refine wpAny_ite_false (decide_eq_false (by rw [c0]; exact Bool.false_ne_true)) ?_; wp_walk using wpAny_loadPart' hl)
      | (refine wpAny_ite_false (decide_eq_false (by rw [c1]; exact Bool.false_ne_true)) ?_; wp_walk using wpAny_loadPart' hl)
      | (refine wpAny_ite_true (decide_eq_true c2) ?_; wp_walk using wpAny_loadPart' hl))
    exact ⟨_, rfl, h⟩
/-- t * 1 -/
def rRepB (K : PySem.W.Frag) : R2 := fun x y H Q => ∃ l xs, x = .ref l ∧ y = .int 1 ∧ SqT K H l xs ∧ Q (.ref l) H
/-- t * n, n not above 0 -/
def rRepC (K : PySem.W.Frag) : R2 := fun x y H Q => ∃ l k xs, x = .ref l ∧ y = .int k ∧ SqT K H l xs ∧ xs ≠ [] ∧ -(2 ^ 63) ≤ k ∧ k ≤ 0 ∧ ∀ p, H p = none → Q (.ref p) (upd H p (.tup []))
section
variable {X : Cx}
theorem op_repB : OpR X (binaryOp .Mult) (rRepB X.K) := by
  intro pins s σ H x y v u Q I rx ry h
  obtain ⟨l, xs, rfl, rfl, hT, q⟩ := h
  cases rx
  obtain ⟨t, rfl⟩ := ry
  obtain ⟨its, r, ⟨⟨cls, dd, data, sl⟩, ho, hc, n, hd⟩, hs⟩ := I.tuple hT
  simp only at hc hd
  subst hc hd
  have c1 : (its.toArray.isEmpty || (1 : Int) == 1) = true := by rw [Bool.or_eq_true]; exact .inr rfl
  refine wpAny_binaryOp_repeat_ref (T := "tuple") (U := "int") (by decide) ⟨_, ho, rfl⟩ (fun s' => typeIs_int s' 1 t) noFill_tuple_mul F.fills_int_mul F.slot_int_rmul repeat_tuple F.slot_int_index.lookup
    (call_meets F.slot_int_rmul (typeIs_int s 1 t) F.entry_int_rmul (F.args_int_rmul_2 _ _) (int_rmul_tuple 1 t l its.toArray n dd sl)
      ⟨ho, rfl, ⟨_, ho, rfl⟩, call_meets F.slot_tuple_mul ⟨_, ho, rfl⟩ F.entry_tuple_mul (F.args_tuple_mul_2 _ _) (tuple_mulB l its.toArray n dd sl 1 t (by decide) c1) ⟨ho, ?_⟩⟩)
  exact ⟨.ref l, H, I, rfl, q⟩
theorem op_repC : OpR X (binaryOp .Mult) (rRepC X.K) := by
  intro pins s σ H x y v u Q I rx ry h
  obtain ⟨l, k, xs, rfl, rfl, hT, hne, h1, h2, q⟩ := h
  cases rx
  obtain ⟨t, rfl⟩ := ry
  obtain ⟨its, r, ⟨⟨cls, dd, data, sl⟩, ho, hc, n, hd⟩, hs⟩ := I.tuple hT
  simp only at hc hd
  subst hc hd
  have hle : its.length = xs.length := r.length.symm
  have hi : its.toArray.isEmpty = false := by
    cases its with
    | nil => exact absurd (List.eq_nil_of_length_eq_zero hle.symm) hne
    | cons a b => rfl
  have c0 : (decide (k < -(2 ^ 63)) || decide (k ≥ 2 ^ 63)) = false := by
    rw [decide_eq_false (by omega), decide_eq_false (by omega)] <;> rfl
  have c1 : (its.toArray.isEmpty || k == 1) = false := by
    rw [hi, Bool.false_or]
    exact beq_eq_false_iff_ne.mpr (by omega)
  have c2 : (decide (k ≤ 0) || its.toArray.isEmpty) = true := by rw [decide_eq_true h2]; rfl
  refine wpAny_binaryOp_repeat_ref (T := "tuple") (U := "int") (by decide) ⟨_, ho, rfl⟩ (fun s' => typeIs_int s' k t) noFill_tuple_mul F.fills_int_mul F.slot_int_rmul repeat_tuple F.slot_int_index.lookup
    (call_meets F.slot_int_rmul (typeIs_int s k t) F.entry_int_rmul (F.args_int_rmul_2 _ _) (int_rmul_tuple k t l its.toArray n dd sl)
      ⟨ho, rfl, ⟨_, ho, rfl⟩, call_meets F.slot_tuple_mul ⟨_, ho, rfl⟩ F.entry_tuple_mul (F.args_tuple_mul_2 _ _) (tuple_mulC l its.toArray n dd sl k t c0 c1 c2) ⟨ho, ?_⟩⟩)
  refine ⟨.ref s.heap.objs.size, _, I.laid (t' := s.toks) (o := .tup []) (fun b ob q => Heap.get?_push_of_some _ q) (Nat.le_refl _) ?_, rfl, q _ (I.hok.fresh (Nat.le_refl _))⟩
  exact ⟨by rw [sizeLine_eq]; exact Nat.zero_le _, [], .nil, IsTup.new _ _⟩
end
end G

set_option linter.all false
set_option maxRecDepth 100000
set_option Elab.async false
/-! Sb: a core term says what a piece of the text says; what is known of the module. -/
namespace G
open PySem PySem.Spec PyProof.Rows L2

/-- what the law's text has: its defs (name, parameters), the builtins that it uses, its constants -/
structure Cfg where
  fns : List (Str × List Str)
  dfl : List (List Int) := []
  excs : List (Str × Option Str) := []
  free : List Str
  gcd : Bool
  consts : List (Str × Int)
  jk : Option Bool
  js : Bool
/-- where a name stands: the scope, the names that may be stored -/
structure Sc where
  sc : Scope
  st : Str → Bool

def lk (S : Sc) (x : Str) : Option NameKind := S.sc.names.lookup x
def okName (x : Str) : Bool := !(x == ("__debug__" : Str)) && !(x == ("__classdict__" : Str))
def visB (S : Sc) (x : Str) : Bool := match lk S x with | some .local => true | some .cell => true | some .free => true | _ => false
def glB (S : Sc) (x : Str) : Bool := match lk S x with | some .globalImplicit => true | _ => false
def bltB (cf : Cfg) (S : Sc) (x y : Str) : Bool := decide (x = y) && (cf.free.contains x && glB S x)
def notStar : Expr → Bool | .Starred .. => false | _ => true
def notSet : Expr → Bool | .Set .. => false | _ => true
def noComp : Expr → Bool | .ListComp .. => false | .SetComp .. => false | .DictComp .. => false | _ => true
def plainT : Expr → Bool | .IfExp .. => false | .Compare .. => false | .BoolOp .. => false | .UnaryOp .. => false | _ => true
def boMatch : BO → Operator → Bool
  | .add, .Add => true | .sub, .Sub => true | .mul, .Mult => true | .fdiv, .FloorDiv => true | .mod, .Mod => true | .pow, .Pow => true | _, _ => false
def coMatch : CO → CmpOp → Bool
  | .eq, .Eq => true | .ne, .NotEq => true | .lt, .Lt => true | .le, .LtE => true | .gt, .Gt => true | .ge, .GtE => true | .isin, .In => true | .notin, .NotIn => true | _, _ => false
def biName : BI → Str
  | .len => "len" | .abs => "abs" | .min2 => "min" | .max2 => "max" | .min1 => "min" | .max1 => "max" | .sum => "sum" | .sorted => "sorted" | .list => "list" | .tuple => "tuple"
  | .int => "int" | .bool => "bool" | .repr => "repr" | .all => "all" | .any => "any" | .divmod => "divmod" | .gcd => "gcd" | .str => "str" | _ => "isinstance"
def biN : BI → Nat
  | .min2 => 2 | .max2 => 2 | .divmod => 2 | .gcd => 2 | _ => 1
def isiName : BI → Str
  | .isTuple => "tuple" | .isInt => "int" | .isBool => "bool" | .isStr => "str" | .isList => "list" | _ => ""
def isIsi (k : BI) : Bool := match k with | .isTuple => true | .isInt => true | .isBool => true | .isStr => true | .isList => true | _ => false
/-- a slice's step is -1 -/
def isRev : Expr → Bool
  | .Slice none none (some (.UnaryOp .USub (.Constant (.int 1) _ _) _)) _ => true
  | _ => false
def isSlice : Expr → Bool | .Slice .. => true | _ => false

def exsLen : Exs → Nat | .nil => 0 | .cons _ es => exsLen es + 1

/-- a key of the law's random state -/
def chkKey : Sum Int Str → Expr → Bool
  | .inr x, .Constant (.str y) _ _ => decide (x = y)
  | .inl i, .Constant (.int n) _ _ => decide (i = n)
  | _, _ => false
def isStrK : Sum Int Str → Bool | .inr _ => true | .inl _ => false
section
variable (cf : Cfg) (N : List Str)
def chkSrc (S : Sc) : Src → Expr → Bool
  | .fld i k, .Subscript (.Name x _) c _ => decide (N[i]? = some x) && (visB S x && (okName x && (chkKey k c && decide (cf.jk = some (isStrK k)))))
  | .al i, .Name x _ => decide (N[i]? = some x) && (visB S x && (okName x && cf.jk.isSome))
  | _, _ => false
mutual
def chkTg (S : Sc) : Tg → Expr → Bool
  | .v i, .Name x _ => decide (N[i]? = some x) && S.st x
  | .t ts, .Tuple es _ _ => chkTgs S ts es
  | _, _ => false
def chkTgs (S : Sc) : Tgs → List Expr → Bool
  | .nil, [] => true
  | .cons t ts, e :: es => notStar e && (chkTg S t e && chkTgs S ts es)
  | _, _ => false
end
mutual
def inOwn (own : List (Str × Nat)) : Tg → Bool
  | .v i => own.any fun p => p.2 == i
  | .t ts => insOwn own ts
def insOwn (own : List (Str × Nat)) : Tgs → Bool
  | .nil => true
  | .cons t ts => inOwn own t && insOwn own ts
end
def isTup : Expr → Bool | .Tuple .. => true | _ => false
mutual
def chkE (S : Sc) : Ex → Expr → Bool
  | .v i, .Name x _ => decide (N[i]? = some x) && (visB S x && okName x)
  | .i n, .Constant (.int m) _ _ => decide (n = m)
  | .b x, .Constant (.bool y) _ _ => decide (x = y)
  | .n, .Constant .none _ _ => true
  | .s x, .Constant (.str y) _ _ => decide (x = y)
  | .g x n, .Name y _ => decide (x = y) && (glB S x && (okName x && cf.consts.any fun p => decide (p.1 = x) && decide (p.2 = n)))
  | .tup es, .Tuple xs _ _ => decide (exsLen es ≤ 1000) && chkEs S es xs
  | .lst es, .List xs _ => decide (exsLen es ≤ 1000) && chkEs S es xs
  | .bin o a b, .BinOp x op y _ => boMatch o op && (chkE S a x && chkE S b y)
  | .neg a, .UnaryOp .USub x _ => chkE S a x
  | .nt a, .UnaryOp .Not x _ => chkE S a x
  | .cmp o a b, .Compare x [op] [y] _ => coMatch o op && (notSet y && (chkE S a x && chkE S b y))
  | .chain o p a b c, .Compare x [op, op'] [y, z] _ => coMatch o op && (coMatch p op' && (notSet z && (chkE S a x && (chkE S b y && chkE S c z))))
  | .isN a, .Compare x [.Is] [.Constant .none _ _] _ => chkE S a x
  | .notN a, .Compare x [.IsNot] [.Constant .none _ _] _ => chkE S a x
  | .and a b, .BoolOp .And [x, y] _ => chkE S a x && chkE S b y
  | .and a b, .BoolOp .And (x :: y :: z :: r) p => chkE S a x && chkE S b (.BoolOp .And (y :: z :: r) p)
  | .or a b, .BoolOp .Or [x, y] _ => chkE S a x && chkE S b y
  | .or a b, .BoolOp .Or (x :: y :: z :: r) p => chkE S a x && chkE S b (.BoolOp .Or (y :: z :: r) p)
  | .ite t a b, .IfExp u x y _ => chkT S t u && (chkE S a x && chkE S b y)
  | .ix a i, .Subscript x y _ => !isSlice y && (chkE S a x && chkE S i y)
  | .cut a lo hi, .Subscript x (.Slice l h none _) _ => chkE S a x && (chkO S lo l && chkO S hi h)
  | .rev a, .Subscript x y _ => isRev y && chkE S a x
  | .call f es, .Call (.Name x _) (y :: ys) [] _ => (match cf.fns[f]? with | some p => decide (p.1 = x) && decide (p.2.length = exsLen es) | none => false) && (glB S x && (okName x && chkEs S es (y :: ys)))
  | .calld f es ns, .Call (.Name x _) (y :: ys) [] _ => (match cf.fns[f]? with | some p => decide (p.1 = x) && (decide (ns = cf.dfl.getD f []) && (decide (ns ≠ []) && decide (p.2.length = exsLen es + ns.length))) | none => false) && (glB S x && (okName x && chkEs S es (y :: ys)))
  | .dct0, .Dict [] [] _ => true
  | .lw (.r1 a), .Call (.Name l _) [.Call (.Name f _) [x] [] _] [] _ => bltB cf S l "list" && (bltB cf S f "range" && (notStar x && chkE S a x))
  | .lw (.r2 a b), .Call (.Name l _) [.Call (.Name f _) [x, y] [] _] [] _ => bltB cf S l "list" && (bltB cf S f "range" && (notStar x && (notStar y && (chkE S a x && chkE S b y))))
  | .lw (.zip a b), .Call (.Name l _) [.Call (.Name f _) [x, y] [] _] [] _ => bltB cf S l "list" && (bltB cf S f "zip" && (notStar x && (notStar y && (chkE S a x && chkE S b y))))
  | .callk f es ks ps, .Call (.Name x _) ys (k :: kws) _ => (match cf.fns[f]? with | some p => decide (p.1 = x) && (decide (cf.dfl.getD f [] = []) && (kOk p.2 (exsLen es) ((k :: kws).filterMap (·.arg)) && decide (ps = kperm p.2 (exsLen es) ((k :: kws).filterMap (·.arg))))) | none => false) &&
      (glB S x && (okName x && (chkEs S es ys && chkKs S ks (k :: kws))))
  | .bi k es, .Call (.Name x _) xs [] _ => decide (x = biName k) && (decide (exsLen es = biN k) && (glB S x && (if isIsi k then (match xs with
      | [a, .Name t _] => decide (t = isiName k) && (bltB cf S t t && (cf.free.contains x && chkEs S es [a]))
      | _ => false) else (if x = ("gcd" : Str) then cf.gcd else cf.free.contains x) && chkEs S es xs)))
  | .comp e t w c own, .ListComp elt [⟨tg, iter, ifs, a⟩] scope _ => decide (a = 0) && (blkC N S.sc scope own && (notSet iter && (inOwn own t && (chkW S w iter tg &&
      (chkTg N ⟨relS scope S.sc, fun x => match scope.names.lookup x with | some .local => true | some .cell => true | _ => false⟩ t tg &&
      ((match c, ifs with
        | .yes, [] => true
        | c, [i] => chkT ⟨relS scope S.sc, fun x => match scope.names.lookup x with | some .local => true | some .cell => true | _ => false⟩ c i
        | _, _ => false) &&
        chkE ⟨relS scope S.sc, fun x => match scope.names.lookup x with | some .local => true | some .cell => true | _ => false⟩ e elt))))))
  | .pop i, .Call (.Attribute (.Name x _) m ap) [] [] cp => decide (m = ("pop" : Str)) && ((ap.endLine == cp.line) && (decide (N[i]? = some x) && (visB S x && okName x)))
  | .popA i n, .Call (.Attribute (.Name x _) m ap) [.Constant (.int k) _ _] [] cp => decide (m = ("pop" : Str)) && ((ap.endLine == cp.line) && (decide (N[i]? = some x) && (visB S x && (okName x && decide (n = k)))))
  | .jg i k, .Subscript (.Name x _) c _ => decide (N[i]? = some x) && (visB S x && (okName x && (chkKey k c && decide (cf.jk = some (isStrK k)))))
  | .scut i n, .Subscript (.Name x _) (.Slice none (some (.Constant (.int m) _ _)) none _) _ => decide (N[i]? = some x) && (visB S x && (okName x && (decide (n = m) && cf.js)))
  | .stp a lo k, .Subscript x (.Slice (some (.Constant (.int l) _ _)) none (some (.Constant (.int m) _ _)) _) _ => decide ((lo : Int) = l) && (decide ((k : Int) = m) && (decide (0 < k) && chkE S a x))
  | .slen i, .Call (.Name f _) [.Name x _] [] _ => decide (N[i]? = some x) && (visB S x && (okName x && (bltB cf S f "len" && cf.js)))
  | .jn s, .Compare x [.NotEq] [.List [] _] _ => chkSrc cf N S s x
  | .jp s false, .Call (.Attribute x m ap) [] [] cp => decide (m = ("pop" : Str)) && ((ap.endLine == cp.line) && chkSrc cf N S s x)
  | .jp s true, .Call (.Attribute x m ap) [.Constant (.int 0) _ _] [] cp => decide (m = ("pop" : Str)) && ((ap.endLine == cp.line) && chkSrc cf N S s x)
  | _, _ => false
def chkT (S : Sc) : Ts → Expr → Bool
  | .and a b, .BoolOp .And [x, y] _ => chkT S a x && chkT S b y
  | .and a b, .BoolOp .And (x :: y :: z :: r) p => chkT S a x && chkT S b (.BoolOp .And (y :: z :: r) p)
  | .or a b, .BoolOp .Or [x, y] _ => chkT S a x && chkT S b y
  | .or a b, .BoolOp .Or (x :: y :: z :: r) p => chkT S a x && chkT S b (.BoolOp .Or (y :: z :: r) p)
  | .nt a, .UnaryOp .Not x _ => chkT S a x
  | .e a, x => (plainT x || (match a, x with | .cmp .., .Compare .. => true | .chain .., .Compare .. => true | .isN _, .Compare .. => true | .notN _, .Compare .. => true | .jn _, .Compare .. => true | _, _ => false)) && chkE S a x
  | _, _ => false
def chkEs (S : Sc) : Exs → List Expr → Bool
  | .nil, [] => true
  | .cons e es, x :: xs => notStar x && (chkE S e x && chkEs S es xs)
  | _, _ => false
def chkKs (S : Sc) : Exs → List Keyword → Bool
  | .nil, [] => true
  | .cons e es, ⟨some _, x, _⟩ :: xs => chkE S e x && chkKs S es xs
  | _, _ => false
def chkO (S : Sc) : Op → Option Expr → Bool
  | .no, none => true
  | .so e, some x => chkE S e x
  | _, _ => false
def chkW (S : Sc) : It → Expr → Expr → Bool
  | .e a, x, _ => chkE S a x
  | .r1 a, .Call (.Name f _) [x] [] _, _ => bltB cf S f "range" && (notStar x && chkE S a x)
  | .r2 a b, .Call (.Name f _) [x, y] [] _, _ => bltB cf S f "range" && (notStar x && (notStar y && (chkE S a x && chkE S b y)))
  | .en a, .Call (.Name f _) [x] [] _, tg => bltB cf S f "enumerate" && (isTup tg && (notStar x && chkE S a x))
  | .zip a b, .Call (.Name f _) [x, y] [] _, tg => bltB cf S f "zip" && (isTup tg && (notStar x && (notStar y && (chkE S a x && chkE S b y))))
  | _, _, _ => false
end
end
end G

set_option linter.all false
set_option maxRecDepth 100000
set_option Elab.async false
/-! Sc: the operations by values. -/
namespace G
open PySem PySem.Spec PyProof.Rows L2

/-- what an operation gives, at the heap -/
def Res (K : PySem.W.Frag) (J : Jar) (H Z : Hp) (z : Rz) (v : V) (H' : Hp) : Prop :=
  match z with
  | .val d => (H' = H ∧ Rep K J Z v d) ∨ ∃ p vs ds, H p = none ∧ H' = upd H p (.tup vs) ∧ v = .ref p ∧ d = .tuple ds ∧ RepL K J Z vs ds ∧ vs.length ≤ sizeLine
  | .new ds => ∃ p vs, H p = none ∧ H' = upd H p (.lst vs) ∧ v = .ref p ∧ RepL K J Z vs ds ∧ vs.length ≤ sizeLine
  | .sl _ => False
theorem Rel.res {K : PySem.W.Frag} {J : Jar} {F : Fm} {σ : L2.St} {H Z H' : Hp} {r : En} {z : Rz} {v : V} (R : Rel K J F σ H Z r) (h : Res K J H Z z v H') : ∃ Z', Same Z Z' ∧ Rel K J F σ H' Z' r ∧ RepR K J F σ H' Z' r z v := by
  cases z with
  | val d =>
    rcases h with ⟨rfl, h⟩ | ⟨p, vs, ds, hp, rfl, rfl, rfl, hl, hz⟩
    · exact ⟨Z, .refl _, R, h⟩
    · obtain ⟨s, R'⟩ := R.lay (o := .tup vs) hp (fun xs e => by rcases e with e | e <;> cases e; exact hz) (.inr (.inl ⟨_, rfl⟩))
      exact ⟨_, s, R', .tup (.of upd_same) (hl.mono s)⟩
  | new ds =>
    obtain ⟨p, vs, hp, rfl, rfl, hl, hz⟩ := h
    obtain ⟨h1, h2, h3, h4⟩ := R.fresh hp
    exact ⟨Z, .refl _, R.grow hp, p, vs, rfl, upd_same, hz, hl, h1, h2, h3, h4⟩
  | sl i => exact h.elim

theorem szl : sizeLine = 16777216 := sizeLine_eq
section
variable {X : Cx} {J : Jar}
def rOp (K : PySem.W.Frag) (J : Jar) (o : BO) : R2 := fun x y H Q => ∃ Z d e, Same Z H ∧ RepS K J H Z x d ∧ RepS K J H Z y e ∧ opW o d e fun z => ∀ v H', Res K J H Z z v H' → Q v H'
theorem rep_int {K : PySem.W.Frag} {Z : Hp} {v : V} {i : Int} (h : Rep K J Z v (.int i)) : v = .int i := by cases h; rfl
theorem rep_str {K : PySem.W.Frag} {Z : Hp} {v : V} {i : Str} (h : Rep K J Z v (.str i)) : v = .str i := by cases h; rfl
theorem rep_bool {K : PySem.W.Frag} {Z : Hp} {v : V} {i : Bool} (h : Rep K J Z v (.bool i)) : v = .bl i := by cases h; rfl
theorem rep_none {K : PySem.W.Frag} {Z : Hp} {v : V} (h : Rep K J Z v .none) : v = .non := by cases h; rfl
theorem rep_tup {K : PySem.W.Frag} {Z : Hp} {v : V} {ds : List D} (h : Rep K J Z v (.tuple ds)) : ∃ a xs, v = .ref a ∧ SqT K Z a xs ∧ RepL K J Z xs ds := by cases h with | tup h l => exact ⟨_, _, rfl, h, l⟩
theorem repL_nil {K : PySem.W.Frag} {Z : Hp} {ds : List D} (h : RepL K J Z [] ds) : ds = [] := by cases h; rfl
theorem op_add' : OpR X (binaryOp .Add) (rOp X.K J .add) := by
  rintro pins s σ H x y v u Q I rx ry ⟨Z, d, e, sz, hx, hy, q⟩
  unfold opW at q
  dsimp only at q
  split at q
  · split at q
    · cases rep_int hx; cases rep_int hy
      exact op_add pins s σ H _ _ v u Q I rx ry ⟨_, _, rfl, rfl, q _ _ (.inl ⟨rfl, .int _⟩)⟩
    · exact q.elim
  · split at q
    · obtain ⟨a, vs, rfl, e1, e2, l1⟩ := hx
      obtain ⟨b, ws, rfl, f1, f2, l2⟩ := hy
      have hz : vs.length + ws.length ≤ sizeLine := by rw [szl, l1.length, l2.length]; exact q.1
      exact op_cat pins s σ H _ _ v u Q I rx ry ⟨_, _, _, _, rfl, rfl, e1, f1, hz, fun p hp => q.2 _ _ ⟨p, _, hp, rfl, rfl, l1.append l2, by rw [List.length_append]; exact hz⟩⟩
    · exact q.elim
  · split at q
    · obtain ⟨a, vs, rfl, e1, l1⟩ := rep_tup hx
      obtain ⟨b, ws, rfl, f1, l2⟩ := rep_tup hy
      have hz : vs.length + ws.length ≤ sizeLine := by rw [szl, l1.length, l2.length]; exact q.1
      refine op_catA pins s σ H _ _ v u Q I rx ry ⟨_, _, _, _, rfl, rfl, sqT_mono sz e1, sqT_mono sz f1, hz, fun e => ?_, fun _ e => ?_, fun _ _ p hp => ?_⟩
      · subst e
        cases repL_nil l1
        exact q.2 _ _ (.inl ⟨rfl, .tup f1 l2⟩)
      · subst e
        cases repL_nil l2
        exact q.2 _ _ (.inl ⟨rfl, by rw [List.append_nil]; exact .tup e1 l1⟩)
      · exact q.2 _ _ (.inr ⟨p, _, _, hp, rfl, rfl, rfl, l1.append l2, by rw [List.length_append]; exact hz⟩)
    · exact q.elim
  · split at q
    · cases rep_str hx; cases rep_str hy
      exact op_add_str pins s σ H _ _ v u Q I rx ry ⟨_, _, rfl, rfl, by rw [szl]; exact q.1, q.2 _ _ (.inl ⟨rfl, .str _⟩)⟩
    · exact q.elim
  · exact q.elim
theorem op_sub' : OpR X (binaryOp .Sub) (rOp X.K J .sub) := by
  rintro pins s σ H x y v u Q I rx ry ⟨Z, d, e, sz, hx, hy, q⟩
  unfold opW at q
  dsimp only at q
  split at q
  · split at q
    · cases rep_int hx; cases rep_int hy
      exact op_sub pins s σ H _ _ v u Q I rx ry ⟨_, _, rfl, rfl, q _ _ (.inl ⟨rfl, .int _⟩)⟩
    · exact q.elim
  · exact q.elim
theorem op_mul' : OpR X (binaryOp .Mult) (rOp X.K J .mul) := by
  rintro pins s σ H x y v u Q I rx ry ⟨Z, d, e, sz, hx, hy, q⟩
  unfold opW at q
  cases d with
  | int i =>
    cases e with
    | int j =>
      cases rep_int hx; cases rep_int hy
      obtain ⟨c, q⟩ := q
      rcases c with c | c | c
      · exact op_mul pins s σ H _ _ v u Q I rx ry ⟨_, _, rfl, rfl, .inl c, q _ _ (.inl ⟨rfl, .int _⟩)⟩
      · exact op_mul pins s σ H _ _ v u Q I rx ry ⟨_, _, rfl, rfl, .inr c, q _ _ (.inl ⟨rfl, .int _⟩)⟩
      · exact op_mulW pins s σ H _ _ v u Q I rx ry ⟨_, _, rfl, rfl, c, q _ _ (.inl ⟨rfl, .int _⟩)⟩
    | _ => exact q.elim
  | list x =>
    cases e with
    | int j =>
      cases rep_int hy
      obtain ⟨a, vs, rfl, e1, e2, l1⟩ := hx
      obtain ⟨q1, q2, q3, q⟩ := q
      have hz : vs.length * j.toNat ≤ sizeLine := by rw [szl, l1.length]; exact q3
      refine op_rep pins s σ H _ _ v u Q I rx ry ⟨_, _, _, rfl, rfl, e1, q1, q2, hz, fun p hp => q _ _ ⟨p, _, hp, rfl, rfl, l1.rep _, ?_⟩⟩
      rw [List.length_flatten, List.map_replicate, List.sum_replicate_nat, Nat.mul_comm]
      exact hz
    | _ => exact q.elim
  | tuple x =>
    cases e with
    | int j =>
      cases rep_int hy
      obtain ⟨a, vs, rfl, e1, l1⟩ := rep_tup hx
      obtain ⟨q1, q2, q3, q4, q⟩ := q
      have ne : vs ≠ [] := fun e => by subst e; exact q1 (repL_nil l1)
      by_cases c2 : 2 ≤ j
      · refine op_repT pins s σ H _ _ v u Q I rx ry ⟨_, _, _, rfl, rfl, sqT_mono sz e1, ne, c2, q3, by rw [l1.length]; exact q4, fun p hp => q _ _ (.inr ⟨p, _, _, hp, rfl, rfl, rfl, l1.rep _, ?_⟩)⟩
        rw [List.length_flatten, List.map_replicate, List.sum_replicate_nat, l1.length, szl]
        have h1 : j.toNat ≤ 1000 := by omega
        exact Nat.le_trans (Nat.mul_le_mul h1 q4) (by decide)
      · by_cases c1 : j = 1
        · subst c1
          have e : (List.replicate (1 : Int).toNat x).flatten = x := by
            show (List.replicate 1 x).flatten = x
            simp
          rw [e] at q
          exact op_repB pins s σ H _ _ v u Q I rx ry ⟨_, _, rfl, rfl, sqT_mono sz e1, q _ _ (.inl ⟨rfl, .tup e1 l1⟩)⟩
        · have e : (List.replicate j.toNat x).flatten = [] := by
            rw [show j.toNat = 0 by omega]
            rfl
          rw [e] at q
          exact op_repC pins s σ H _ _ v u Q I rx ry ⟨_, _, _, rfl, rfl, sqT_mono sz e1, ne, q2, by omega, fun p hp => q _ _ (.inr ⟨p, _, _, hp, rfl, rfl, rfl, .nil, Nat.zero_le _⟩)⟩
    | _ => exact q.elim
  | _ => exact q.elim
theorem op_fdiv' : OpR X (binaryOp .FloorDiv) (rOp X.K J .fdiv) := by
  rintro pins s σ H x y v u Q I rx ry ⟨Z, d, e, sz, hx, hy, q⟩
  unfold opW at q
  cases d with
  | int i =>
    cases e with
    | int j =>
      cases rep_int hx; cases rep_int hy
      obtain ⟨c, q⟩ := q
      rcases c with c | c
      · refine op_fdivW pins s σ H _ _ v u Q I rx ry ⟨_, _, rfl, rfl, c, ?_⟩
        have e1 := Int.fdiv_eq_ediv_of_nonneg i (Int.le_of_lt c.1)
        have q' := q _ _ (.inl ⟨rfl, .int _⟩)
        rw [e1] at q'
        exact q'
      · exact op_fdivN pins s σ H _ _ v u Q I rx ry ⟨_, _, rfl, rfl, c, q _ _ (.inl ⟨rfl, .int _⟩)⟩
    | _ => exact q.elim
  | _ => exact q.elim
theorem op_mod' : OpR X (binaryOp .Mod) (rOp X.K J .mod) := by
  rintro pins s σ H x y v u Q I rx ry ⟨Z, d, e, sz, hx, hy, q⟩
  unfold opW at q
  dsimp only at q
  split at q
  · split at q
    · cases rep_int hx; cases rep_int hy
      exact op_modN pins s σ H _ _ v u Q I rx ry ⟨_, _, rfl, rfl, q.1, q.2 _ _ (.inl ⟨rfl, .int _⟩)⟩
    · exact q.elim
  · exact q.elim
theorem op_pow' : OpR X (binaryOp .Pow) (rOp X.K J .pow) := by
  rintro pins s σ H x y v u Q I rx ry ⟨Z, d, e, sz, hx, hy, q⟩
  unfold opW at q
  dsimp only at q
  split at q
  · split at q
    · cases rep_int hx; cases rep_int hy
      exact op_pow pins s σ H _ _ v u Q I rx ry ⟨_, _, rfl, rfl, q.1, q.2 _ _ (.inl ⟨rfl, .int _⟩)⟩
    · exact q.elim
  · exact q.elim
theorem op_all {o : BO} {op : Operator} (h : boMatch o op = true) : OpR X (binaryOp op) (rOp X.K J o) := by
  cases o <;> cases op <;> first | (exact absurd (show false = true from h) Bool.false_ne_true) | skip
  · exact op_add'
  · exact op_sub'
  · exact op_mul'
  · exact op_fdiv'
  · exact op_mod'
  · exact op_pow'

/-! ### comparisons -/
def rCmp (K : PySem.W.Frag) (J : Jar) (o : CO) : R2 := fun x y H Q => ∃ Z d e, Same Z H ∧ RepS K J H Z x d ∧ RepS K J H Z y e ∧ cmpW o d e fun z => Q (.bl z) H
theorem shaped_no {d : D} (h : shaped d) : d.hasDict = false := PyData.hasDict_of_canLay d (SeqAt.canLay_of_shaped h)
theorem shaped_int (i : Int) : shaped (.int i) := by show SeqAt.shaped _ = true; simp [SeqAt.shaped, PyData.canLay0, PyData.depth]
theorem v_int {i j : Int} : decide (V.int i = V.int j) = decide (i = j) := by simp
theorem v_str {i j : Str} : decide (V.str i = V.str j) = decide (i = j) := by simp
theorem eq_sound (hu : X.A.units + 64 < cLine) {Z : Hp} {d e : D} {pins : List (Addr × Obj)} {s : Shared} {σ : L2.St} {H : Hp} {x y : V} {v u : Value} {Q : VK} (I : Inv X pins σ H s) (rx : RelV x v) (ry : RelV y u) (sz : Same Z H)
    (hx : RepS X.K J H Z x d) (hy : RepS X.K J H Z y e) (q : eqW d e fun z => Q (.bl z) H) : wpAny (model X.prog X.w) X.A (compareOp .Eq v u) (EP X pins σ Q) X.xe s := by
  have gen : shaped d ∧ shaped e ∧ Q (.bl (PyData.eqv d e)) H → wpAny (model X.prog X.w) X.A (compareOp .Eq v u) (EP X pins σ Q) X.xe s := fun ⟨q0, q1, q2⟩ =>
    op_eqD hu pins s σ H _ _ v u Q I rx ry ⟨_, _, hx.dp sz (shaped_no q0), hy.dp sz (shaped_no q1), q0, q1, q2⟩
  unfold eqW at q
  cases d with
  | int i =>
    cases e with
    | int j =>
      cases rep_int hx; cases rep_int hy
      exact op_eq pins s σ H (.int i) (.int j) v u Q I rx ry ⟨rfl, by rw [v_int]; exact q⟩
    | _ => exact gen ⟨shaped_int _, q.1, q.2⟩
  | str i =>
    cases e with
    | str j =>
      cases rep_str hx; cases rep_str hy
      exact op_eq pins s σ H (.str i) (.str j) v u Q I rx ry ⟨rfl, by rw [v_str]; exact q⟩
    | _ => exact gen q
  | _ => exact gen q
theorem ne_sound (hu : X.A.units + 64 < cLine) {Z : Hp} {d e : D} {pins : List (Addr × Obj)} {s : Shared} {σ : L2.St} {H : Hp} {x y : V} {v u : Value} {Q : VK} (I : Inv X pins σ H s) (rx : RelV x v) (ry : RelV y u) (sz : Same Z H)
    (hx : RepS X.K J H Z x d) (hy : RepS X.K J H Z y e) (q : eqW d e fun z => Q (.bl (!z)) H) : wpAny (model X.prog X.w) X.A (compareOp .NotEq v u) (EP X pins σ Q) X.xe s := by
  have gen : shaped d ∧ shaped e ∧ Q (.bl (!PyData.eqv d e)) H → wpAny (model X.prog X.w) X.A (compareOp .NotEq v u) (EP X pins σ Q) X.xe s := fun ⟨q0, q1, q2⟩ =>
    op_neD hu pins s σ H _ _ v u Q I rx ry ⟨_, _, hx.dp sz (shaped_no q0), hy.dp sz (shaped_no q1), q0, q1, q2⟩
  unfold eqW at q
  cases d with
  | int i =>
    cases e with
    | int j =>
      cases rep_int hx; cases rep_int hy
      exact op_ne pins s σ H (.int i) (.int j) v u Q I rx ry ⟨rfl, by rw [v_int]; exact q⟩
    | _ => exact gen ⟨shaped_int _, q.1, q.2⟩
  | str i =>
    cases e with
    | str j =>
      cases rep_str hx; cases rep_str hy
      exact op_ne pins s σ H (.str i) (.str j) v u Q I rx ry ⟨rfl, by rw [v_str]; exact q⟩
    | _ => exact gen q
  | _ => exact gen q
theorem flat_rep {K : PySem.W.Frag} {Z : Hp} {v : V} {d : D} (h : Rep K J Z v d) (f : flatD d = true) : flatV v = true := by
  cases h <;> first | rfl | exact absurd (show false = true from f) Bool.false_ne_true
theorem flat_eqv {K : PySem.W.Frag} {Z : Hp} {v w : V} {d e : D} (h : Rep K J Z v d) (f : flatD d = true) (h' : Rep K J Z w e) (f' : flatD e = true) : eqV w v = PyData.eqv e d := by
  cases h <;> first | (exact absurd (show false = true from f) Bool.false_ne_true) | skip
  all_goals (cases h' <;> first | (exact absurd (show false = true from f') Bool.false_ne_true) | skip)
  all_goals (unfold eqV PyData.eqv; first | rfl | (simp [Bool.beq_eq_decide_eq]) | skip)
theorem flat_all {K : PySem.W.Frag} {Z : Hp} : ∀ {vs : List V} {ds : List D}, RepL K J Z vs ds → ds.all flatD = true → vs.all flatV = true
  | _, _, .nil, _ => rfl
  | _, _, .cons h l, f => by
    rw [List.all_cons, Bool.and_eq_true] at f ⊢
    exact ⟨flat_rep h f.1, flat_all l f.2⟩
theorem in_flat {K : PySem.W.Frag} {Z : Hp} {v : V} {d : D} (h : Rep K J Z v d) (f : flatD d = true) : ∀ {vs : List V} {ds : List D}, RepL K J Z vs ds → ds.all flatD = true → inV v vs = inD d ds
  | _, _, .nil, _ => rfl
  | _, _, .cons h' l, f' => by
    rw [List.all_cons, Bool.and_eq_true] at f'
    have := in_flat h f l f'.2
    unfold inV inD at this ⊢
    rw [List.any_cons, List.any_cons, this, flat_eqv h f h' f'.1]
theorem repS_flat {K : PySem.W.Frag} {H Z : Hp} {v : V} {d : D} (h : RepS K J H Z v d) (f : flatD d = true) : Rep K J Z v d := by
  cases d <;> first | exact h | exact absurd (show false = true from f) Bool.false_ne_true
theorem in_sound (hu : X.A.units + 65 < cLine) {Z : Hp} {d e : D} {pins : List (Addr × Obj)} {s : Shared} {σ : L2.St} {H : Hp} {x y : V} {v u : Value} {Q : VK} (I : Inv X pins σ H s) (rx : RelV x v) (ry : RelV y u) (sz : Same Z H)
    (hx : RepS X.K J H Z x d) (hy : RepS X.K J H Z y e) (q : inW d e fun z => Q (.bl z) H) : wpAny (model X.prog X.w) X.A (compareOp .In v u) (EP X pins σ Q) X.xe s := by
  unfold inW at q
  split at q
  · obtain ⟨q0, q1, q2⟩ := q
    exact op_inD hu pins s σ H _ _ v u Q I rx ry ⟨_, _, hx.dp sz (shaped_no q0), hy.dp sz (shaped_no q1), q0, q1, q2⟩
  · obtain ⟨q0, q1, q2⟩ := q
    obtain ⟨a, vs, rfl, e1, l1⟩ := rep_tup hy
    have hx' := repS_flat hx q0
    refine op_in_seq pins s σ H _ _ v u Q I rx ry ⟨_, _, rfl, .inr (sqT_mono sz e1), flat_rep hx' q0, flat_all l1 q1, ?_⟩
    rw [if_neg Bool.false_ne_true, in_flat hx' q0 l1 q1]
    exact q2
  · exact q.elim
theorem notin_sound (hu : X.A.units + 65 < cLine) {Z : Hp} {d e : D} {pins : List (Addr × Obj)} {s : Shared} {σ : L2.St} {H : Hp} {x y : V} {v u : Value} {Q : VK} (I : Inv X pins σ H s) (rx : RelV x v) (ry : RelV y u) (sz : Same Z H)
    (hx : RepS X.K J H Z x d) (hy : RepS X.K J H Z y e) (q : inW d e fun z => Q (.bl (!z)) H) : wpAny (model X.prog X.w) X.A (compareOp .NotIn v u) (EP X pins σ Q) X.xe s := by
  unfold inW at q
  split at q
  · obtain ⟨q0, q1, q2⟩ := q
    exact op_notInD hu pins s σ H _ _ v u Q I rx ry ⟨_, _, hx.dp sz (shaped_no q0), hy.dp sz (shaped_no q1), q0, q1, q2⟩
  · obtain ⟨q0, q1, q2⟩ := q
    obtain ⟨a, vs, rfl, e1, l1⟩ := rep_tup hy
    have hx' := repS_flat hx q0
    refine op_notIn_seq pins s σ H _ _ v u Q I rx ry ⟨_, _, rfl, .inr (sqT_mono sz e1), flat_rep hx' q0, flat_all l1 q1, ?_⟩
    rw [if_pos rfl, in_flat hx' q0 l1 q1]
    exact q2
  · exact q.elim
theorem lt_sound (hu : X.A.units < cLine) {Z : Hp} {d e : D} {pins : List (Addr × Obj)} {s : Shared} {σ : L2.St} {H : Hp} {x y : V} {v u : Value} {Q : VK} (I : Inv X pins σ H s) (rx : RelV x v) (ry : RelV y u) (sz : Same Z H)
    (hx : RepS X.K J H Z x d) (hy : RepS X.K J H Z y e) (q : ordW (fun i j => decide (i < j)) HT.lexLt d e fun z => Q (.bl z) H) : wpAny (model X.prog X.w) X.A (compareOp .Lt v u) (EP X pins σ Q) X.xe s := by
  unfold ordW at q
  split at q
  · split at q
    · cases rep_int hx; cases rep_int hy
      exact op_lt pins s σ H _ _ v u Q I rx ry ⟨_, _, rfl, rfl, q⟩
    · exact q.elim
  · split at q
    · split at q
      · rename_i e1
        split at q
        · rename_i e2
          obtain ⟨a, vs, rfl, f1, l1⟩ := rep_tup hx
          obtain ⟨b, ws, rfl, f2, l2⟩ := rep_tup hy
          obtain ⟨rfl, _⟩ := l1.ints e1
          obtain ⟨rfl, _⟩ := l2.ints e2
          exact op_ltT hu pins s σ H _ _ v u Q I rx ry ⟨_, _, _, _, rfl, rfl, sqT_mono sz f1, sqT_mono sz f2, q⟩
        · exact q.elim
      · exact q.elim
    · exact q.elim
  · exact q.elim
theorem cmp_all (hu : X.A.units + 65 < cLine) {o : CO} {op : CmpOp} (h : coMatch o op = true) : OpR X (compareOp op) (rCmp X.K J o) := by
  rintro pins s σ H x y v u Q I rx ry ⟨Z, d, e, sz, hx, hy, q⟩
  unfold cmpW at q
  cases o <;> cases op <;> first | (exact absurd (show false = true from h) Bool.false_ne_true) | skip
  · exact eq_sound (by omega) I rx ry sz hx hy q
  · exact ne_sound (by omega) I rx ry sz hx hy q
  · exact lt_sound (by omega) I rx ry sz hx hy q
  all_goals dsimp only at q
  · split at q
    · split at q
      · cases rep_int hx; cases rep_int hy
        exact op_le pins s σ H _ _ v u Q I rx ry ⟨_, _, rfl, rfl, q⟩
      · exact q.elim
    · exact q.elim
  · split at q
    · split at q
      · cases rep_int hx; cases rep_int hy
        exact op_gt pins s σ H _ _ v u Q I rx ry ⟨_, _, rfl, rfl, q⟩
      · exact q.elim
    · exact q.elim
  · split at q
    · split at q
      · cases rep_int hx; cases rep_int hy
        exact op_ge pins s σ H _ _ v u Q I rx ry ⟨_, _, rfl, rfl, q⟩
      · exact q.elim
    · exact q.elim
  · exact in_sound hu I rx ry sz hx hy q
  · exact notin_sound hu I rx ry sz hx hy q
/-! ### truth -/
theorem len_eq {α β : Type} {xs : List α} {ys : List β} (h : xs.length = ys.length) : xs.isEmpty = ys.isEmpty := by
  cases xs <;> cases ys <;> first | rfl | cases h
theorem tru_sound : TruR X (fun x H Q => ∃ Z d, Same Z H ∧ RepS X.K J H Z x d ∧ truW d fun b => Q b H) := by
  rintro pins s σ H x v Q I rx ⟨Z, d, sz, hx, q⟩
  unfold truW at q
  split at q
  · cases rep_none hx; exact tru_ok pins s σ H _ v Q I rx ⟨_, rfl, q⟩
  · cases rep_bool hx; exact tru_ok pins s σ H _ v Q I rx ⟨_, rfl, q⟩
  · cases rep_int hx; exact tru_ok pins s σ H _ v Q I rx ⟨_, rfl, q⟩
  · obtain ⟨a, vs, rfl, e1, e2, l1⟩ := hx
    exact tru_ok pins s σ H _ v Q I rx ⟨_, .inl ⟨_, .of e1, rfl⟩, by rw [len_eq l1.length]; exact q⟩
  · obtain ⟨a, vs, rfl, e1, l1⟩ := rep_tup hx
    exact tru_ok pins s σ H _ v Q I rx ⟨_, .inr (.inl ⟨_, sqT_mono sz e1, rfl⟩), by rw [len_eq l1.length]; exact q⟩
  · exact q.elim
/-! ### a[i], a[i:j] -/
def rIxD (K : PySem.W.Frag) (J : Jar) : R2 := fun x y H Q => ∃ Z d e, Same Z H ∧ RepS K J H Z x d ∧ RepS K J H Z y e ∧ ixW d e fun z => ∀ v, Rep K J Z v z → Q v H
theorem at_rep {K : PySem.W.Frag} {Z : Hp} {vs : List V} {ds : List D} {i : Int} {d : D} (l : RepL K J Z vs ds) (h : atD ds i = some d) : ∃ v, atI vs i = some v ∧ Rep K J Z v d := by
  unfold atD atI at h
  unfold atI
  rw [l.length]
  cases e : ixN ds.length i with
  | none => rw [e] at h; cases h
  | some j =>
    rw [e] at h
    exact l.get h
theorem ix_sound : IxR X (rIxD X.K J) := by
  rintro va sl pins s σ H x y v u Q I rx ry ⟨Z, d, e, sz, hx, hy, q⟩ hsu
  unfold ixW at q
  split at q
  · cases rep_int hy
    split at q
    · split at q
      · rename_i e1
        obtain ⟨a, vs, rfl, f1, f2, l1⟩ := hx
        obtain ⟨w, g1, g2⟩ := at_rep l1 e1
        exact ix_list va sl pins s σ H _ _ v u Q I rx ry ⟨_, _, _, _, rfl, rfl, .of f1, g1, q _ g2⟩ hsu
      · exact q.elim
    · split at q
      · rename_i e1
        obtain ⟨a, vs, rfl, f1, l1⟩ := rep_tup hx
        obtain ⟨w, g1, g2⟩ := at_rep l1 e1
        exact ix_tup va sl pins s σ H _ _ v u Q I rx ry ⟨_, _, _, _, rfl, rfl, sqT_mono sz f1, g1, q _ g2⟩ hsu
      · exact q.elim
    · exact q.elim
  · exact q.elim
def rCutD (K : PySem.W.Frag) (J : Jar) : V → Option Int → Option Int → Hp → VK → Prop := fun x lo hi H Q => ∃ Z d, Same Z H ∧ (∀ a xs, Z a = some (.lst xs) ∨ Z a = some (.tup xs) → xs.length ≤ sizeLine) ∧ RepS K J H Z x d ∧
  match d with
  | .list ds => ∀ v H', Res K J H Z (.new (cutD ds lo hi)) v H' → Q v H'
  | .tuple ds => ∀ v H', Res K J H Z (.val (.tuple (cutD ds lo hi))) v H' → Q v H'
  | _ => False
theorem cut_rep {K : PySem.W.Frag} {Z : Hp} {vs : List V} {ds : List D} (l : RepL K J Z vs ds) (lo hi : Option Int) : RepL K J Z (cutV vs lo hi) (cutD ds lo hi) := by
  unfold cutV cutD
  rw [l.length]
  exact (l.drop _).take _
theorem cut_whole {α : Type} {xs : List α} {lo hi : Option Int} (h : HT.sIx xs.length 0 lo = 0 ∧ HT.sIx xs.length xs.length hi = xs.length) : (xs.drop (HT.sIx xs.length 0 lo)).take (HT.sIx xs.length xs.length hi - HT.sIx xs.length 0 lo) = xs := by
  rw [h.1, h.2]
  simp
theorem cut_sound : SlR X (rCutD X.K J) := by
  rintro pins s σ H x v vl vu lo hi sl Q I rx hs pl pu ⟨Z, d, sz, zs, hx, q⟩
  cases d with
  | list ds =>
    obtain ⟨a, vs, rfl, f1, f2, l1⟩ := hx
    exact sl_list pins s σ H _ v vl vu lo hi sl Q I rx hs pl pu ⟨_, _, rfl, .of f1, fun p hp => q _ _ ⟨p, _, hp, rfl, rfl, cut_rep l1 lo hi, Nat.le_trans (cutV_length _ _ _) f2⟩⟩
  | tuple ds =>
    obtain ⟨a, vs, rfl, f1, l1⟩ := rep_tup hx
    obtain ⟨its, _, _, f2⟩ := I.tuple (sqT_mono sz f1)
    refine sl_tupA pins s σ H _ v vl vu lo hi sl Q I rx hs pl pu ⟨_, _, rfl, sqT_mono sz f1, fun w => ?_, fun _ p hp => ?_⟩
    · refine q _ _ (.inl ⟨rfl, ?_⟩)
      have w' := w
      rw [l1.length] at w'
      have e : cutD ds lo hi = ds := cut_whole w'
      rw [e]
      exact .tup f1 l1
    · exact q _ _ (.inr ⟨p, _, _, hp, rfl, rfl, rfl, cut_rep l1 lo hi, Nat.le_trans (cutV_length _ _ _) f2⟩)
  | _ => exact q.elim
end
end G

set_option linter.all false
set_option maxRecDepth 100000
set_option Elab.async false
/-! Sd: builtins by values. -/
namespace G
open PySem PySem.Spec PyProof.Rows L2

inductive RepSL (K : PySem.W.Frag) (J : Jar) (H Z : Hp) : List V → List D → Prop
  | nil : RepSL K J H Z [] []
  | cons {v : V} {vs : List V} {d : D} {ds : List D} : RepS K J H Z v d → RepSL K J H Z vs ds → RepSL K J H Z (v :: vs) (d :: ds)
def biVal : BI → Value
  | .list => .type "list" | .tuple => .type "tuple" | .int => .type "int" | .bool => .type "bool" | .str => .type "str"
  | .len => .builtin "len" | .abs => .builtin "abs" | .min2 => .builtin "min" | .max2 => .builtin "max" | .min1 => .builtin "min" | .max1 => .builtin "max" | .sum => .builtin "sum" | .sorted => .builtin "sorted"
  | .repr => .builtin "repr" | .all => .builtin "all" | .any => .builtin "any" | .divmod => .builtin "divmod" | .gcd => .builtin "math.gcd" | _ => .builtin "isinstance"
def rBi (K : PySem.W.Frag) (J : Jar) (k : BI) : List V → Hp → VK → Prop := fun xs H Q => ∃ Z ds, Same Z H ∧ RepSL K J H Z xs ds ∧ biW k ds fun z => ∀ v H', Res K J H Z z v H' → Q v H'
theorem repSL1 {K : PySem.W.Frag} {J : Jar} {H Z : Hp} {xs : List V} {d : D} (h : RepSL K J H Z xs [d]) : ∃ v, xs = [v] ∧ RepS K J H Z v d := by
  cases h with | cons h t => cases t; exact ⟨_, rfl, h⟩
theorem repSL2 {K : PySem.W.Frag} {J : Jar} {H Z : Hp} {xs : List V} {d e : D} (h : RepSL K J H Z xs [d, e]) : ∃ v w, xs = [v, w] ∧ RepS K J H Z v d ∧ RepS K J H Z w e := by
  cases h with | cons h t => cases t with | cons h' t => cases t; exact ⟨_, _, rfl, h, h'⟩
section
variable {X : Cx} {J : Jar}
/-- repr of data -/
theorem call_reprD (gd : X.A.guards = some []) (hu : X.A.units + 100 < cLine) : CallR X (.builtin "repr") (fun xs H Q => ∃ x d, xs = [x] ∧ Dp X.K H x d ∧ d.showable = true ∧ d.depth ≤ 64 ∧ d.hasDict = false ∧ d.shown.length ≤ sizeLine ∧ Q (.str d.shown) H) := by
  intro pins s σ H xs us Q I r h
  obtain ⟨x, d, rfl, hd, h1, h2, h3, h4, q⟩ := h
  obtain ⟨u, rfl, rx⟩ := vals1 r
  cases hd with
  | non => cases rx; exact PySem.P.repr_of_none ⟨.str _, H, I.tok _, ⟨_, rfl⟩, by simpa only [PyData.shown] using q⟩
  | bl b => cases rx; exact PySem.P.repr_of_bool ⟨.str _, H, I.tok _, ⟨_, rfl⟩, by simpa only [PyData.shown] using q⟩
  | int i => obtain ⟨t, rfl⟩ := rx; exact PySem.P.repr_of_int (by simpa [PyData.showable] using h1) ⟨.str _, H, I.tok _, ⟨_, rfl⟩, by simpa only [PyData.shown] using q⟩
  | str y => obtain ⟨t, rfl⟩ := rx; exact PySem.P.repr_of_str ⟨.str _, H, I.tok _, ⟨_, rfl⟩, by simpa only [PyData.shown] using q⟩ (by simpa only [PyData.shown] using h4)
  | lst hl l =>
    cases rx
    obtain ⟨as, rr⟩ := Dp.reads I _ _ _ (.lst hl l) rfl
    exact repr_of_reads' rr h1 (PyData.noDict_hsm h3) gd (by omega) (fun b o e => e) (fun h' u tk hk => ⟨.str _, H, I.kept (t' := tk) hk, ⟨_, rfl⟩, q⟩) h4
  | tup hl l =>
    cases rx
    obtain ⟨as, rr⟩ := Dp.reads I _ _ _ (.tup hl l) rfl
    exact repr_of_reads' rr h1 (PyData.noDict_hsm h3) gd (by omega) (fun b o e => e) (fun h' u tk hk => ⟨.str _, H, I.kept (t' := tk) hk, ⟨_, rfl⟩, q⟩) h4
/-- repr of {} -/
theorem call_repr0 (gd : X.A.guards = some []) (hu : X.A.units + 100 < cLine) : CallR X (.builtin "repr") (fun xs H Q => ∃ a, xs = [.ref a] ∧ H a = some (.dK []) ∧ Q (.str (PyData.dict []).shown) H) := by
  intro pins s σ H xs us Q I r h
  obtain ⟨a, rfl, ha, q⟩ := h
  obtain ⟨u, rfl, rx⟩ := vals1 r
  cases rx
  obtain ⟨_, na, vs, rk, o, es, n, e1, e2, e3⟩ := (show ObjOk X.prog X.w H s.heap a (.dK []) from I.hok a _ ha)
  cases rk
  have e4 : es = #[] := by
    have := e3.2.2.1.length
    rw [List.length_nil, Array.length_toList] at this
    exact Array.eq_empty_of_size_eq_zero this
  subst e4
  have hdp : (PyData.dict []).depth + 1 ≤ 65 := by decide
  have rr : Reads s.heap (.ref a) (.dict []) (a :: [] ++ []) := .dict e1 e2.1 e3.1 .nil .nil
  refine repr_of_reads' rr rfl (fun _ h => ?_) gd (Nat.lt_of_le_of_lt (Nat.add_le_add_left hdp _) (by omega)) (fun b o e => e) (fun h' u tk hk => ⟨.str _, H, I.kept (t' := tk) hk, ⟨_, rfl⟩, q⟩) (by rw [szl]; decide)
  rw [List.append_nil, List.mem_singleton] at h
  rw [← h] at na
  simp at na
theorem bits_le {i : Int} {n : Nat} (h : i.natAbs < 2 ^ n) : Builtin.Int.intBits i ≤ n := by
  unfold Builtin.Int.intBits
  split
  · exact Nat.zero_le _
  · rename_i z
    have z' : i.natAbs ≠ 0 := fun e => z (by simp [Int.natAbs_eq_zero.mp e])
    exact (Nat.log2_lt z').mpr h
theorem repS_list {K : PySem.W.Frag} {H Z : Hp} {v : V} {ds : List D} (h : RepS K J H Z v (.list ds)) : ∃ a vs, v = .ref a ∧ H a = some (.lst vs) ∧ vs.length ≤ sizeLine ∧ RepL K J Z vs ds := h
theorem bi_sound (hc : X.calm = true) (gd : X.A.guards = some []) (hu : X.A.units + 100 < cLine) {k : BI} (nk : isIsi k = false) : CallR X (biVal k) (rBi X.K J k) := by
  rintro pins s σ H xs us Q I r ⟨Z, ds, sz, hx, q⟩
  unfold biW at q
  cases k with
  | len =>
    dsimp only at q
    split at q
    · obtain ⟨v, rfl, h⟩ := repSL1 hx
      obtain ⟨a, vs, rfl, e1, _, l⟩ := repS_list h
      exact call_len_seq pins s σ H _ us Q I r ⟨_, _, rfl, .inl (.of e1), by rw [l.length]; exact q _ _ (.inl ⟨rfl, .int _⟩)⟩
    · obtain ⟨v, rfl, h⟩ := repSL1 hx
      obtain ⟨a, vs, rfl, e1, l⟩ := rep_tup h
      exact call_len_seq pins s σ H _ us Q I r ⟨_, _, rfl, .inr (sqT_mono sz e1), by rw [l.length]; exact q _ _ (.inl ⟨rfl, .int _⟩)⟩
    · obtain ⟨v, rfl, h⟩ := repSL1 hx
      cases rep_str h
      exact call_len_str pins s σ H _ us Q I r ⟨_, rfl, by rw [szl]; exact q.1, q.2 _ _ (.inl ⟨rfl, .int _⟩)⟩
    · exact q.elim
  | abs =>
    dsimp only at q
    split at q
    · obtain ⟨v, rfl, h⟩ := repSL1 hx
      cases rep_int h
      exact call_abs pins s σ H _ us Q I r ⟨_, rfl, q _ _ (.inl ⟨rfl, .int _⟩)⟩
    · exact q.elim
  | min2 =>
    dsimp only at q
    split at q
    · obtain ⟨v, w, rfl, h, h'⟩ := repSL2 hx
      cases rep_int h; cases rep_int h'
      exact call_min2 hc pins s σ H _ us Q I r ⟨_, _, rfl, q _ _ (.inl ⟨rfl, .int _⟩)⟩
    · exact q.elim
  | max2 =>
    dsimp only at q
    split at q
    · obtain ⟨v, w, rfl, h, h'⟩ := repSL2 hx
      cases rep_int h; cases rep_int h'
      exact call_max2 hc pins s σ H _ us Q I r ⟨_, _, rfl, q _ _ (.inl ⟨rfl, .int _⟩)⟩
    · exact q.elim
  | min1 =>
    dsimp only at q
    split at q
    · split at q
      · rename_i e
        obtain ⟨v, rfl, h⟩ := repSL1 hx
        obtain ⟨a, vs, rfl, e1, _, l⟩ := repS_list h
        obtain ⟨rfl, _⟩ := l.ints e
        exact cr_min hc pins s σ H _ us Q I r ⟨_, _, rfl, .of e1, q.1, fun m h1 h2 => q.2 m h1 h2 _ _ (.inl ⟨rfl, .int _⟩)⟩
      · exact q.elim
    · exact q.elim
  | max1 =>
    dsimp only at q
    split at q
    · split at q
      · rename_i e
        obtain ⟨v, rfl, h⟩ := repSL1 hx
        obtain ⟨a, vs, rfl, e1, _, l⟩ := repS_list h
        obtain ⟨rfl, _⟩ := l.ints e
        exact cr_max hc pins s σ H _ us Q I r ⟨_, _, rfl, .of e1, q.1, fun m h1 h2 => q.2 m h1 h2 _ _ (.inl ⟨rfl, .int _⟩)⟩
      · exact q.elim
    · exact q.elim
  | sum =>
    dsimp only at q
    split at q
    · split at q
      · rename_i e
        obtain ⟨v, rfl, h⟩ := repSL1 hx
        obtain ⟨a, vs, rfl, e1, _, l⟩ := repS_list h
        obtain ⟨rfl, _⟩ := l.ints e
        exact cr_sum hc pins s σ H _ us Q I r ⟨_, _, rfl, .of e1, q _ _ (.inl ⟨rfl, .int _⟩)⟩
      · exact q.elim
    · exact q.elim
  | all =>
    dsimp only at q
    split at q
    · split at q
      · rename_i e
        obtain ⟨v, rfl, h⟩ := repSL1 hx
        obtain ⟨a, vs, rfl, e1, _, l⟩ := repS_list h
        cases l.bools e
        exact cr_all hc pins s σ H _ us Q I r ⟨_, _, rfl, .of e1, q _ _ (.inl ⟨rfl, .bl _⟩)⟩
      · exact q.elim
    · exact q.elim
  | any =>
    dsimp only at q
    split at q
    · split at q
      · rename_i e
        obtain ⟨v, rfl, h⟩ := repSL1 hx
        obtain ⟨a, vs, rfl, e1, _, l⟩ := repS_list h
        cases l.bools e
        exact cr_any hc pins s σ H _ us Q I r ⟨_, _, rfl, .of e1, q _ _ (.inl ⟨rfl, .bl _⟩)⟩
      · exact q.elim
    · exact q.elim
  | sorted =>
    dsimp only at q
    split at q
    · split at q
      · rename_i e
        obtain ⟨v, rfl, h⟩ := repSL1 hx
        obtain ⟨a, vs, rfl, e1, e2, l⟩ := repS_list h
        obtain ⟨rfl, _⟩ := l.ints e
        refine cr_sortedI pins s σ H _ us Q I r ⟨_, _, rfl, .of e1, fun ns' p h1 h2 hp => q ns' h1 h2 _ _ ⟨p, _, hp, rfl, rfl, .ofInts ns', ?_⟩⟩
        rw [List.length_map, h1.length_eq]
        rw [List.length_map] at e2
        exact e2
      · exact q.elim
    · exact q.elim
  | list =>
    dsimp only at q
    split at q
    · obtain ⟨v, rfl, h⟩ := repSL1 hx
      obtain ⟨a, vs, rfl, e1, e2, l⟩ := repS_list h
      exact call_list_of pins s σ H _ us Q I r ⟨_, _, rfl, .inl (.of e1), fun p hp => q _ _ ⟨p, _, hp, rfl, rfl, l, e2⟩⟩
    · obtain ⟨v, rfl, h⟩ := repSL1 hx
      obtain ⟨a, vs, rfl, e1, l⟩ := rep_tup h
      obtain ⟨_, _, _, e2⟩ := I.tuple (sqT_mono sz e1)
      exact call_list_of pins s σ H _ us Q I r ⟨_, _, rfl, .inr (sqT_mono sz e1), fun p hp => q _ _ ⟨p, _, hp, rfl, rfl, l, e2⟩⟩
    · exact q.elim
  | tuple =>
    dsimp only at q
    split at q
    · obtain ⟨v, rfl, h⟩ := repSL1 hx
      obtain ⟨a, vs, rfl, e1, e2, l⟩ := repS_list h
      exact call_tuple_of pins s σ H _ us Q I r ⟨_, _, rfl, .inl ⟨.of e1, fun p hp => q _ _ (.inr ⟨p, _, _, hp, rfl, rfl, rfl, l, e2⟩)⟩⟩
    · obtain ⟨v, rfl, h⟩ := repSL1 hx
      obtain ⟨a, vs, rfl, e1, l⟩ := rep_tup h
      exact call_tuple_of pins s σ H _ us Q I r ⟨_, _, rfl, .inr ⟨sqT_mono sz e1, q _ _ (.inl ⟨rfl, .tup e1 l⟩)⟩⟩
    · exact q.elim
  | int =>
    dsimp only at q
    split at q
    · obtain ⟨v, rfl, h⟩ := repSL1 hx
      cases rep_int h
      exact call_int1 pins s σ H _ us Q I r (.inl ⟨_, rfl, q _ _ (.inl ⟨rfl, .int _⟩)⟩)
    · obtain ⟨v, rfl, h⟩ := repSL1 hx
      cases rep_bool h
      exact call_int1 pins s σ H _ us Q I r (.inr ⟨_, rfl, q _ _ (.inl ⟨rfl, .int _⟩)⟩)
    · exact q.elim
  | bool =>
    dsimp only at q
    split at q
    · obtain ⟨v, rfl, h⟩ := repSL1 hx
      cases rep_int h
      exact call_bool1 pins s σ H _ us Q I r (.inl ⟨_, rfl, q _ _ (.inl ⟨rfl, .bl _⟩)⟩)
    · obtain ⟨v, rfl, h⟩ := repSL1 hx
      cases rep_bool h
      exact call_bool1 pins s σ H _ us Q I r (.inr ⟨_, rfl, q _ _ (.inl ⟨rfl, .bl _⟩)⟩)
    · exact q.elim
  | repr =>
    dsimp only at q
    split at q
    · obtain ⟨v, rfl, h⟩ := repSL1 hx
      obtain ⟨q1, q2, q3, q4, q⟩ := q
      rcases q3 with q3 | rfl
      · exact call_reprD gd hu pins s σ H _ us Q I r ⟨_, _, rfl, h.dp sz q3, q1, q2, q3, by rw [szl]; exact q4, q _ _ (.inl ⟨rfl, .str _⟩)⟩
      · cases (show Rep X.K J Z v (.dict []) from h) with
        | dct h2 => exact call_repr0 gd hu pins s σ H _ us Q I r ⟨_, rfl, sz _ _ h2, q _ _ (.inl ⟨rfl, .str _⟩)⟩
    · exact q.elim
  | divmod =>
    dsimp only at q
    split at q
    · obtain ⟨v, w, rfl, h, h'⟩ := repSL2 hx
      cases rep_int h; cases rep_int h'
      obtain ⟨⟨q1, q2⟩, q⟩ := q
      have fin : ∀ p, H p = none → Q (.ref p) (upd H p (.tup [.int (_ / _), .int (_ % _)])) := fun p hp => q _ _ (.inr ⟨p, _, _, hp, rfl, rfl, rfl, .cons (.int _) (.cons (.int _) .nil), by rw [szl]; show 2 ≤ 16777216; omega⟩)
      rcases q2 with q2 | q2
      · exact call_divmod pins s σ H _ us Q I r ⟨_, _, rfl, ⟨q1, q2⟩, fin⟩
      · exact call_divmodW pins s σ H _ us Q I r ⟨_, _, rfl, divp_ok q1 (Nat.le_trans (bits_le q2) (Nat.le_add_left _ _)), fin⟩
    · exact q.elim
  | gcd =>
    dsimp only at q
    split at q
    · obtain ⟨v, w, rfl, h, h'⟩ := repSL2 hx
      cases rep_int h; cases rep_int h'
      exact cr_gcd pins s σ H _ us Q I r ⟨_, _, rfl, q _ _ (.inl ⟨rfl, .int _⟩)⟩
    · exact q.elim
  | str =>
    dsimp only at q
    split at q
    · obtain ⟨v, rfl, h⟩ := repSL1 hx
      cases rep_int h
      exact call_str_int pins s σ H _ us Q I r ⟨_, rfl, q.1, q.2 _ _ (.inl ⟨rfl, .str _⟩)⟩
    · exact q.elim
  | _ => exact absurd (show true = false from nk) (by decide)
end
end G

set_option linter.all false
set_option maxRecDepth 100000
set_option Elab.async false
/-! Se: what the model does at a piece of the text, by the core term that says the same. -/
namespace G
open PySem PySem.Spec PyProof.Rows L2

/-- how an error that is told by plain data stands: its class, its own dict's place -/
abbrev XRT := Exn → Hp → Hp → Value → Option Addr → Prop
/-- what a call may be handed -/
structure Inn (J : Jar) (g : Gh) (H Z : Hp) : Prop where
  sub : Same Z H
  jar : J.P g H
  jz : ∀ b, J.A b → Z b = none
  zs : ∀ a xs, Z a = some (.lst xs) ∨ Z a = some (.tup xs) → xs.length ≤ sizeLine
  zo : ∀ a o, Z a = some o → (∃ xs, o = .lst xs) ∨ (∃ xs, o = .tup xs) ∨ o = .dK []
/-- what a call leaves -/
structure Out (J : Jar) (H Z : Hp) (g : Gh) (H' Z' : Hp) : Prop where
  same : Same Z Z'
  inn : Inn J g H' Z'
  frame : ∀ b o, H b = some o → ¬ J.A b → H' b = some o
  ng : ∀ b, H b ≠ none → Z b = none → Z' b = none
def spOf (K : PySem.W.Frag) (J : Jar) (XR : XRT) (C : Calls) (f : Nat) : Sp := fun vs H Q E => ∃ Z ds g, Inn J g H Z ∧ RepL K J Z vs ds ∧
  C f ds g (fun d g' => ∀ v H' Z', Out J H Z g' H' Z' → Rep K J Z' v d → Q v H') fun e g' => ∀ cls dd H' Z', Out J H Z g' H' Z' → XR e H' Z' cls dd → E cls dd H'
/-- the def at a does what the calls' table says of f -/
structure FnG (P : Program) (w : World) (K : PySem.W.Frag) (mg : Str → Option Value) (base : Heap) (J : Jar) (XR : XRT) (C : Calls) (lv f : Nat) (a : Addr) (fd : FuncData) (ps : List Str) : Prop where
  run : ∀ (A : Around) (outer : List Env) (s : Shared) (H : Hp) (args : Args) (us : List Value) (vs : List V) (Q : VK) (E : XK), Room lv A → A.guards = some [] → Env0 P w K mg base A outer s H → BindsTo s fd args (ps.zip us) →
    Vals vs us → vs.length = ps.length → spOf K J XR C f vs H Q E → codeAny (model P w) A (.call (.ref a) args) (CR (L2.CX P w) outer P w H s Q E) s
structure Facts (cf : Cfg) (mg : Str → Option Value) : Prop where
  free : ∀ x, cf.free.contains x = true → mg x = none
  gcd : cf.gcd = true → mg "gcd" = some (.builtin "math.gcd")
  consts : ∀ p ∈ cf.consts, ∃ t, mg p.1 = some (.int p.2 t)
/-- a def of the text: where it stands, how its arguments come -/
structure FnAt (P : Program) (w : World) (K : PySem.W.Frag) (mg : Str → Option Value) (base : Heap) (J : Jar) (XR : XRT) (C : Calls) (lv f : Nat) (nm : Str) (ps : List Str) (dv : List Int) : Prop where
  ex : ∃ a fd, mg nm = some (.ref a) ∧ PySem.W.keepIn K (.ref a) = true ∧ Binds K fd ps [] ∧ FnG P w K mg base J XR C lv f a fd ps ∧ (dv = [] → Plain fd ps) ∧ (dv ≠ [] → ∃ ds, Vals (dv.map V.int) ds ∧ Binds K fd ps ds)
/-- how the law's random state is read and changed: a dict with texts for keys, or a list -/
def JGet (dk : Bool) (H : Hp) (a : Addr) (k : Sum Int Str) (v : V) : Prop :=
  if dk = true then ∃ kvs x, k = .inr x ∧ H a = some (.dK kvs) ∧ valV kvs k = some v else ∃ vs i, k = .inl i ∧ H a = some (.lst vs) ∧ atI vs i = some v
def JPut (dk : Bool) (H : Hp) (a : Addr) (k : Sum Int Str) (v : V) (o : HO) : Prop :=
  if dk = true then ∃ kvs x, k = .inr x ∧ H a = some (.dK kvs) ∧ kvs.length < sizeLine ∧ o = .dK (putK kvs k v) else ∃ vs i j, k = .inl i ∧ H a = some (.lst vs) ∧ ixN vs.length i = some j ∧ o = .lst (vs.set j v)
structure JFacts (J : Jar) (a : Addr) (dk : Bool) : Prop where
  at_ : J.at_ = some a
  ja : J.A a
  get : ∀ g H k d, J.P g H → gget g k = some d → ∃ v, JGet dk H a k v ∧ ((∃ n, d = .int n ∧ v = .int n) ∨ ∃ (ns : List Int) (l : Addr), d = .list (ns.map .int) ∧ v = .ref l ∧ J.L k = some l ∧ J.A l ∧ H l = some (.lst (ns.map V.int)) ∧ ns.length ≤ sizeLine)
  putL : ∀ g H k ds l (ns : List Int), J.P g H → gget g k = some (.list ds) → J.L k = some l → ns.length ≤ sizeLine → J.P (gput g k (.list (ns.map .int))) (upd H l (.lst (ns.map V.int)))
  putI : ∀ g H k m n, J.P g H → gget g k = some (.int m) → ∃ o, JPut dk H a k (.int n) o ∧ J.P (gput g k (.int n)) (upd H a o)
/-- the script, as it was handed over -/
structure SFacts (K : PySem.W.Frag) (J : Jar) (a : Addr) : Prop where
  ex : ∃ ns : List Int, J.sc = some (a, ns) ∧ ns.length ≤ sizeLine ∧ ∀ g H, J.P g H → SqL K H a (ns.map V.int)
/-- all that is known where a body runs -/
structure Good (cf : Cfg) (J : Jar) (XR : XRT) (C : Calls) (lv : Nat) (X : Cx) (S : Sc) : Prop where
  calm : X.calm = true
  room : Room lv X.A
  gd : X.A.guards = some []
  nd : X.N.Nodup
  sc : X.env.scope = S.sc
  kd : S.sc.kind = .function
  st : ∀ x, S.st x = true → Loc X.env.scope x ∧ (X.fn x = true ∨ X.env.scope.names.lookup x = some .local)
  facts : Facts cf X.mg
  jf : ∀ dk, cf.jk = some dk → ∃ a, JFacts J a dk
  sf : cf.js = true → ∃ a, SFacts X.K J a
  fns : ∀ f p, cf.fns[f]? = some p → FnAt X.prog X.w X.K X.mg X.base J XR C lv f p.1 p.2 (cf.dfl.getD f [])

section
variable {cf : Cfg} {J : Jar} {XR : XRT} {C : Calls} {lv : Nat} {X : Cx} {S : Sc}
/-- an error's wish, at any later state -/
def XC (K : PySem.W.Frag) (J : Jar) (XR : XRT) (F : Fm) (σ : L2.St) (Z : Hp) (W : WX) (Y : XW) : Prop :=
  ∀ e r, Y e r → ∀ H' Z' cls dd, Same Z Z' → Rel K J F σ H' Z' r → XR e H' Z' cls dd → W cls dd σ H'
theorem XC.mono {K : PySem.W.Frag} {F : Fm} {σ : L2.St} {Z Z' : Hp} {W : WX} {Y : XW} (h : XC K J XR F σ Z W Y) (s : Same Z Z') : XC K J XR F σ Z' W Y := fun e r y H' Z2 cls dd s2 => h e r y H' Z2 cls dd (s.trans s2)
theorem XC.no {K : PySem.W.Frag} {F : Fm} {σ : L2.St} {Z : Hp} {W : WX} : XC K J XR F σ Z W noX := fun _ _ y => y.elim
def lE (K : PySem.W.Frag) (J : Jar) (XR : XRT) (C : Calls) (W : WX) (c : Ex) : TE := fun σ H Q => ∃ F Z r Y, Rel K J F σ H Z r ∧ XC K J XR F σ Z W Y ∧
  exW C c r (fun x r' => ∀ v H' Z', Same Z Z' → Rel K J F σ H' Z' r' → RepR K J F σ H' Z' r' x v → Q v H') Y
def lT (K : PySem.W.Frag) (J : Jar) (XR : XRT) (C : Calls) (W : WX) (c : Ts) : TT := fun σ H Q => ∃ F Z r Y, Rel K J F σ H Z r ∧ XC K J XR F σ Z W Y ∧
  tsW C c r (fun b r' => ∀ H' Z', Same Z Z' → Rel K J F σ H' Z' r' → Q b H') Y
def lEs (K : PySem.W.Frag) (J : Jar) (XR : XRT) (C : Calls) (W : WX) (c : Exs) : TA := fun σ H Q => ∃ F Z r Y, Rel K J F σ H Z r ∧ XC K J XR F σ Z W Y ∧
  exsW C c r (fun ds r' => ∀ vs H' Z', Same Z Z' → Rel K J F σ H' Z' r' → RepL K J Z' vs ds → Q vs H') Y
def lAs (K : PySem.W.Frag) (J : Jar) (XR : XRT) (C : Calls) (W : WX) (c : Exs) : TA := fun σ H Q => ∃ F Z r Y, Rel K J F σ H Z r ∧ XC K J XR F σ Z W Y ∧
  argsW C c r (fun ds r' => ∀ vs H' Z', Same Z Z' → Rel K J F σ H' Z' r' → RepSL K J H' Z' vs ds → Q vs H') Y
def lO (K : PySem.W.Frag) (J : Jar) (XR : XRT) (C : Calls) (W : WX) (c : Op) : TO := fun σ H Q => ∃ F Z r Y, Rel K J F σ H Z r ∧ XC K J XR F σ Z W Y ∧
  opwW C c r (fun o r' => ∀ H' Z', Same Z Z' → Rel K J F σ H' Z' r' → Q o H') Y
/-- what is walked gives these items -/
def Wk (K : PySem.W.Frag) (J : Jar) (Z : Hp) (ds : List D) (It : L2.It) : Prop :=
  ∀ (i : Nat) (H : Hp), Same Z H → (∀ d, ds[i]? = some d → It.go i H ∧ ∀ x H', It.yld i H x H' → Res K J H Z (.val d) x H') ∧ (ds.length ≤ i → It.stop i H)
def lW (K : PySem.W.Frag) (J : Jar) (XR : XRT) (C : Calls) (W : WX) (c : It) : TI := fun σ H R => ∃ F Z r Y, Rel K J F σ H Z r ∧ XC K J XR F σ Z W Y ∧
  itW C c r (fun ds r' => ∀ It H' Z', Same Z Z' → Rel K J F σ H' Z' r' → Wk K J Z' ds It → ds.length ≤ sizeLine → R It H') Y

theorem _root_.L2.PE.imp {e : Expr} {t t' : TE} (h : PE X e t) (hi : ∀ pins s σ H Q, Inv X pins σ H s → t' σ H Q → t σ H Q) : PE X e t' := ⟨fun pins s σ H Q I q => h.run pins s σ H Q I (hi pins s σ H Q I q)⟩
theorem _root_.L2.PT.imp {e : Expr} {t t' : TT} (h : PT X e t) (hi : ∀ pins s σ H Q, Inv X pins σ H s → t' σ H Q → t σ H Q) : PT X e t' := ⟨fun pins s σ H Q I q => h.run pins s σ H Q I (hi pins s σ H Q I q)⟩
theorem _root_.L2.PW.imp {e : Expr} {t t' : TT} (h : PW X e t) (hi : ∀ pins s σ H Q, Inv X pins σ H s → t' σ H Q → t σ H Q) : PW X e t' := ⟨fun wh pins s σ H Q I q => h.run wh pins s σ H Q I (hi pins s σ H Q I q)⟩
theorem _root_.L2.PA.imp {e : List Expr} {t t' : TA} (h : PA X e t) (hi : ∀ pins s σ H Q, Inv X pins σ H s → t' σ H Q → t σ H Q) : PA X e t' := ⟨fun p pins s σ H Q I q => h.run p pins s σ H Q I (hi pins s σ H Q I q)⟩

section
variable {K : PySem.W.Frag} {F : Fm} {σ : L2.St} {H Z : Hp} {r : En} {W : WX} {Y : XW} (hC : CMono C)
include hC
theorem use_pin {c : Ex} {Q : VK} {k : Rz → En → Prop} (R : Rel K J F σ H Z r) (hx : XC K J XR F σ Z W Y) (h : exW C c r k Y)
    (hk : ∀ x r1, k x r1 → ∀ v H1 Z1, Same Z Z1 → Rel K J F σ H1 Z1 r1 → Pin K J σ Z1 x v → Q v H1) : lE K J XR C W c σ H Q :=
  ⟨F, Z, r, Y, R, hx, exW_mono hC c (fun x r1 q v H1 Z1 s R1 p => let ⟨Z2, s2, R2, p2⟩ := R1.pinned p; hk x r1 q v H1 Z2 (s.trans s2) R2 p2) (fun _ _ q => q) h⟩
theorem use_E {c : Ex} {Q : VK} {k : Rz → En → Prop} (R : Rel K J F σ H Z r) (hx : XC K J XR F σ Z W Y) (h : exW C c r k Y)
    (hk : ∀ x r1, k x r1 → ∀ v H1 Z1, Same Z Z1 → Rel K J F σ H1 Z1 r1 → RepR K J F σ H1 Z1 r1 x v → Q v H1) : lE K J XR C W c σ H Q :=
  ⟨F, Z, r, Y, R, hx, exW_mono hC c hk (fun _ _ q => q) h⟩
theorem use_T {c : Ts} {Q : Bool → Hp → Prop} {k : Bool → En → Prop} (R : Rel K J F σ H Z r) (hx : XC K J XR F σ Z W Y) (h : tsW C c r k Y)
    (hk : ∀ b r1, k b r1 → ∀ H1 Z1, Same Z Z1 → Rel K J F σ H1 Z1 r1 → Q b H1) : lT K J XR C W c σ H Q :=
  ⟨F, Z, r, Y, R, hx, tsW_mono hC c hk (fun _ _ q => q) h⟩
theorem use_Es {c : Exs} {Q : List V → Hp → Prop} {k : List D → En → Prop} (R : Rel K J F σ H Z r) (hx : XC K J XR F σ Z W Y) (h : exsW C c r k Y)
    (hk : ∀ b r1, k b r1 → ∀ vs H1 Z1, Same Z Z1 → Rel K J F σ H1 Z1 r1 → RepL K J Z1 vs b → Q vs H1) : lEs K J XR C W c σ H Q :=
  ⟨F, Z, r, Y, R, hx, exsW_mono hC c hk (fun _ _ q => q) h⟩
theorem use_As {c : Exs} {Q : List V → Hp → Prop} {k : List D → En → Prop} (R : Rel K J F σ H Z r) (hx : XC K J XR F σ Z W Y) (h : argsW C c r k Y)
    (hk : ∀ b r1, k b r1 → ∀ vs H1 Z1, Same Z Z1 → Rel K J F σ H1 Z1 r1 → RepSL K J H1 Z1 vs b → Q vs H1) : lAs K J XR C W c σ H Q :=
  ⟨F, Z, r, Y, R, hx, argsW_mono hC c hk (fun _ _ q => q) h⟩
theorem use_O {c : Op} {Q : Option Int → Hp → Prop} {k : Option Int → En → Prop} (R : Rel K J F σ H Z r) (hx : XC K J XR F σ Z W Y) (h : opwW C c r k Y)
    (hk : ∀ b r1, k b r1 → ∀ H1 Z1, Same Z Z1 → Rel K J F σ H1 Z1 r1 → Q b H1) : lO K J XR C W c σ H Q :=
  ⟨F, Z, r, Y, R, hx, opwW_mono hC c hk (fun _ _ q => q) h⟩
end

theorem marks_of {op : CmpOp} {e : Expr} (h : notSet e = true) : behindInMarks op e = false := by cases e <;> first | rfl | cases h
theorem marks_of2 {op op' : CmpOp} {b e : Expr} (h : notSet e = true) : lastMarks [op, op'] [b, e] = false := by cases e <;> first | rfl | cases h
/-! ### names, constants, operators -/
section
variable {W : WX} (G : Good cf J XR C lv X S) (hC : CMono C)
include G
theorem Good.vis {x : Str} (h : visB S x = true) : Vis X.env.scope x := by
  rw [G.sc]
  unfold visB lk at h
  split at h
  · exact .inl (by assumption)
  · exact .inr (.inl (by assumption))
  · exact .inr (.inr (by assumption))
  · cases h
theorem Good.gl {x : Str} (h : glB S x = true) : Gl X x := by
  show X.env.scope.names.lookup x = some .globalImplicit
  rw [G.sc]
  unfold glB lk at h
  split at h
  · assumption
  · cases h
theorem okName_of {x : Str} (h : okName x = true) : (x == ("__debug__" : Str)) = false ∧ (x == ("__classdict__" : Str)) = false := by
  unfold okName at h
  simpa using h
theorem s_v {i : Nat} {x : Str} {pos : Pos} (h1 : X.N[i]? = some x) (h2 : visB S x = true) (h3 : okName x = true) : PE X (.Name x pos) (lE X.K J XR C W (.v i)) := by
  obtain ⟨d1, d2⟩ := okName_of G h3
  refine (pe_var h1 (G.vis h2) d1 d2).imp fun pins s σ H Q I ⟨F, Z, r, Y, R, hx, h⟩ => ?_
  unfold exW at h
  split at h
  · rename_i d e
    obtain ⟨v, e1, e2⟩ := R.fz i d e
    exact ⟨v, e1, h v H Z (.refl _) R e2⟩
  · rename_i ds e
    obtain ⟨a, vs, e1, e2⟩ := R.ow i ds e
    exact ⟨_, e1, h _ H Z (.refl _) R ⟨e1, by rw [e]; exact fun z => by cases z⟩⟩
  · exact h.elim
omit G in
theorem s_const {e : Expr} {c : Ex} {v : V} {d : D} (he : PE X e (tC v)) (hr : ∀ Z, Rep X.K J Z v d) (hw : ∀ r k Y, exW C c r k Y → k (.val d) r) : PE X e (lE X.K J XR C W c) :=
  he.imp fun pins s σ H Q I ⟨F, Z, r, Y, R, hx, h⟩ => hw _ _ _ h v H Z (.refl _) R (hr Z)
theorem s_g {x y : Str} {n : Int} {pos : Pos} (e : x = y) (h1 : glB S x = true) (h2 : okName x = true) (h3 : (cf.consts.any fun p => decide (p.1 = x) && decide (p.2 = n)) = true) : PE X (.Name y pos) (lE X.K J XR C W (.g x n)) := by
  subst e
  obtain ⟨p, hp, e⟩ := List.any_eq_true.mp h3
  rw [Bool.and_eq_true, decide_eq_true_eq, decide_eq_true_eq] at e
  obtain ⟨t, m⟩ := G.facts.consts p hp
  rw [e.1, e.2] at m
  exact s_const (pe_glob (v := .int n) (G.gl h1) m ⟨t, rfl⟩ (okName_of G h2).1) (fun _ => .int _) fun _ _ _ h => by unfold exW at h; exact h
include hC
omit G in
theorem s_bin {o : BO} {op : Operator} {a b : Ex} {ea eb : Expr} {pos : Pos} (hm : boMatch o op = true) (ha : PE X ea (lE X.K J XR C W a)) (hb : PE X eb (lE X.K J XR C W b)) : PE X (.BinOp ea op eb pos) (lE X.K J XR C W (.bin o a b)) := by
  refine (pe_op (op_all (J := J) hm) ha hb).imp fun pins s σ H Q I ⟨F, Z, r, Y, R, hx, h⟩ => ?_
  unfold exW at h
  refine use_pin hC R hx h fun x r1 h1 v H1 Z1 s1 R1 p1 => ?_
  refine use_pin hC R1 (hx.mono s1) h1 fun y r2 h2 w H2 Z2 s2 R2 p2 => ?_
  obtain ⟨d, hd, h2⟩ := R2.der (p1.mono s2) h2
  obtain ⟨e, he, h2⟩ := R2.der p2 h2
  refine ⟨Z2, d, e, R2.sub, hd, he, opW_mono (fun z hz v' H' hr => ?_) h2⟩
  obtain ⟨Z3, s3, R3, q3⟩ := R2.res hr
  exact hz v' H' Z3 ((s1.trans s2).trans s3) R3 q3
omit G in
theorem s_neg {a : Ex} {ea : Expr} {pos : Pos} (ha : PE X ea (lE X.K J XR C W a)) : PE X (.UnaryOp .USub ea pos) (lE X.K J XR C W (.neg a)) := by
  refine (pe_un un_neg ha).imp fun pins s σ H Q I ⟨F, Z, r, Y, R, hx, h⟩ => ?_
  unfold exW at h
  refine use_pin hC R hx h fun x r1 h1 v H1 Z1 s1 R1 p1 => ?_
  obtain ⟨d, hd, h2⟩ := R1.der p1 h1
  split at h2
  · cases rep_int hd
    exact ⟨_, rfl, h2 _ H1 Z1 s1 R1 (.int _)⟩
  · exact h2.elim
theorem hu65 : X.A.units + 65 < cLine := by have := G.room.un; omega
theorem hu100 : X.A.units + 100 < cLine := by have := G.room.un; omega
theorem s_cmp {o : CO} {op : CmpOp} {a b : Ex} {ea eb : Expr} {pos : Pos} (hm : coMatch o op = true) (hn : notSet eb = true) (ha : PE X ea (lE X.K J XR C W a)) (hb : PE X eb (lE X.K J XR C W b)) :
    PE X (.Compare ea [op] [eb] pos) (lE X.K J XR C W (.cmp o a b)) := by
  refine (pe_cmpR (cmp_all (J := J) (hu65 G hC) hm) ha hb (marks_of hn)).imp fun pins s σ H Q I ⟨F, Z, r, Y, R, hx, h⟩ => ?_
  unfold exW at h
  refine use_pin hC R hx h fun x r1 h1 v H1 Z1 s1 R1 p1 => ?_
  refine use_pin hC R1 (hx.mono s1) h1 fun y r2 h2 w H2 Z2 s2 R2 p2 => ?_
  obtain ⟨d, hd, h2⟩ := R2.der (p1.mono s2) h2
  obtain ⟨e, he, h2⟩ := R2.der p2 h2
  exact ⟨Z2, d, e, R2.sub, hd, he, cmpW_mono (fun z hz => hz _ H2 Z2 (s1.trans s2) R2 (.bl _)) h2⟩
theorem t_cmp {o : CO} {op : CmpOp} {a b : Ex} {ea eb : Expr} {pos : Pos} (hm : coMatch o op = true) (hn : notSet eb = true) (ha : PE X ea (lE X.K J XR C W a)) (hb : PE X eb (lE X.K J XR C W b)) :
    PT X (.Compare ea [op] [eb] pos) (lT X.K J XR C W (.e (.cmp o a b))) := by
  refine (pt_cmpR (cmp_all (J := J) (hu65 G hC) hm) ha hb (marks_of hn)).imp fun pins s σ H Q I ⟨F, Z, r, Y, R, hx, h⟩ => ?_
  unfold tsW exW at h
  refine use_pin hC R hx h fun x r1 h1 v H1 Z1 s1 R1 p1 => ?_
  refine use_pin hC R1 (hx.mono s1) h1 fun y r2 h2 w H2 Z2 s2 R2 p2 => ?_
  obtain ⟨d, hd, h2⟩ := R2.der (p1.mono s2) h2
  obtain ⟨e, he, h2⟩ := R2.der p2 h2
  exact ⟨Z2, d, e, R2.sub, hd, he, cmpW_mono (fun z hz => ⟨z, rfl, hz H2 Z2 (s1.trans s2) R2⟩) h2⟩
theorem s_chain {o p : CO} {op op' : CmpOp} {a b c : Ex} {ea eb ec : Expr} {pos : Pos} (hm : coMatch o op = true) (hm' : coMatch p op' = true) (hn : notSet ec = true) (ha : PE X ea (lE X.K J XR C W a)) (hb : PE X eb (lE X.K J XR C W b)) (hc : PE X ec (lE X.K J XR C W c)) :
    PE X (.Compare ea [op, op'] [eb, ec] pos) (lE X.K J XR C W (.chain o p a b c)) := by
  refine (pe_chain (cmp_all (J := J) (hu65 G hC) hm) (cmp_all (J := J) (hu65 G hC) hm') ha hb hc (marks_of2 hn)).imp fun pins s σ H Q I ⟨F, Z, r, Y, R, hx, h⟩ => ?_
  unfold exW at h
  refine use_pin hC R hx h fun x r1 h1 v H1 Z1 s1 R1 p1 => ?_
  refine use_pin hC R1 (hx.mono s1) h1 fun y r2 h2 w H2 Z2 s2 R2 p2 => ?_
  obtain ⟨d, hd, h2⟩ := R2.der (p1.mono s2) h2
  obtain ⟨e, he, h2⟩ := R2.der p2 h2
  refine ⟨Z2, d, e, R2.sub, hd, he, cmpW_mono (fun z hz => ⟨z, rfl, ?_⟩) h2⟩
  split
  · rename_i hz'
    rw [if_pos hz'] at hz
    refine use_pin hC R2 (hx.mono (s1.trans s2)) hz fun y3 r3 h3 v3 H3 Z3 s3 R3 p3 => ?_
    obtain ⟨e', he', h3⟩ := R3.der (p2.mono s3) h3
    obtain ⟨f, hf, h3⟩ := R3.der p3 h3
    exact ⟨Z3, e', f, R3.sub, he', hf, cmpW_mono (fun z' hz'' => hz'' _ H3 Z3 ((s1.trans s2).trans s3) R3 (.bl _)) h3⟩
  · rename_i hz'
    rw [if_neg hz'] at hz
    exact hz _ H2 Z2 (s1.trans s2) R2 (.bl _)
theorem t_chain {o p : CO} {op op' : CmpOp} {a b c : Ex} {ea eb ec : Expr} {pos : Pos} (hm : coMatch o op = true) (hm' : coMatch p op' = true) (hn : notSet ec = true) (ha : PE X ea (lE X.K J XR C W a)) (hb : PE X eb (lE X.K J XR C W b)) (hc : PE X ec (lE X.K J XR C W c)) :
    PT X (.Compare ea [op, op'] [eb, ec] pos) (lT X.K J XR C W (.e (.chain o p a b c))) := by
  refine (pt_chain (cmp_all (J := J) (hu65 G hC) hm) (cmp_all (J := J) (hu65 G hC) hm') ha hb hc (marks_of2 hn)).imp fun pins s σ H Q I ⟨F, Z, r, Y, R, hx, h⟩ => ?_
  unfold tsW exW at h
  refine use_pin hC R hx h fun x r1 h1 v H1 Z1 s1 R1 p1 => ?_
  refine use_pin hC R1 (hx.mono s1) h1 fun y r2 h2 w H2 Z2 s2 R2 p2 => ?_
  obtain ⟨d, hd, h2⟩ := R2.der (p1.mono s2) h2
  obtain ⟨e, he, h2⟩ := R2.der p2 h2
  refine ⟨Z2, d, e, R2.sub, hd, he, cmpW_mono (fun z hz => ⟨z, rfl, ?_⟩) h2⟩
  split
  · rename_i hz'
    rw [if_pos hz'] at hz
    refine use_pin hC R2 (hx.mono (s1.trans s2)) hz fun y3 r3 h3 v3 H3 Z3 s3 R3 p3 => ?_
    obtain ⟨e', he', h3⟩ := R3.der (p2.mono s3) h3
    obtain ⟨f, hf, h3⟩ := R3.der p3 h3
    exact ⟨Z3, e', f, R3.sub, he', hf, cmpW_mono (fun z' hz'' => ⟨z', rfl, hz'' H3 Z3 ((s1.trans s2).trans s3) R3⟩) h3⟩
  · rename_i hz'
    rw [if_neg hz'] at hz
    exact ⟨false, rfl, hz H2 Z2 (s1.trans s2) R2⟩
omit G in
theorem isN_rep {K : PySem.W.Frag} {H Z : Hp} {v : V} {d : D} (h : RepS K J H Z v d) : decide (v = .non) = isNon d := by
  cases d with
  | none => cases rep_none h; rfl
  | bool b => cases rep_bool h; rfl
  | int b => cases rep_int h; rfl
  | str b => cases rep_str h; rfl
  | list ds => obtain ⟨a, vs, rfl, _⟩ := h; rfl
  | tuple ds => obtain ⟨a, vs, rfl, _⟩ := rep_tup h; rfl
  | dict kvs =>
    have h' : Rep K J Z v (.dict kvs) := h
    cases h' <;> rfl
omit G in
theorem s_isN {a : Ex} {ea : Expr} {k : Nat} {p pos : Pos} (ha : PE X ea (lE X.K J XR C W a)) : PE X (.Compare ea [.Is] [.Constant .none k p] pos) (lE X.K J XR C W (.isN a)) := by
  refine (pe_cmp (pc_isN ha) rfl).imp fun pins s σ H Q I ⟨F, Z, r, Y, R, hx, h⟩ => ?_
  unfold exW at h
  refine use_pin hC R hx h fun x r1 h1 v H1 Z1 s1 R1 p1 => ?_
  obtain ⟨d, hd, h2⟩ := R1.der p1 h1
  rw [isN_rep hC hd]
  exact h2 _ H1 Z1 s1 R1 (.bl _)
omit G in
theorem t_isN {a : Ex} {ea : Expr} {k : Nat} {p pos : Pos} (ha : PE X ea (lE X.K J XR C W a)) : PT X (.Compare ea [.Is] [.Constant .none k p] pos) (lT X.K J XR C W (.e (.isN a))) := by
  refine (pt_cmp (pc_isN ha) rfl).imp fun pins s σ H Q I ⟨F, Z, r, Y, R, hx, h⟩ => ?_
  unfold tsW exW at h
  refine use_pin hC R hx h fun x r1 h1 v H1 Z1 s1 R1 p1 => ?_
  obtain ⟨d, hd, h2⟩ := R1.der p1 h1
  refine ⟨_, rfl, ?_⟩
  rw [isN_rep hC hd]
  exact h2 H1 Z1 s1 R1
omit G in
theorem notN_rep {K : PySem.W.Frag} {H Z : Hp} {v : V} {d : D} (h : RepS K J H Z v d) : (!decide (v = .non)) = !isNon d := by
  rw [isN_rep hC h]
omit G in
theorem s_notN {a : Ex} {ea : Expr} {k : Nat} {p pos : Pos} (ha : PE X ea (lE X.K J XR C W a)) : PE X (.Compare ea [.IsNot] [.Constant .none k p] pos) (lE X.K J XR C W (.notN a)) := by
  refine (pe_cmp (pc_notN ha) rfl).imp fun pins s σ H Q I ⟨F, Z, r, Y, R, hx, h⟩ => ?_
  unfold exW at h
  refine use_pin hC R hx h fun x r1 h1 v H1 Z1 s1 R1 p1 => ?_
  obtain ⟨d, hd, h2⟩ := R1.der p1 h1
  rw [notN_rep hC hd]
  exact h2 _ H1 Z1 s1 R1 (.bl _)
omit G in
theorem t_notN {a : Ex} {ea : Expr} {k : Nat} {p pos : Pos} (ha : PE X ea (lE X.K J XR C W a)) : PT X (.Compare ea [.IsNot] [.Constant .none k p] pos) (lT X.K J XR C W (.e (.notN a))) := by
  refine (pt_cmp (pc_notN ha) rfl).imp fun pins s σ H Q I ⟨F, Z, r, Y, R, hx, h⟩ => ?_
  unfold tsW exW at h
  refine use_pin hC R hx h fun x r1 h1 v H1 Z1 s1 R1 p1 => ?_
  obtain ⟨d, hd, h2⟩ := R1.der p1 h1
  refine ⟨_, rfl, ?_⟩
  rw [notN_rep hC hd]
  exact h2 H1 Z1 s1 R1
end
end
end G

set_option linter.all false
set_option maxRecDepth 100000
set_option Elab.async false
/-! Sf: further expressions. -/
namespace G
open PySem PySem.Spec PyProof.Rows L2

theorem star_of {X : Cx} {e : Expr} {es : List Expr} (h : notStar e = true) : starEach (e :: es) X.env = (false, eval e X.env) :: starEach es X.env := by cases e <;> first | rfl | cases h
theorem star_any {X : Cx} : ∀ {es : List Expr}, es.all notStar = true → (starEach es X.env).any (·.1) = false
  | [], _ => rfl
  | e :: es, h => by
    rw [List.all_cons, Bool.and_eq_true] at h
    rw [star_of h.1, List.any_cons, star_any h.2]
    rfl
theorem back_any {pos : Pos} {l : List (Bool × Sem Value)} (h : l.any (·.1) = false) : (backTo pos l).any (·.1) = false := by
  unfold backTo
  rw [List.any_map]
  exact h
theorem and2 {a b : Bool} (h : (a && b) = true) : a = true ∧ b = true := by simpa using h

section
variable {K : PySem.W.Frag} {J : Jar} {F : Fm} {σ : L2.St} {H Z : Hp} {r : En}
/-- a slot is stored -/
theorem Rel.set (R : Rel K J F σ H Z r) {i : Nat} {v : V} {d : D} (hv : Rep K J Z v d) : Rel K J F (σ.set i (some v)) H Z (r.set i (.fz d)) := by
  refine ⟨R.sub, R.frame, R.jar, R.jz, by rw [List.length_set, En.length_set]; exact R.len, fun j e h => ?_, fun j es h => ?_, fun j k es fs b hj hk ej ek => ?_, R.zs, R.zo, R.ng, R.gf, R.alV fun k z => by cases z⟩
  · by_cases ij : i = j
    · subst ij
      have il : i < r.length := by have := rd_lt (r := r.set i (.fz d)) (i := i) (by rw [h]; exact fun z => by cases z); rwa [En.length_set] at this
      rw [rd_same il] at h
      cases h
      exact ⟨v, by rw [List.getElem?_set_self (by rw [R.len]; exact il)], hv⟩
    · rw [rd_ne ij] at h
      rw [List.getElem?_set_ne ij]
      exact R.fz j e h
  · by_cases ij : i = j
    · subst ij
      have il : i < r.length := by have := rd_lt (r := r.set i (.fz d)) (i := i) (by rw [h]; exact fun z => by cases z); rwa [En.length_set] at this
      rw [rd_same il] at h
      cases h
    · rw [rd_ne ij] at h
      rw [List.getElem?_set_ne ij]
      exact R.ow j es h
  · have nj : i ≠ j := by
      rintro rfl
      have il : i < r.length := by have := rd_lt (r := r.set i (.fz d)) (i := i) (by rw [hj]; exact fun z => by cases z); rwa [En.length_set] at this
      rw [rd_same il] at hj
      cases hj
    have nk : i ≠ k := by
      rintro rfl
      have il : i < r.length := by have := rd_lt (r := r.set i (.fz d)) (i := i) (by rw [hk]; exact fun z => by cases z); rwa [En.length_set] at this
      rw [rd_same il] at hk
      cases hk
    rw [rd_ne nj] at hj
    rw [rd_ne nk] at hk
    rw [List.getElem?_set_ne nj] at ej
    rw [List.getElem?_set_ne nk] at ek
    exact R.sep j k es fs b hj hk ej ek
/-- a slot is stored with a list that nobody holds -/
theorem Rel.setOw (R : Rel K J F σ H Z r) {i : Nat} {v : V} {ds : List D} (hv : RepR K J F σ H Z r (.new ds) v) : Rel K J F (σ.set i (some v)) H Z (r.set i (.ow ds)) := by
  obtain ⟨a, vs, rfl, e1, e2, e3, e4, e5, e6, e7⟩ := hv
  refine ⟨R.sub, R.frame, R.jar, R.jz, by rw [List.length_set, En.length_set]; exact R.len, fun j e h => ?_, fun j es h => ?_, fun j k es fs b hj hk ej ek => ?_, R.zs, R.zo, R.ng, R.gf, R.alV fun k z => by cases z⟩
  · by_cases ij : i = j
    · subst ij
      have il : i < r.length := by have := rd_lt (r := r.set i (.ow ds)) (i := i) (by rw [h]; exact fun z => by cases z); rwa [En.length_set] at this
      rw [rd_same il] at h
      cases h
    · rw [rd_ne ij] at h
      rw [List.getElem?_set_ne ij]
      exact R.fz j e h
  · by_cases ij : i = j
    · subst ij
      have il : i < r.length := by have := rd_lt (r := r.set i (.ow ds)) (i := i) (by rw [h]; exact fun z => by cases z); rwa [En.length_set] at this
      rw [rd_same il] at h
      cases h
      exact ⟨a, vs, by rw [List.getElem?_set_self (by rw [R.len]; exact il)], e1, e2, e3, e4, e5, e6⟩
    · rw [rd_ne ij] at h
      rw [List.getElem?_set_ne ij]
      exact R.ow j es h
  · by_cases nj : i = j
    · subst nj
      by_cases nk : i = k
      · exact nk
      · have il : i < σ.length := by
          have := rd_lt (r := r.set i (.ow ds)) (i := i) (by rw [hj]; exact fun z => by cases z)
          rw [En.length_set] at this
          rw [R.len]
          exact this
        rw [rd_ne nk] at hk
        rw [List.getElem?_set_self il] at ej
        rw [List.getElem?_set_ne nk] at ek
        cases ej
        exact absurd ek (e7 k fs hk)
    · by_cases nk : i = k
      · subst nk
        have il : i < σ.length := by
          have := rd_lt (r := r.set i (.ow ds)) (i := i) (by rw [hk]; exact fun z => by cases z)
          rw [En.length_set] at this
          rw [R.len]
          exact this
        rw [rd_ne nj] at hj
        rw [List.getElem?_set_self il] at ek
        rw [List.getElem?_set_ne nj] at ej
        cases ek
        exact absurd ej (e7 j es hj)
      · rw [rd_ne nj] at hj
        rw [rd_ne nk] at hk
        rw [List.getElem?_set_ne nj] at ej
        rw [List.getElem?_set_ne nk] at ek
        exact R.sep j k es fs b hj hk ej ek
/-- an owned list is changed -/
theorem Rel.mut (R : Rel K J F σ H Z r) {i : Nat} {ds es : List D} {a : Addr} {ws : List V} (hi : rd r i = .ow ds) (ha : σ[i]? = some (some (.ref a))) (hl : ws.length ≤ sizeLine) (hw : RepL K J Z ws es) :
    Rel K J F σ (upd H a (.lst ws)) Z (r.set i (.ow es)) := by
  obtain ⟨a', vs, h1, h2, h3, h4, h5, h6, h7⟩ := R.ow i ds hi
  rw [ha] at h1
  cases h1
  have il : i < r.length := rd_lt (by rw [hi]; exact fun z => by cases z)
  refine ⟨fun b o e => ?_, fun b o e n => ?_, J.stable _ H _ R.jar fun b hb => ?_, R.jz, by rw [En.length_set]; exact R.len, fun j d h => ?_, fun j fs h => ?_, fun j k fs gs b hj hk ej ek => ?_, R.zs, R.zo, R.ng, R.gf, fun j k h => (R.alS (fun k z => by cases z) j k h).2⟩
  · rw [upd_ne (by rintro rfl; rw [h5] at e; cases e)]; exact R.sub b o e
  · rw [upd_ne (by rintro rfl; rw [h6] at e; cases e)]; exact R.frame b o e n
  · rw [upd_ne (by rintro rfl; exact h7 hb)]
  · by_cases ij : i = j
    · subst ij; rw [rd_same il] at h; cases h
    · rw [rd_ne ij] at h; exact R.fz j d h
  · by_cases ij : i = j
    · subst ij; rw [rd_same il] at h; cases h
      exact ⟨a, ws, ha, upd_same, hl, hw, h5, h6, h7⟩
    · rw [rd_ne ij] at h
      obtain ⟨b, us, g1, g2, g3⟩ := R.ow j fs h
      refine ⟨b, us, g1, ?_, g3⟩
      rw [upd_ne]
      · exact g2
      · rintro rfl
        exact ij (R.sep i j ds fs b hi h ha g1)
  · have tr : ∀ m hs, rd (r.set i (.ow es)) m = .ow hs → ∃ hs', rd r m = .ow hs' := fun m hs h => by
      by_cases im : i = m
      · subst im; exact ⟨ds, hi⟩
      · rw [rd_ne im] at h; exact ⟨hs, h⟩
    obtain ⟨fs', hj'⟩ := tr j fs hj
    obtain ⟨gs', hk'⟩ := tr k gs hk
    exact R.sep j k fs' gs' b hj' hk' ej ek
/-- behind a call -/
theorem Rel.out {g : Gh} {H' Z' : Hp} (R : Rel K J F σ H Z r) (o : Out J H Z g H' Z') : Rel K J F σ H' Z' (r.at g) := by
  refine ⟨o.inn.sub, fun b x e n => o.frame b x (R.frame b x e n) n, o.inn.jar, o.inn.jz, R.len, fun i d e => ?_, fun i ds e => ?_, R.sep, o.inn.zs, o.inn.zo, fun b hb => ?_, R.gf, R.al⟩
  · obtain ⟨v, e1, e2⟩ := R.fz i d e
    exact ⟨v, e1, e2.mono o.same⟩
  · obtain ⟨a, vs, e1, e2, e3, e4, e5, e6, e7⟩ := R.ow i ds e
    exact ⟨a, vs, e1, o.frame _ _ e2 e7, e3, e4.mono o.same, o.ng a (by rw [e2]; exact fun z => by cases z) e5, e6, e7⟩
  · by_cases jb : J.A b
    · exact o.inn.jz b jb
    · cases q : F.o b with
      | none => exact absurd q (R.gf b hb)
      | some x => exact o.ng b (by rw [R.frame b x q jb]; exact fun z => by cases z) (R.ng b hb)
theorem Rel.inn (R : Rel K J F σ H Z r) : Inn J r.g H Z := ⟨R.sub, R.jar, R.jz, R.zs, R.zo⟩
/-- an object is guarded -/
def Fm.add (F : Fm) (a : Addr) (o : HO) : Fm := ⟨upd F.o a o, fun b => F.g b ∨ b = a⟩
theorem Rel.guard (R : Rel K J F σ H Z r) {a : Addr} {o : HO} (h : H a = some o) (hz : Z a = none) (hs : ∀ i es, rd r i = .ow es → σ[i]? ≠ some (some (.ref a))) : Rel K J (F.add a o) σ H Z r := by
  refine ⟨R.sub, fun b x e n => ?_, R.jar, R.jz, R.len, R.fz, fun i ds e => ?_, R.sep, R.zs, R.zo, fun b hb => ?_, fun b hb => ?_, R.al⟩
  · by_cases q : b = a
    · subst q
      have e' : upd F.o b o b = some x := e
      rw [upd_same] at e'
      cases e'
      exact h
    · have e' : upd F.o a o b = some x := e
      rw [upd_ne q] at e'
      exact R.frame b x e' n
  · obtain ⟨b, vs, e1, e2, e3, e4, e5, e6, e7⟩ := R.ow i ds e
    refine ⟨b, vs, e1, e2, e3, e4, e5, ?_, e7⟩
    show upd F.o a o b = none
    rw [upd_ne]
    · exact e6
    · rintro rfl; exact hs i ds e e1
  · rcases hb with hb | rfl
    · exact R.ng b hb
    · exact hz
  · show upd F.o a o b ≠ none
    by_cases q : b = a
    · subst q; rw [upd_same]; exact fun z => by cases z
    · rw [upd_ne q]
      rcases hb with hb | hb
      · exact R.gf b hb
      · exact absurd hb q
theorem Rel.unguard {a : Addr} {o : HO} (R : Rel K J (F.add a o) σ H Z r) (hf : F.o a = none) (nj : ¬ J.A a) (hg : ∀ b, F.g b → F.o b ≠ none) : Rel K J F σ H Z r ∧ H a = some o ∧ Z a = none ∧ ∀ i es, rd r i = .ow es → σ[i]? ≠ some (some (.ref a)) := by
  have ha : H a = some o := R.frame a o (show upd F.o a o a = some o from upd_same) nj
  have hz : Z a = none := R.ng a (.inr rfl)
  have hs : ∀ i es, rd r i = .ow es → σ[i]? ≠ some (some (.ref a)) := fun i es e q => by
    obtain ⟨b, vs, e1, e2, e3, e4, e5, e6, e7⟩ := R.ow i es e
    rw [q] at e1
    cases e1
    have e6' : upd F.o a o a = none := e6
    rw [upd_same] at e6'
    cases e6'
  refine ⟨⟨R.sub, fun b x e n => R.frame b x ?_ n, R.jar, R.jz, R.len, R.fz, fun i ds e => ?_, R.sep, R.zs, R.zo, fun b hb => R.ng b (.inl hb), hg, R.al⟩, ha, hz, hs⟩
  · show upd F.o a o b = some x
    rw [upd_ne (by rintro rfl; rw [hf] at e; cases e)]
    exact e
  · obtain ⟨b, vs, e1, e2, e3, e4, e5, e6, e7⟩ := R.ow i ds e
    refine ⟨b, vs, e1, e2, e3, e4, e5, ?_, e7⟩
    have e6' : upd F.o a o b = none := e6
    by_cases q : b = a
    · subst q; exact hf
    · rwa [upd_ne q] at e6'
/-- a guarded object is changed -/
theorem Rel.put (R : Rel K J F σ H Z r) {a : Addr} {o : HO} (hf : F.o a = none) (nj : ¬ J.A a) (hz : Z a = none) (hs : ∀ i es, rd r i = .ow es → σ[i]? ≠ some (some (.ref a))) : Rel K J F σ (upd H a o) Z r := by
  refine ⟨fun b x e => ?_, fun b x e n => ?_, J.stable _ H _ R.jar fun b hb => ?_, R.jz, R.len, R.fz, fun i ds e => ?_, R.sep, R.zs, R.zo, R.ng, R.gf, R.al⟩
  · rw [upd_ne (by rintro rfl; rw [hz] at e; cases e)]; exact R.sub b x e
  · rw [upd_ne (by rintro rfl; rw [hf] at e; cases e)]; exact R.frame b x e n
  · rw [upd_ne (by rintro rfl; exact nj hb)]
  · obtain ⟨b, vs, e1, e2, e3⟩ := R.ow i ds e
    refine ⟨b, vs, e1, ?_, e3⟩
    rw [upd_ne]
    · exact e2
    · rintro rfl; exact hs i ds e e1
theorem Rel.nog (R : Rel K J F σ H Z r) : ∀ b, F.g b → F.o b ≠ none := R.gf

/-! ### targets -/
mutual
def tgHas : Tg → Nat → Bool
  | .v i, j => i == j
  | .t ts, j => tgsHas ts j
def tgsHas : Tgs → Nat → Bool
  | .nil, _ => false
  | .cons t ts, j => tgHas t j || tgsHas ts j
end
/-- nothing but some slots has changed -/
def Agr (p : Nat → Bool) (σ σ' : L2.St) : Prop := σ'.length = σ.length ∧ ∀ j, p j = false → σ'[j]? = σ[j]?
def lG (K : PySem.W.Frag) (J : Jar) (t : Tg) : TG := fun v σ H Q => ∃ F Z r d, Rel K J F σ H Z r ∧ Rep K J Z v d ∧ tgW t d r fun r' => ∀ σ', Rel K J F σ' H Z r' → Agr (tgHas t) σ σ' → Q σ' H
def lGs (K : PySem.W.Frag) (J : Jar) (t : Tgs) : TGs := fun vs σ H Q => ∃ F Z r ds, Rel K J F σ H Z r ∧ RepL K J Z vs ds ∧ tgsW t ds r fun r' => ∀ σ', Rel K J F σ' H Z r' → Agr (tgsHas t) σ σ' → Q σ' H
end
section
variable {cf : Cfg} {J : Jar} {XR : XRT} {C : Calls} {lv : Nat} {X : Cx} {S : Sc}
theorem _root_.L2.PG.imp {e : Expr} {t t' : TG} (h : PG X e t) (hi : ∀ pins s v σ H Q, Inv X pins σ H s → t' v σ H Q → t v σ H Q) : PG X e t' := ⟨fun pins s σ H v u Q I r q => h.run pins s σ H v u Q I r (hi pins s v σ H Q I q)⟩
theorem _root_.L2.PGs.imp {e : List Expr} {t t' : TGs} (h : PGs X e t) (hi : ∀ pins s v σ H Q, Inv X pins σ H s → t' v σ H Q → t v σ H Q) : PGs X e t' := ⟨fun pins s σ H v u Q I r q => h.run pins s σ H v u Q I r (hi pins s v σ H Q I q)⟩
theorem asgEach_of {e : Expr} {es : List Expr} (h : notStar e = true) : assignEach (e :: es) X.env = (false, assign e X.env) :: assignEach es X.env := by cases e <;> first | rfl | cases h
def tgsLen : Tgs → Nat | .nil => 0 | .cons _ ts => tgsLen ts + 1
theorem chkTgs_len {N : List Str} : ∀ {ts : Tgs} {es : List Expr}, chkTgs N S ts es = true → (assignEach es X.env).length = tgsLen ts ∧ (assignEach es X.env).findIdx? (·.1) = none
  | .nil, [], _ => ⟨rfl, rfl⟩
  | .cons t ts, e :: es, h => by
    unfold chkTgs at h
    obtain ⟨h1, h⟩ := and2 h
    obtain ⟨h2, h⟩ := and2 h
    obtain ⟨h3, h4⟩ := chkTgs_len h
    rw [asgEach_of h1]
    refine ⟨by rw [List.length_cons, h3]; rfl, ?_⟩
    rw [List.findIdx?_cons, h4]
    rfl
  | .nil, _ :: _, h => by unfold chkTgs at h; cases h
  | .cons _ _, [], h => by unfold chkTgs at h; cases h
mutual
theorem tgW_ex : ∀ {t : Tg} {d : D} {r : En} {k : En → Prop}, tgW t d r k → ∃ r', k r'
  | .v i, d, r, k, h => by unfold tgW at h; exact ⟨_, h⟩
  | .t ts, d, r, k, h => by
    unfold tgW at h
    split at h
    · exact (tgsW_ex h).2
    · exact (tgsW_ex h).2
    · exact h.elim
theorem tgsW_ex : ∀ {t : Tgs} {d : List D} {r : En} {k : En → Prop}, tgsW t d r k → d.length = tgsLen t ∧ ∃ r', k r'
  | .nil, d, r, k, h => by unfold tgsW at h; obtain ⟨rfl, h⟩ := h; exact ⟨rfl, _, h⟩
  | .cons t ts, d, r, k, h => by
    unfold tgsW at h
    split at h
    · exact h.elim
    · obtain ⟨r1, h1⟩ := tgW_ex h
      obtain ⟨h2, h3⟩ := tgsW_ex h1
      exact ⟨by rw [List.length_cons, h2]; rfl, h3⟩
end
/-- a tuple or a list of that length, unpacked -/
theorem pg_seq {es : List Expr} {k : Nat} {pos : Pos} {t : TGs} {n : Nat} (hc : X.calm = true) (h : PGs X es t) (hn : (assignEach es X.env).length = n) (hst : (assignEach es X.env).findIdx? (·.1) = none) :
    PG X (.Tuple es k pos) (fun v σ H Q => gTup X.K n t v σ H Q ∨ gLst X.K n t v σ H Q) := by
  refine ⟨fun pins s σ H v u Q I r hw => ?_⟩
  rcases hw with hw | hw
  · exact (pg_tup hc h hn hst).run pins s σ H v u Q I r hw
  · exact (pg_lst hc h hn hst).run pins s σ H v u Q I r hw
mutual
theorem s_tg (G : Good cf J XR C lv X S) : ∀ {t : Tg} {e : Expr}, chkTg X.N S t e = true → PG X e (lG X.K J t)
  | .v i, .Name x p, h => by
    unfold chkTg at h
    obtain ⟨h1, h2⟩ := and2 h
    obtain ⟨h3, h4⟩ := G.st x h2
    refine (pg_name G.nd (of_decide_eq_true h1) h3 h4).imp fun pins s v σ H Q I ⟨F, Z, r, d, R, hv, q⟩ => ?_
    unfold tgW at q
    exact q _ (R.set hv) ⟨List.length_set, fun j hj => List.getElem?_set_ne (by unfold tgHas at hj; exact beq_eq_false_iff_ne.mp hj)⟩
  | .t ts, .Tuple es k p, h => by
    unfold chkTg at h
    obtain ⟨hn, hst⟩ := chkTgs_len (X := X) h
    refine (pg_seq G.calm (s_tgs G h) hn hst).imp fun pins s v σ H Q I ⟨F, Z, r, d, R, hv, q⟩ => ?_
    unfold tgW at q
    split at q
    · obtain ⟨a, vs, rfl, e1, e2, l⟩ := R.repS hv
      exact .inr ⟨a, vs, rfl, .of e1, by rw [l.length, (tgsW_ex q).1], F, Z, r, _, R, l, tgsW_mono ts (fun r1 q1 σ1 R1 a1 => q1 σ1 R1 (by unfold Agr tgHas; exact a1)) q⟩
    · obtain ⟨a, vs, rfl, e1, l⟩ := rep_tup hv
      exact .inl ⟨a, vs, rfl, sqT_mono R.sub e1, by rw [l.length, (tgsW_ex q).1], F, Z, r, _, R, l, tgsW_mono ts (fun r1 q1 σ1 R1 a1 => q1 σ1 R1 (by unfold Agr tgHas; exact a1)) q⟩
    · exact q.elim
  | .v _, .BoolOp .., h | .v _, .NamedExpr .., h | .v _, .BinOp .., h | .v _, .UnaryOp .., h | .v _, .Lambda .., h | .v _, .IfExp .., h | .v _, .Dict .., h | .v _, .Set .., h | .v _, .ListComp .., h | .v _, .SetComp .., h
  | .v _, .DictComp .., h | .v _, .GeneratorExp .., h | .v _, .Await .., h | .v _, .Yield .., h | .v _, .YieldFrom .., h | .v _, .Compare .., h | .v _, .Call .., h | .v _, .FormattedValue .., h | .v _, .JoinedStr .., h
  | .v _, .Constant .., h | .v _, .Attribute .., h | .v _, .Subscript .., h | .v _, .Starred .., h | .v _, .List .., h | .v _, .Tuple .., h | .v _, .Slice .., h => by unfold chkTg at h; cases h
  | .t _, .BoolOp .., h | .t _, .NamedExpr .., h | .t _, .BinOp .., h | .t _, .UnaryOp .., h | .t _, .Lambda .., h | .t _, .IfExp .., h | .t _, .Dict .., h | .t _, .Set .., h | .t _, .ListComp .., h | .t _, .SetComp .., h
  | .t _, .DictComp .., h | .t _, .GeneratorExp .., h | .t _, .Await .., h | .t _, .Yield .., h | .t _, .YieldFrom .., h | .t _, .Compare .., h | .t _, .Call .., h | .t _, .FormattedValue .., h | .t _, .JoinedStr .., h
  | .t _, .Constant .., h | .t _, .Attribute .., h | .t _, .Subscript .., h | .t _, .Starred .., h | .t _, .List .., h | .t _, .Name .., h | .t _, .Slice .., h => by unfold chkTg at h; cases h
theorem s_tgs (G : Good cf J XR C lv X S) : ∀ {t : Tgs} {e : List Expr}, chkTgs X.N S t e = true → PGs X e (lGs X.K J t)
  | .nil, [], h => by
    refine pgs_nil.imp fun pins s v σ H Q I ⟨F, Z, r, d, R, hv, q⟩ => ?_
    unfold tgsW at q
    obtain ⟨rfl, q⟩ := q
    cases hv
    exact ⟨rfl, q _ R ⟨rfl, fun _ _ => rfl⟩⟩
  | .cons t ts, e :: es, h => by
    unfold chkTgs at h
    obtain ⟨h1, h⟩ := and2 h
    obtain ⟨h2, h⟩ := and2 h
    refine (pgs_cons (s_tg G h2) (s_tgs G h) (by rw [asgEach_of h1]; rfl)).imp fun pins s v σ H Q I ⟨F, Z, r, d, R, hv, q⟩ => ?_
    unfold tgsW at q
    split at q
    · exact q.elim
    · cases hv with
      | cons hv hr =>
        refine ⟨_, _, rfl, F, Z, r, _, R, hv, tgW_mono t (fun r1 q1 σ1 R1 a1 => ?_) q⟩
        refine ⟨F, Z, r1, _, R1, hr, tgsW_mono ts (fun r2 q2 σ2 R2 a2 => q2 σ2 R2 ⟨a2.1.trans a1.1, fun j hj => ?_⟩) q1⟩
        unfold tgsHas at hj
        rw [Bool.or_eq_false_iff] at hj
        rw [a2.2 j hj.2, a1.2 j hj.1]
  | .nil, _ :: _, h => by unfold chkTgs at h; cases h
  | .cons _ _, [], h => by unfold chkTgs at h; cases h
end
end
end G

set_option linter.all false
set_option maxRecDepth 100000
set_option Elab.async false
/-! Rt: t[::-1] of a tuple. -/
namespace G
open PySem PySem.Spec PyProof.Rows L2 HT
section
variable {prog : Program} {w : World} {A : Around} {E : Value → Shared → Prop} {s : Shared}
theorem adjust_rev (n : Nat) : Builtin.Slice.sliceAdjust none none (-1) (n : Int) = ((n : Int) - 1, -1) := by
  unfold Builtin.Slice.sliceAdjust
  simp
theorem places_rev (n : Nat) : Builtin.Slice.slicePlaces ((n : Int) - 1) (-1) (-1) = n := by
  unfold Builtin.Slice.slicePlaces
  simp
  try omega
theorem sliceApplied_rev {sl : Addr} {vl vu vs : Value} {n : Nat} {Q : Int × Int × Nat → Shared → Prop} (hs : s.heap.IsSliceOf sl vl vu vs) (pl : IsPart vl none) (pu : IsPart vu none) (ps : IsPart vs (some (-1)))
    (h : Q ((n : Int) - 1, -1, n) s) : wpAny (model prog w) A (Builtin.Slice.sliceApplied (.ref sl) (pure (n : Int))) Q E s := by
  obtain ⟨o1, ho1, hc1, hd1⟩ := id hs
  unfold Builtin.Slice.sliceApplied Builtin.Slice.sliceFields
  refine wpAny_bind (wpAny_bind (wpAny_field ho1 hd1 (x := vl) rfl (wpAny_bind (wpAny_field ho1 hd1 (x := vu) rfl (wpAny_bind (wpAny_field ho1 hd1 (x := vs) rfl (wpAny_pure ?_)))))))
  refine wpAny_bind (slicePart_ ps ?_)
  show wpAny _ _ (if ((-1 : Int) == 0) = true then _ else _) _ _ s
  rw [if_neg (by decide)]
  refine wpAny_bind (slicePart_ pl (wpAny_bind (slicePart_ pu (wpAny_bind (wpAny_pure ?_)))))
  show wpAny _ _ (match Builtin.Slice.sliceAdjust none none (-1) (n : Int) with | (l0, h0) => pure (l0, (-1 : Int), Builtin.Slice.slicePlaces l0 h0 (-1))) _ _ s
  rw [adjust_rev]
  show wpAny _ _ (pure ((n : Int) - 1, (-1 : Int), Builtin.Slice.slicePlaces ((n : Int) - 1) (-1) (-1))) _ _ s
  rw [places_rev]
  exact wpAny_pure h
theorem pick_rev (xs : Array Value) : ((List.range xs.size).filterMap fun (m : Nat) => xs[((xs.size : Int) - 1 + (m : Int) * (-1)).toNat]?).toArray = xs.toList.reverse.toArray := by
  congr 1
  have e : ((List.range xs.size).filterMap fun (m : Nat) => xs[((xs.size : Int) - 1 + (m : Int) * (-1)).toNat]?) = ((List.range xs.size).map fun k => xs.size - 1 - k).filterMap (xs[·]?) := by
    rw [List.filterMap_map]
    congr 1
    funext m
    show _ = xs[xs.size - 1 - m]?
    congr 1
    omega
  rw [e, PySem.W.krv_range, List.filterMap_reverse, PySem.W.krv_all]
theorem getItem_tuple_rev {t sl : Addr} {items : Array Value} {vl vu vs : Value} {Q : Value → Shared → Prop} (ht : IsTup s.heap t items) (hs : s.heap.IsSliceOf sl vl vu vs) (pl : IsPart vl none) (pu : IsPart vu none) (ps : IsPart vs (some (-1)))
    (h : Q (.ref s.heap.objs.size) { s with heap := s.heap.push { cls := .type "tuple", data := .seq items.toList.reverse.toArray } })
    (hsz : items.size ≤ sizeLine) : wpAny (model prog w) A (getItem (.ref t) (.ref sl)) Q E s := by
  have htake : sizeOk (.seq items.toList.reverse.toArray) := by
    show items.toList.reverse.toArray.size ≤ sizeLine
    simpa using hsz
  obtain ⟨o1, ho1, hc1, hd1⟩ := id hs
  have hT1 : s.TypeIs (.ref sl) "slice" := ⟨o1, ho1, hc1⟩
  unfold getItem
  try with_reducible refine wpAny_holding ?_
  first | refine wpAny_bind (wpAny_pure ?_) | skip
  refine wpAny_bind (wpAny_sequenceKey ht.typeIs (by decide) ?_)
  refine wpAny_bind (wpAny_callSpecial?_slot (name := Str.ofString "__getitem__") ht.typeIs PyProof.Rows.slot_tuple_getitem (wpAny_call_entry PyProof.Rows.slot_tuple_getitem ht.typeIs entry_tuple_getitem ?_ (args_tuple_getitem _ _)))
  show wpAny _ _ (Builtin.Tuple.tupleItemsOf (.ref t) >>= _) _ _ s
  refine wpAny_bind (tupleItemsOf_ ht ?_)
  refine wpAny_bind (wpAny_typeOf hT1 ?_)
  rw [if_pos (by decide)]
  refine wpAny_bind (sliceApplied_rev hs pl pu ps ?_)
  have hno : ¬ ((((items.size : Int) - 1) == 0 && (-1 : Int) == 1 && items.size == items.size) = true) := by
    intro q
    rw [Bool.and_eq_true, Bool.and_eq_true] at q
    exact absurd q.1.2 (by decide)
  show wpAny _ _ (if (((items.size : Int) - 1) == 0 && (-1 : Int) == 1 && items.size == items.size) = true then _ else _) _ _ s
  rw [if_neg hno, pick_rev]
  exact wpAny_bind (m := Builtin.Tuple.tupleExact _) (wpAny_newObj_type (wpAny_pure ⟨_, rfl, wpAny_pure h⟩) htake)
end
/-- t[::-1] or xs[::-1] -/
def tRevA (K : PySem.W.Frag) (te : TE) : TE := fun σ H Q => te σ H fun x H1 => ∃ a xs, x = .ref a ∧ ((SqL K H1 a xs ∧ ∀ p, H1 p = none → Q (.ref p) (upd H1 p (.lst xs.reverse))) ∨ (SqT K H1 a xs ∧ (xs.length ≤ sizeLine → ∀ p, H1 p = none → Q (.ref p) (upd H1 p (.tup xs.reverse)))))
theorem pe_revA {X : Cx} {e : Expr} {te : TE} {k : Nat} {p1 p2 p3 pos : Pos} (he : PE X e te) : PE X (.Subscript e (.Slice none none (some (.UnaryOp .USub (.Constant (.int 1) k p1) p2)) p3) pos) (tRevA X.K te) := by
  refine ⟨fun ps0 s0 σ0 H0 Q0 I0 h0 => ?_⟩
  refine Subscript_ (thn (he.run ps0 s0 σ0 H0 _ I0 h0) fun v s1 ⟨x, H1, I1, r1, q1⟩ => ?_)
  obtain ⟨a, xs, ex, q⟩ := q1
  subst ex
  cases r1
  have hst : PO X (some (.UnaryOp .USub (.Constant (.int 1) k p1) p2)) (tPart (tUn (rU fun i => .int (-i)) (tC (.int 1)))) := po_some (pe_un un_neg pe_int)
  refine wpAny_Slice (thn (po_none.run ps0 s1 σ0 H1 (fun o H2 => o = none ∧ H2 = H1) I1 ⟨rfl, rfl⟩) fun vl s2 ⟨l, H2, I2, pl, el, e2⟩ => ?_)
  subst el e2
  refine thn (po_none.run ps0 s2 σ0 H2 (fun o H3 => o = none ∧ H3 = H2) I2 ⟨rfl, rfl⟩) fun vu s3 ⟨u, H3, I3, pu, eu, e3⟩ => ?_
  subst eu e3
  refine thn (hst.run ps0 s3 σ0 H3 (fun o H4 => o = some (-1) ∧ H4 = H3) I3 ⟨1, rfl, -1, rfl, rfl, rfl⟩) fun vs s4 ⟨o, H4, I4, ps, eo, e4⟩ => ?_
  subst eo e4
  have I5 : Inv X ps0 σ0 H4 { s4 with heap := s4.heap.push { cls := .type "slice", data := .fields #[vl, vu, vs] } } := I4.kept (t' := s4.toks) fun b ob q => Heap.get?_push_of_some _ q
  show wpAny (model X.prog X.w) X.A (subscriptTail e (.Slice none none (some (.UnaryOp .USub (.Constant (.int 1) k p1) p2)) p3) (.ref a) (.ref s4.heap.objs.size)) (EP X ps0 σ0 Q0) X.xe { s4 with heap := s4.heap.push { cls := .type "slice", data := .fields #[vl, vu, vs] } }
  rcases q with ⟨hx, q⟩ | ⟨hx, q⟩
  · obtain ⟨its, r, ht, hz⟩ := I5.list hx
    have hlen := r.length
    refine tail_any (ops := [.ref a, .ref s4.heap.objs.size]) ht.isList.typeIs (PySem.slot_list_getitem.lookup) ?_ (by with_unfolding_all rfl)
    refine wpAny_getItem_list_slice ht.isList (Heap.IsSliceOf.new _ vl vu vs) pl pu ps (by decide) ?_ (by rw [List.size_toArray]; omega)
    rw [PySem.W.krv_pick]
    exact ⟨.ref _, _, I5.laid (t' := s4.toks) (o := .lst xs.reverse) (fun b ob q => Heap.get?_push_of_some _ q) (Nat.le_refl _) ⟨by rw [List.length_reverse]; exact hz, _, 0, r.reverse, Heap.get?_push_size _ rfl⟩, rfl, q _ (I5.hok.fresh (Nat.le_refl _))⟩
  · obtain ⟨its, r, ht, hz⟩ := I5.tuple hx
    have hlen := r.length
    refine tail_any (ops := [.ref a, .ref s4.heap.objs.size]) ht.typeIs PyProof.Rows.slot_tuple_getitem.lookup ?_ (by with_unfolding_all rfl)
    refine getItem_tuple_rev ht (Heap.IsSliceOf.new _ vl vu vs) pl pu ps ?_ (by rw [List.size_toArray]; omega)
    exact ⟨.ref _, _, I5.laid (t' := s4.toks) (o := .tup xs.reverse) (fun b ob q => Heap.get?_push_of_some _ q) (Nat.le_refl _) ⟨by rw [List.length_reverse]; exact hz, _, r.reverse, IsTup.new _ _⟩, rfl, q hz _ (I5.hok.fresh (Nat.le_refl _))⟩
/-- xs[lo::k] -/
def tStp (K : PySem.W.Frag) (te : TE) (lo k : Nat) : TE := fun σ H Q => te σ H fun x H1 => ∃ a xs, x = .ref a ∧ SqL K H1 a xs ∧ (stpL xs lo k).length ≤ sizeLine ∧ ∀ p, H1 p = none → Q (.ref p) (upd H1 p (.lst (stpL xs lo k)))
theorem vals_pick {xs : List V} {us : List Value} (r : Vals xs us) (ix : List Nat) : Vals (ix.filterMap (xs[·]?)) (ix.filterMap (us[·]?)) := by
  have at_ : ∀ (xs : List V) (us : List Value), Vals xs us → ∀ i : Nat, (xs[i]? = none ∧ us[i]? = none) ∨ ∃ x u, xs[i]? = some x ∧ us[i]? = some u ∧ RelV x u := by
    intro xs us r
    induction r with
    | nil => intro i; exact .inl ⟨rfl, rfl⟩
    | cons h _ ih =>
      intro i
      cases i with
      | zero => exact .inr ⟨_, _, rfl, rfl, h⟩
      | succ i => simpa using ih i
  induction ix with
  | nil => exact .nil
  | cons i ix ih =>
    rcases at_ xs us r i with ⟨e1, e2⟩ | ⟨x, u, e1, e2, h⟩
    · rw [List.filterMap_cons_none e1, List.filterMap_cons_none e2]; exact ih
    · rw [List.filterMap_cons_some e1, List.filterMap_cons_some e2]; exact .cons h ih
theorem pe_stp {X : Cx} {e : Expr} {te : TE} {lo k : Nat} {j1 j2 : Nat} {p1 p2 p3 pos : Pos} (hk : 0 < k) (he : PE X e te) : PE X (.Subscript e (.Slice (some (.Constant (.int (lo : Int)) j1 p1)) none (some (.Constant (.int (k : Int)) j2 p2)) p3) pos) (tStp X.K te lo k) := by
  refine ⟨fun ps0 s0 σ0 H0 Q0 I0 h0 => ?_⟩
  refine Subscript_ (thn (he.run ps0 s0 σ0 H0 _ I0 h0) fun v s1 ⟨x, H1, I1, r1, q1⟩ => ?_)
  obtain ⟨a, xs, ex, hx, hz0, q⟩ := q1
  subst ex
  cases r1
  have hlo : PO X (some (.Constant (.int (lo : Int)) j1 p1)) (tPart (tC (.int (lo : Int)))) := po_some pe_int
  have hst : PO X (some (.Constant (.int (k : Int)) j2 p2)) (tPart (tC (.int (k : Int)))) := po_some pe_int
  refine wpAny_Slice (thn (hlo.run ps0 s1 σ0 H1 (fun o H2 => o = some (lo : Int) ∧ H2 = H1) I1 ⟨(lo : Int), rfl, rfl, rfl⟩) fun vl s2 ⟨l, H2, I2, pl, el, e2⟩ => ?_)
  subst el e2
  refine thn (po_none.run ps0 s2 σ0 H2 (fun o H3 => o = none ∧ H3 = H2) I2 ⟨rfl, rfl⟩) fun vu s3 ⟨u, H3, I3, pu, eu, e3⟩ => ?_
  subst eu e3
  refine thn (hst.run ps0 s3 σ0 H3 (fun o H4 => o = some (k : Int) ∧ H4 = H3) I3 ⟨(k : Int), rfl, rfl, rfl⟩) fun vs s4 ⟨o, H4, I4, ps, eo, e4⟩ => ?_
  subst eo e4
  have I5 : Inv X ps0 σ0 H4 { s4 with heap := s4.heap.push { cls := .type "slice", data := .fields #[vl, vu, vs] } } := I4.kept (t' := s4.toks) fun b ob q => Heap.get?_push_of_some _ q
  obtain ⟨its, r, ht, hz⟩ := I5.list hx
  have hlen := r.length
  refine tail_any (ops := [.ref a, .ref s4.heap.objs.size]) ht.isList.typeIs (PySem.slot_list_getitem.lookup) ?_ (by with_unfolding_all rfl)
  refine wpAny_getItem_list_slice ht.isList (Heap.IsSliceOf.new _ vl vu vs) pl pu ps (by intro z; have z2 := Option.some.inj z; omega) ?_ (by rw [List.size_toArray]; omega)
  have e5 : slicePick its.toArray (some (lo : Int)) none (some (k : Int)) = (stpL its lo k).toArray := by
    unfold slicePick stpL
    rw [List.size_toArray]
    congr 1
    congr 1
    funext i
    simp
  rw [e5]
  have r5 : Vals (stpL xs lo k) (stpL its lo k) := by
    unfold stpL
    rw [hlen]
    exact vals_pick r _
  exact ⟨.ref _, _, I5.laid (t' := s4.toks) (o := .lst (stpL xs lo k)) (fun b ob q => Heap.get?_push_of_some _ q) (Nat.le_refl _) ⟨hz0, _, 0, r5, Heap.get?_push_size _ rfl⟩, rfl, q _ (I5.hok.fresh (Nat.le_refl _))⟩
theorem repL_pick {K : PySem.W.Frag} {J : Jar} {Z : Hp} {vs : List V} {ds : List D} (r : RepL K J Z vs ds) (ix : List Nat) : RepL K J Z (ix.filterMap (vs[·]?)) (ix.filterMap (ds[·]?)) := by
  have at_ : ∀ (vs : List V) (ds : List D), RepL K J Z vs ds → ∀ i : Nat, (vs[i]? = none ∧ ds[i]? = none) ∨ ∃ x u, vs[i]? = some x ∧ ds[i]? = some u ∧ Rep K J Z x u := by
    intro vs
    induction vs with
    | nil => intro ds r i; cases r; exact .inl ⟨rfl, rfl⟩
    | cons v vs ih =>
      intro ds r i
      cases r with
      | cons h r =>
        cases i with
        | zero => exact .inr ⟨_, _, rfl, rfl, h⟩
        | succ i => simpa using ih _ r i
  induction ix with
  | nil => exact .nil
  | cons i ix ih =>
    rcases at_ vs ds r i with ⟨e1, e2⟩ | ⟨x, u, e1, e2, h⟩
    · rw [List.filterMap_cons_none e1, List.filterMap_cons_none e2]; exact ih
    · rw [List.filterMap_cons_some e1, List.filterMap_cons_some e2]; exact .cons h ih
end G

set_option linter.all false
set_option maxRecDepth 100000
set_option Elab.async false
/-! Sg: tests, displays, subscripts, calls. -/
namespace G
open PySem PySem.Spec PyProof.Rows L2
section
variable {cf : Cfg} {J : Jar} {XR : XRT} {C : Calls} {lv : Nat} {X : Cx} {S : Sc} {W : WX} (G : Good cf J XR C lv X S) (hC : CMono C)
include hC
theorem s_nt {a : Ex} {ea : Expr} {pos : Pos} (ha : PE X ea (lE X.K J XR C W a)) : PE X (.UnaryOp .Not ea pos) (lE X.K J XR C W (.nt a)) := by
  refine ⟨fun pins s σ H Q I ⟨F, Z, r, Y, R, hx, h⟩ => ?_⟩
  unfold exW at h
  have l : lE X.K J XR C W a σ H fun x H1 => ∃ Z d, Same Z H1 ∧ RepS X.K J H1 Z x d ∧ truW d fun b => Q (.bl (!b)) H1 := by
    refine use_pin hC R hx h fun x r1 h1 v H1 Z1 s1 R1 p1 => ?_
    obtain ⟨d, hd, h2⟩ := R1.der p1 h1
    exact ⟨Z1, d, R1.sub, hd, truW_mono (fun b hb => hb _ H1 Z1 s1 R1 (.bl _)) h2⟩
  refine UnaryOp_ (thn (ha.run pins s σ H _ I l) fun v s1 ⟨x, H1, I1, r1, q1⟩ => ?_)
  refine not_of (thn (tru_sound pins s1 σ H1 x v (fun b H2 => Q (.bl (!b)) H2) I1 r1 q1) fun b s2 ⟨H2, I2, q2⟩ => ?_)
  exact ⟨.bl (!b), H2, I2, rfl, q2⟩
theorem t_nt {a : Ts} {ea : Expr} {pos : Pos} (ha : PT X ea (lT X.K J XR C W a)) : PT X (.UnaryOp .Not ea pos) (lT X.K J XR C W (.nt a)) := by
  refine (pt_not ha).imp fun pins s σ H Q I ⟨F, Z, r, Y, R, hx, h⟩ => ?_
  unfold tsW at h
  exact use_T hC R hx h fun b r1 h1 H1 Z1 s1 R1 => h1 H1 Z1 s1 R1
theorem s_and {a b : Ex} {ea eb : Expr} {rest : List Expr} {pos : Pos} (ha : PE X ea (lE X.K J XR C W a)) (hb : PE X (.BoolOp .And (eb :: rest) pos) (lE X.K J XR C W b)) : PE X (.BoolOp .And (ea :: eb :: rest) pos) (lE X.K J XR C W (.and a b)) := by
  refine (pe_and ha hb).imp fun pins s σ H Q I ⟨F, Z, r, Y, R, hx, h⟩ => ?_
  unfold exW at h
  refine use_pin hC R hx h fun x r1 h1 v H1 Z1 s1 R1 p1 => ?_
  obtain ⟨d, hd, h2⟩ := R1.der p1 h1
  split at h2
  · cases rep_bool hd
    refine ⟨_, rfl, ?_⟩
    split at h2
    · rename_i e
      rw [if_pos e]
      exact use_E hC R1 (hx.mono s1) h2 fun y r2 h3 w H2 Z2 s2 R2 p2 => h3 w H2 Z2 (s1.trans s2) R2 p2
    · rename_i e
      rw [if_neg e]
      exact h2 _ H1 Z1 s1 R1 (.bl _)
  · exact h2.elim
theorem s_or {a b : Ex} {ea eb : Expr} {rest : List Expr} {pos : Pos} (ha : PE X ea (lE X.K J XR C W a)) (hb : PE X (.BoolOp .Or (eb :: rest) pos) (lE X.K J XR C W b)) : PE X (.BoolOp .Or (ea :: eb :: rest) pos) (lE X.K J XR C W (.or a b)) := by
  refine (pe_or ha hb).imp fun pins s σ H Q I ⟨F, Z, r, Y, R, hx, h⟩ => ?_
  unfold exW at h
  refine use_pin hC R hx h fun x r1 h1 v H1 Z1 s1 R1 p1 => ?_
  obtain ⟨d, hd, h2⟩ := R1.der p1 h1
  split at h2
  · cases rep_bool hd
    refine ⟨_, rfl, ?_⟩
    split at h2
    · rename_i e
      rw [if_pos e]
      exact h2 _ H1 Z1 s1 R1 (.bl _)
    · rename_i e
      rw [if_neg e]
      exact use_E hC R1 (hx.mono s1) h2 fun y r2 h3 w H2 Z2 s2 R2 p2 => h3 w H2 Z2 (s1.trans s2) R2 p2
  · exact h2.elim
theorem t_and {a b : Ts} {ea eb : Expr} {rest : List Expr} {pos : Pos} (ha : PT X ea (lT X.K J XR C W a)) (hb : PW X (.BoolOp .And (eb :: rest) pos) (lT X.K J XR C W b)) : PW X (.BoolOp .And (ea :: eb :: rest) pos) (lT X.K J XR C W (.and a b)) := by
  refine (pw_and ha hb).imp fun pins s σ H Q I ⟨F, Z, r, Y, R, hx, h⟩ => ?_
  unfold tsW at h
  refine use_T hC R hx h fun c r1 h1 H1 Z1 s1 R1 => ?_
  split at h1
  · rename_i e
    rw [if_pos e]
    exact use_T hC R1 (hx.mono s1) h1 fun y r2 h3 H2 Z2 s2 R2 => h3 H2 Z2 (s1.trans s2) R2
  · rename_i e
    rw [if_neg e]
    exact h1 H1 Z1 s1 R1
theorem t_or {a b : Ts} {ea eb : Expr} {rest : List Expr} {pos : Pos} (ha : PT X ea (lT X.K J XR C W a)) (hb : PW X (.BoolOp .Or (eb :: rest) pos) (lT X.K J XR C W b)) : PW X (.BoolOp .Or (ea :: eb :: rest) pos) (lT X.K J XR C W (.or a b)) := by
  refine (pw_or ha hb).imp fun pins s σ H Q I ⟨F, Z, r, Y, R, hx, h⟩ => ?_
  unfold tsW at h
  refine use_T hC R hx h fun c r1 h1 H1 Z1 s1 R1 => ?_
  split at h1
  · rename_i e
    rw [if_pos e]
    exact h1 H1 Z1 s1 R1
  · rename_i e
    rw [if_neg e]
    exact use_T hC R1 (hx.mono s1) h1 fun y r2 h3 H2 Z2 s2 R2 => h3 H2 Z2 (s1.trans s2) R2
theorem t_e {a : Ex} {ea : Expr} (hp : plainT ea = true) (ha : PE X ea (lE X.K J XR C W a)) : PT X ea (lT X.K J XR C W (.e a)) := by
  refine ⟨fun pins s σ H Q I ⟨F, Z, r, Y, R, hx, h⟩ => ?_⟩
  unfold tsW at h
  have l : lE X.K J XR C W a σ H fun x H1 => ∃ Z d, Same Z H1 ∧ RepS X.K J H1 Z x d ∧ truW d fun b => Q b H1 := by
    refine use_pin hC R hx h fun x r1 h1 v H1 Z1 s1 R1 p1 => ?_
    obtain ⟨d, hd, h2⟩ := R1.der p1 h1
    exact ⟨Z1, d, R1.sub, hd, truW_mono (fun b hb => hb H1 Z1 s1 R1) h2⟩
  refine isTrue_plain (thn (ha.run pins s σ H _ I l) fun v s1 ⟨x, H1, I1, r1, q1⟩ => tru_sound pins s1 σ H1 x v Q I1 r1 q1) ?_
  cases ea <;> first | rfl | cases hp
theorem s_ite {t : Ts} {a b : Ex} {et ea eb : Expr} {pos : Pos} (ht : PT X et (lT X.K J XR C W t)) (ha : PE X ea (lE X.K J XR C W a)) (hb : PE X eb (lE X.K J XR C W b)) : PE X (.IfExp et ea eb pos) (lE X.K J XR C W (.ite t a b)) := by
  refine (pe_ifExp ht ha hb).imp fun pins s σ H Q I ⟨F, Z, r, Y, R, hx, h⟩ => ?_
  unfold exW at h
  refine use_T hC R hx h fun c r1 h1 H1 Z1 s1 R1 => ?_
  split at h1
  · rename_i e
    rw [if_pos e]
    exact use_E hC R1 (hx.mono s1) h1 fun y r2 h3 w H2 Z2 s2 R2 p2 => h3 w H2 Z2 (s1.trans s2) R2 p2
  · rename_i e
    rw [if_neg e]
    exact use_E hC R1 (hx.mono s1) h1 fun y r2 h3 w H2 Z2 s2 R2 p2 => h3 w H2 Z2 (s1.trans s2) R2 p2
omit hC in
theorem a_nil : PA X [] (lEs X.K J XR C W .nil) := by
  refine pa_nil.imp fun pins s σ H Q I ⟨F, Z, r, Y, R, hx, h⟩ => ?_
  unfold exsW at h
  exact h [] H Z (.refl _) R .nil
theorem a_cons {a : Ex} {as : Exs} {e : Expr} {es : List Expr} (hn : notStar e = true) (ha : PE X e (lE X.K J XR C W a)) (hr : PA X es (lEs X.K J XR C W as)) : PA X (e :: es) (lEs X.K J XR C W (.cons a as)) := by
  refine (pa_cons ha hr (star_of hn)).imp fun pins s σ H Q I ⟨F, Z, r, Y, R, hx, h⟩ => ?_
  unfold exsW at h
  refine use_E hC R hx h fun x r1 h1 v H1 Z1 s1 R1 p1 => ?_
  obtain ⟨d, r2, Z2, s2, R2, hd, h2⟩ := R1.frz p1 h1
  exact use_Es hC R2 (hx.mono (s1.trans s2)) h2 fun ds r3 h3 vs H3 Z3 s3 R3 hds => h3 (v :: vs) H3 Z3 ((s1.trans s2).trans s3) R3 (.cons (hd.mono s3) hds)
omit hC in
theorem b_nil : PA X [] (lAs X.K J XR C W .nil) := by
  refine pa_nil.imp fun pins s σ H Q I ⟨F, Z, r, Y, R, hx, h⟩ => ?_
  unfold argsW at h
  exact h [] H Z (.refl _) R .nil
theorem b_cons {a : Ex} {as : Exs} {e : Expr} {es : List Expr} (hn : notStar e = true) (ha : PE X e (lE X.K J XR C W a)) (hr : PA X es (lAs X.K J XR C W as)) : PA X (e :: es) (lAs X.K J XR C W (.cons a as)) := by
  refine (pa_cons ha hr (star_of hn)).imp fun pins s σ H Q I ⟨F, Z, r, Y, R, hx, h⟩ => ?_
  unfold argsW at h
  refine use_pin hC R hx h fun x r1 h1 v H1 Z1 s1 R1 p1 => ?_
  refine use_As hC R1 (hx.mono s1) h1 fun ds r3 h3 vs H3 Z3 s3 R3 hds => ?_
  obtain ⟨d, hd, h4⟩ := R3.der (p1.mono s3) h3
  exact h4 (v :: vs) H3 Z3 (s1.trans s3) R3 (.cons hd hds)
theorem exsW_len : ∀ {as : Exs} {r : En} {k : List D → En → Prop} {Y : XW}, exsW C as r k Y → exsW C as r (fun ds r' => ds.length = exsLen as ∧ k ds r') Y
  | .nil, r, k, Y, h => by unfold exsW at h ⊢; exact ⟨rfl, h⟩
  | .cons a as, r, k, Y, h => by
    unfold exsW at h ⊢
    exact exW_mono hC a (fun x r1 => frz_mono fun d r2 q => exsW_mono hC as (fun ds r3 z => ⟨by rw [List.length_cons, z.1]; rfl, z.2⟩) (fun _ _ z => z) (exsW_len q)) (fun _ _ z => z) h
theorem s_tup {as : Exs} {es : List Expr} {k : Nat} {pos : Pos} (hl : exsLen as ≤ 1000) (h : PA X es (lEs X.K J XR C W as)) : PE X (.Tuple es k pos) (lE X.K J XR C W (.tup as)) := by
  refine (pe_tup h).imp fun pins s σ H Q I ⟨F, Z, r, Y, R, hx, h⟩ => ?_
  unfold exW at h
  refine use_Es hC R hx (exsW_len hC h) fun ds r3 h3 vs H3 Z3 s3 R3 hds => ?_
  obtain ⟨h4, h3⟩ := h3
  have hz : vs.length ≤ sizeLine := by rw [hds.length, h4, szl]; omega
  refine ⟨hz, fun p hp => ?_⟩
  obtain ⟨Z4, s4, R4, q4⟩ := R3.res (z := .val (.tuple ds)) (.inr ⟨p, vs, ds, hp, rfl, rfl, rfl, hds, hz⟩)
  exact h3 _ _ Z4 (s3.trans s4) R4 q4
theorem s_lst {as : Exs} {es : List Expr} {pos : Pos} (hl : exsLen as ≤ 1000) (h : PA X es (lEs X.K J XR C W as)) : PE X (.List es pos) (lE X.K J XR C W (.lst as)) := by
  refine (pe_lst h).imp fun pins s σ H Q I ⟨F, Z, r, Y, R, hx, h⟩ => ?_
  unfold exW at h
  refine use_Es hC R hx (exsW_len hC h) fun ds r3 h3 vs H3 Z3 s3 R3 hds => ?_
  obtain ⟨h4, h3⟩ := h3
  have hz : vs.length ≤ sizeLine := by rw [hds.length, h4, szl]; omega
  refine ⟨hz, fun p hp => ?_⟩
  obtain ⟨Z4, s4, R4, q4⟩ := R3.res (z := .new ds) ⟨p, vs, hp, rfl, rfl, hds, hz⟩
  exact h3 _ _ Z4 (s3.trans s4) R4 q4
theorem s_ix {a i : Ex} {ea ei : Expr} {pos : Pos} (hs : isSlice ei = false) (ha : PE X ea (lE X.K J XR C W a)) (hi : PE X ei (lE X.K J XR C W i)) : PE X (.Subscript ea ei pos) (lE X.K J XR C W (.ix a i)) := by
  refine (pe_ix (ix_sound (J := J)) ha hi (by cases ei <;> first | (exact fun _ _ => rfl) | cases hs)).imp fun pins s σ H Q I ⟨F, Z, r, Y, R, hx, h⟩ => ?_
  unfold exW at h
  refine use_pin hC R hx h fun x r1 h1 v H1 Z1 s1 R1 p1 => ?_
  refine use_pin hC R1 (hx.mono s1) h1 fun y r2 h2 w H2 Z2 s2 R2 p2 => ?_
  obtain ⟨d, hd, h2⟩ := R2.der (p1.mono s2) h2
  obtain ⟨e, he, h2⟩ := R2.der p2 h2
  exact ⟨Z2, d, e, R2.sub, hd, he, ixW_mono (fun z hz v' hr => hz v' H2 Z2 (s1.trans s2) R2 hr) h2⟩
omit hC in
theorem o_no : PO X none (lO X.K J XR C W .no) := by
  refine ⟨fun pins s σ H Q I ⟨F, Z, r, Y, R, hx, h⟩ => ?_⟩
  unfold opwW at h
  exact po_none.run pins s σ H Q I (h H Z (.refl _) R)
theorem o_so {a : Ex} {e : Expr} (ha : PE X e (lE X.K J XR C W a)) : PO X (some e) (lO X.K J XR C W (.so a)) := by
  refine ⟨fun pins s σ H Q I ⟨F, Z, r, Y, R, hx, h⟩ => ?_⟩
  unfold opwW at h
  refine (po_some ha).run pins s σ H Q I (use_pin hC R hx h fun x r1 h1 v H1 Z1 s1 R1 p1 => ?_)
  obtain ⟨d, hd, h2⟩ := R1.der p1 h1
  split at h2
  · cases rep_int hd
    exact ⟨_, rfl, h2 H1 Z1 s1 R1⟩
  · exact h2.elim
theorem s_cut {a : Ex} {lo hi : Op} {ea : Expr} {l u : Option Expr} {p pos : Pos} (ha : PE X ea (lE X.K J XR C W a)) (hl : PO X l (lO X.K J XR C W lo)) (hu : PO X u (lO X.K J XR C W hi)) :
    PE X (.Subscript ea (.Slice l u none p) pos) (lE X.K J XR C W (.cut a lo hi)) := by
  refine (pe_slice (cut_sound (J := J)) ha hl hu).imp fun pins s σ H Q I ⟨F, Z, r, Y, R, hx, h⟩ => ?_
  unfold exW at h
  refine use_pin hC R hx h fun x r1 h1 v H1 Z1 s1 R1 p1 => ?_
  refine use_O hC R1 (hx.mono s1) h1 fun y r2 h2 H2 Z2 s2 R2 => ?_
  refine use_O hC R2 (hx.mono (s1.trans s2)) h2 fun y r3 h3 H3 Z3 s3 R3 => ?_
  obtain ⟨d, hd, h4⟩ := R3.der (p1.mono (s2.trans s3)) h3
  refine ⟨Z3, d, R3.sub, R3.zs, hd, ?_⟩
  split at h4
  · intro v' H' hr
    obtain ⟨Z4, s4, R4, q4⟩ := R3.res hr
    exact h4 _ _ Z4 (((s1.trans s2).trans s3).trans s4) R4 q4
  · intro v' H' hr
    obtain ⟨Z4, s4, R4, q4⟩ := R3.res hr
    exact h4 _ _ Z4 (((s1.trans s2).trans s3).trans s4) R4 q4
  · exact h4.elim
theorem s_rev {a : Ex} {ea ei : Expr} {pos : Pos} (hr : isRev ei = true) (ha : PE X ea (lE X.K J XR C W a)) : PE X (.Subscript ea ei pos) (lE X.K J XR C W (.rev a)) := by
  unfold isRev at hr
  split at hr
  · refine (pe_revA ha).imp fun pins s σ H Q I ⟨F, Z, r, Y, R, hx, h⟩ => ?_
    unfold exW at h
    refine use_pin hC R hx h fun x r1 h1 v H1 Z1 s1 R1 p1 => ?_
    obtain ⟨d, hd, h2⟩ := R1.der p1 h1
    split at h2
    · obtain ⟨a, vs, rfl, e1, e2, l⟩ := hd
      refine ⟨a, vs, rfl, .inl ⟨.of e1, fun p hp => ?_⟩⟩
      obtain ⟨Z4, s4, R4, q4⟩ := R1.res (z := .new _) ⟨p, _, hp, rfl, rfl, l.reverse, by rw [List.length_reverse]; exact e2⟩
      exact h2 _ _ Z4 (s1.trans s4) R4 q4
    · obtain ⟨a, vs, rfl, e1, l⟩ := rep_tup hd
      refine ⟨a, vs, rfl, .inr ⟨sqT_mono R1.sub e1, fun e2 p hp => ?_⟩⟩
      obtain ⟨Z4, s4, R4, q4⟩ := R1.res (z := .val _) (.inr ⟨p, _, _, hp, rfl, rfl, rfl, l.reverse, by rw [List.length_reverse]; exact e2⟩)
      exact h2 _ _ Z4 (s1.trans s4) R4 q4
    · exact h2.elim
  · cases hr
theorem s_stp {a : Ex} {lo k : Nat} {ea : Expr} {j1 j2 : Nat} {p1 p2 p3 pos : Pos} (hk : 0 < k) (ha : PE X ea (lE X.K J XR C W a)) : PE X (.Subscript ea (.Slice (some (.Constant (.int (lo : Int)) j1 p1)) none (some (.Constant (.int (k : Int)) j2 p2)) p3) pos) (lE X.K J XR C W (.stp a lo k)) := by
  refine (pe_stp hk ha).imp fun pins s σ H Q I ⟨F, Z, r, Y, R, hx, h⟩ => ?_
  unfold exW at h
  refine use_pin hC R hx h fun x r1 h1 v H1 Z1 s1 R1 p1 => ?_
  obtain ⟨d, hd, h2⟩ := R1.der p1 h1
  split at h2
  · rename_i ds
    obtain ⟨a, vs, rfl, e1, e2, l⟩ := hd
    have ln := l.length
    have el : (stpL vs lo k).length = (stpL ds lo k).length := by
      have l2 : RepL X.K J Z1 (stpL vs lo k) (stpL ds lo k) := by unfold stpL; rw [ln]; exact repL_pick l _
      exact l2.length
    refine ⟨a, vs, rfl, .of e1, by rw [szl, el]; exact h2.1, fun p hp => ?_⟩
    have l2 : RepL X.K J Z1 (stpL vs lo k) (stpL ds lo k) := by unfold stpL; rw [ln]; exact repL_pick l _
    obtain ⟨Z4, s4, R4, q4⟩ := R1.res (z := .new _) ⟨p, _, hp, rfl, rfl, l2, by rw [szl, el]; exact h2.1⟩
    exact h2.2 _ _ Z4 (s1.trans s4) R4 q4
  · exact h2.elim
include G
/-- a builtin's call -/
theorem s_bi {k : BI} {as : Exs} {x : Str} {e : Expr} {es : List Expr} {p pos : Pos} (nk : isIsi k = false) (hx : x = biName k) (hf : (if x = ("gcd" : Str) then cf.gcd else cf.free.contains x) = true) (hg : glB S x = true) (hs : notStar e = true) (hss : es.all notStar = true)
    (ha : PA X (e :: es) (lAs X.K J XR C W as)) : PE X (.Call (.Name x p) (e :: es) [] pos) (lE X.K J XR C W (.bi k as)) := by
  have fin : ∀ {t : TE}, t = tCB (rBi X.K J k) (lAs X.K J XR C W as) → PE X (.Call (.Name x p) (e :: es) [] pos) t → PE X (.Call (.Name x p) (e :: es) [] pos) (lE X.K J XR C W (.bi k as)) := fun et hp => by
    subst et
    refine hp.imp fun pins s σ H Q I ⟨F, Z, r, Y, R, hx, h⟩ => ?_
    unfold exW at h
    refine use_As hC R hx h fun ds r3 h3 vs H3 Z3 s3 R3 hds => ⟨Z3, ds, R3.sub, hds, biW_mono (fun z hz v' H' hr => ?_) h3⟩
    obtain ⟨Z4, s4, R4, q4⟩ := R3.res hr
    exact hz _ _ Z4 (s3.trans s4) R4 q4
  have hb := bi_sound (X := X) (J := J) G.calm G.gd (hu100 G hC) nk
  have h1 := star_of (X := X) (es := es) hs
  have h2 : (backTo pos (starEach es X.env)).any (·.1) = false := back_any (star_any hss)
  have hdb : (x == ("__debug__" : Str)) = false := by subst hx; cases k <;> decide +kernel
  have hn : x ≠ "__name__" := by subst hx; cases k <;> decide +kernel
  by_cases gc : k = .gcd
  · subst gc
    subst hx
    rw [if_pos (show biName .gcd = ("gcd" : Str) from rfl)] at hf
    exact fin rfl (pe_callBfun hb (G.gl hg) (G.facts.gcd hf) ha hdb h1 h2)
  · have gx : x ≠ ("gcd" : Str) := by subst hx; cases k <;> first | exact absurd rfl gc | decide +kernel
    rw [if_neg gx] at hf
    have mg := G.facts.free x hf
    have gl := G.gl hg
    subst hx
    cases k <;> first
      | exact absurd rfl gc
      | exact fin rfl (pe_callB hb gl mg (by decide +kernel) ha hn hdb h1 h2)
      | exact fin rfl (pe_callTy hb gl mg (by decide +kernel) ha hn hdb h1 h2)
      | exact absurd (show true = false from nk) (by decide)
end
end G

set_option linter.all false
set_option maxRecDepth 100000
set_option Elab.async false
/-! Sh: calls, pop, isinstance, comprehensions. -/
namespace G
open PySem PySem.Spec PyProof.Rows L2
section
variable {cf : Cfg} {J : Jar} {XR : XRT} {C : Calls} {lv : Nat} {X : Cx} {S : Sc} {W : WX} (G : Good cf J XR C lv X S) (hC : CMono C)

/-- the callee runs, guards known -/
theorem run_G {pins : List (Addr × Obj)} {σ : L2.St} {H : Hp} {s : Shared} {Q : VK} {us : List Value} {vs : List V} {f : Nat} {a : Addr} {fd : FuncData} {ps : List Str}
    (F : FnG X.prog X.w X.K X.mg X.base J XR C lv f a fd ps) (hr : Room lv X.A) (gd : X.A.guards = some []) (hb : Binds X.K fd ps []) (tk : Takes X W) (I : Inv X pins σ H s) (r : Vals vs us) (hl : vs.length = ps.length)
    (h : spOf X.K J XR C f vs H Q (WE W σ)) : wpAny (model X.prog X.w) X.A (call (.ref a) us) (EP X pins σ Q) X.xe s := by
  have hu : (us ++ []).length = ps.length := by rw [List.append_nil, ← r.length, hl]
  have bt := hb s us I.kIn hu
  rw [List.append_nil] at bt
  refine wpAny_call (codeAny_mono (F.run X.A X.stack s H ⟨us, []⟩ us vs Q (WE W σ) hr gd I.env0 bt r hl h) fun z s' hq => ?_)
  cases z with
  | error e => exact passAt tk σ pins H s e s' I hq
  | ok fl =>
    cases fl with
    | ret u => exact I.after hq
    | next => exact hq.elim
    | brk => exact hq.elim
    | cont => exact hq.elim
/-- the callee runs, the defaults fill up -/
theorem run_GD {pins : List (Addr × Obj)} {σ : L2.St} {H : Hp} {s : Shared} {Q : VK} {us es : List Value} {vs ws : List V} {f : Nat} {a : Addr} {fd : FuncData} {ps : List Str}
    (F : FnG X.prog X.w X.K X.mg X.base J XR C lv f a fd ps) (hr : Room lv X.A) (gd : X.A.guards = some []) (hb : Binds X.K fd ps es) (tk : Takes X W) (I : Inv X pins σ H s) (r : Vals vs us) (rw_ : Vals ws es) (hl : (vs ++ ws).length = ps.length)
    (h : spOf X.K J XR C f (vs ++ ws) H Q (WE W σ)) : wpAny (model X.prog X.w) X.A (call (.ref a) us) (EP X pins σ Q) X.xe s := by
  have hu : (us ++ es).length = ps.length := by rw [← (r.append rw_).length, hl]
  refine wpAny_call (codeAny_mono (F.run X.A X.stack s H ⟨us, []⟩ (us ++ es) (vs ++ ws) Q (WE W σ) hr gd I.env0 (hb s us I.kIn hu) (r.append rw_) hl h) fun z s' hq => ?_)
  cases z with
  | error e => exact passAt tk σ pins H s e s' I hq
  | ok fl =>
    cases fl with
    | ret u => exact I.after hq
    | next => exact hq.elim
    | brk => exact hq.elim
    | cont => exact hq.elim
theorem rep_ints {K : PySem.W.Frag} {Z : Hp} : ∀ ns : List Int, RepL K J Z (ns.map V.int) (ns.map .int)
  | [] => .nil
  | n :: ns => .cons (.int n) (rep_ints ns)
include G hC
theorem s_calld {f : Nat} {as : Exs} {ns : List Int} {x : Str} {e : Expr} {es : List Expr} {p pos : Pos} {fp : Str × List Str} (tk : Takes X W) (hf : cf.fns[f]? = some fp) (hx : fp.1 = x) (hd : ns = cf.dfl.getD f []) (h0 : ns ≠ []) (hn : fp.2.length = exsLen as + ns.length) (hg : glB S x = true) (ok : okName x = true)
    (hs : notStar e = true) (hss : es.all notStar = true) (ha : PA X (e :: es) (lEs X.K J XR C W as)) : PE X (.Call (.Name x p) (e :: es) [] pos) (lE X.K J XR C W (.calld f as ns)) := by
  obtain ⟨a, fd, mg, kp, _, F, _, hb⟩ := (G.fns f fp hf).ex
  subst hx hd
  obtain ⟨us0, r0, hb⟩ := hb h0
  refine ⟨fun pins s σ H Q I ⟨F0, Z, r, Y, R, hx, h⟩ => ?_⟩
  unfold exW at h
  have l : lEs X.K J XR C W as σ H fun vs H1 => vs.length = exsLen as ∧ spOf X.K J XR C f (vs ++ (cf.dfl.getD f []).map V.int) H1 Q (WE W σ) := by
    refine use_Es hC R hx (exsW_len hC h) fun ds r3 h3 vs H3 Z3 s3 R3 hds => ?_
    obtain ⟨h4, h3⟩ := h3
    refine ⟨by rw [hds.length, h4], Z3, _, r3.g, R3.inn, hds.append (rep_ints _), hC f _ _ _ _ _ _ (fun d g' hd v H' Z' o rv => ?_) (fun e g' he cls dd H' Z' o xr => ?_) h3⟩
    · exact hd v H' Z' (s3.trans o.same) (R3.out o) rv
    · exact hx e (r3.at g') he H' Z' cls dd (s3.trans o.same) (R3.out o) xr
  refine wpAny_Call_Name_kw (ld_glob I (G.gl hg) mg ?_ (okName_of G ok).1)
  refine PySem.W.callWith_K (h₀ := X.base) I.ok.mod.kin kp (thn (ha.run pos pins s σ H _ I l) fun us s1 hh => ?_) (star_of hs) (back_any (star_any hss))
  obtain ⟨vs, H1, I1, rv, hl, q⟩ := hh
  exact ⟨I1.kIn, run_GD F G.room G.gd hb tk I1 rv r0 (by rw [List.length_append, List.length_map, hl, hn]) q⟩
theorem s_call {f : Nat} {as : Exs} {x : Str} {e : Expr} {es : List Expr} {p pos : Pos} {fp : Str × List Str} (tk : Takes X W) (hf : cf.fns[f]? = some fp) (hx : fp.1 = x) (hn : fp.2.length = exsLen as) (hg : glB S x = true) (ok : okName x = true)
    (hs : notStar e = true) (hss : es.all notStar = true) (ha : PA X (e :: es) (lEs X.K J XR C W as)) : PE X (.Call (.Name x p) (e :: es) [] pos) (lE X.K J XR C W (.call f as)) := by
  obtain ⟨a, fd, mg, kp, hb, F, _⟩ := (G.fns f fp hf).ex
  subst hx
  refine ⟨fun pins s σ H Q I ⟨F0, Z, r, Y, R, hx, h⟩ => ?_⟩
  unfold exW at h
  have l : lEs X.K J XR C W as σ H fun vs H1 => vs.length = fp.2.length ∧ spOf X.K J XR C f vs H1 Q (WE W σ) := by
    refine use_Es hC R hx (exsW_len hC h) fun ds r3 h3 vs H3 Z3 s3 R3 hds => ?_
    obtain ⟨h4, h3⟩ := h3
    refine ⟨by rw [hds.length, h4, hn], Z3, ds, r3.g, R3.inn, hds, hC f ds _ _ _ _ _ (fun d g' hd v H' Z' o rv => ?_) (fun e g' he cls dd H' Z' o xr => ?_) h3⟩
    · exact hd v H' Z' (s3.trans o.same) (R3.out o) rv
    · exact hx e (r3.at g') he H' Z' cls dd (s3.trans o.same) (R3.out o) xr
  refine wpAny_Call_Name_kw (ld_glob I (G.gl hg) mg ?_ (okName_of G ok).1)
  refine PySem.W.callWith_K (h₀ := X.base) I.ok.mod.kin kp (thn (ha.run pos pins s σ H _ I l) fun us s1 hh => ?_) (star_of hs) (back_any (star_any hss))
  obtain ⟨vs, H1, I1, rv, hl, q⟩ := hh
  exact ⟨I1.kIn, run_G F G.room G.gd hb tk I1 rv hl q⟩
omit hC in
theorem isi_ok : X.A.units + 100 < cLine := by have := G.room.un; omega
omit G hC in
def tyN : D → String
  | .none => "NoneType" | .bool _ => "bool" | .int _ => "int" | .str _ => "str" | .list _ => "list" | .tuple _ => "tuple" | .dict _ => "dict"
def isiT : BI → String
  | .isTuple => "tuple" | .isInt => "int" | .isBool => "bool" | .isStr => "str" | _ => "list"
def isT (k : BI) (t : String) : Bool := (t == isiT k) || (t == "bool" && isiT k == "int")
omit G hC in
theorem kit_all : ∀ k ∈ [BI.isTuple, .isInt, .isBool, .isStr, .isList], ∀ t ∈ ["NoneType", "bool", "int", "str", "list", "tuple", "dict"], kitB t (isiT k) = some (isT k t) := by
  intro k hk t ht
  simp only [List.mem_cons, List.not_mem_nil, or_false] at hk ht
  rcases hk with rfl | rfl | rfl | rfl | rfl <;> rcases ht with rfl | rfl | rfl | rfl | rfl | rfl | rfl <;> decide +kernel
omit G hC in
theorem isT_D {k : BI} (hk : k ∈ [BI.isTuple, .isInt, .isBool, .isStr, .isList]) : ∀ d : D, isT k (tyN d) = isD k d := by
  intro d
  simp only [List.mem_cons, List.not_mem_nil, or_false] at hk
  rcases hk with rfl | rfl | rfl | rfl | rfl <;> cases d <;> (unfold isT tyN isiT isD; rfl)
omit G hC in
theorem rep_ty {K : PySem.W.Frag} {H Z : Hp} {v : V} {d : D} (sz : Same Z H) (h : RepS K J H Z v d) (n : ND d) : TyX K H v (.type (tyN d)) ∧ tyN d ∈ ["NoneType", "bool", "int", "str", "list", "tuple", "dict"] := by
  cases d with
  | none => cases rep_none h; exact ⟨.base .non, by simp [tyN]⟩
  | bool b => cases rep_bool h; exact ⟨.base (.bl b), by simp [tyN]⟩
  | int b => cases rep_int h; exact ⟨.base (.int b), by simp [tyN]⟩
  | str b => cases rep_str h; exact ⟨.base (.str b), by simp [tyN]⟩
  | list ds =>
    obtain ⟨a, vs, rfl, e, _⟩ := h
    exact ⟨.base (.lst e), by simp [tyN]⟩
  | tuple ds =>
    obtain ⟨a, vs, rfl, e, _⟩ := rep_tup h
    refine ⟨?_, by simp [tyN]⟩
    rcases sqT_mono sz e with (e | ⟨o, e⟩) | ⟨o, its, n, ek, ec, _⟩
    · exact .base (.tup e)
    · exact .fTuple e
    · exact .kTuple ek ec
  | dict kvs =>
    rcases n with n | n
    · simp [PyData.hasDict] at n
    · cases n
      cases (show Rep K J Z v (.dict []) from h) with
      | dct h2 => exact ⟨.base (.dK (sz _ _ h2)), by simp [tyN]⟩
omit G hC in
theorem isi_mem {k : BI} (h : isIsi k = true) : k ∈ [BI.isTuple, .isInt, .isBool, .isStr, .isList] := by
  cases k <;> first | (exact absurd (show false = true from h) Bool.false_ne_true) | simp
theorem s_isi {k : BI} {a : Ex} {x t : Str} {e : Expr} {p p2 pos : Pos} (nk : isIsi k = true) (hx : x = ("isinstance" : Str)) (ht : t = isiName k) (hf : cf.free.contains x = true) (hg : glB S x = true) (hb : bltB cf S t t = true) (hs : notStar e = true)
    (ha : PE X e (lE X.K J XR C W a)) : PE X (.Call (.Name x p) [e, .Name t p2] [] pos) (lE X.K J XR C W (.bi k (.cons a .nil))) := by
  unfold bltB at hb
  obtain ⟨_, hb⟩ := and2 hb
  obtain ⟨h1, h2⟩ := and2 hb
  have hm := isi_mem nk
  have pt : PE X (.Name t p2) (tC (.ty (isiT k))) := by
    have mg := G.facts.free t h1
    have gl := G.gl h2
    subst ht
    simp only [List.mem_cons, List.not_mem_nil, or_false] at hm
    rcases hm with rfl | rfl | rfl | rfl | rfl <;> exact pe_bltn gl mg (by decide +kernel) rfl (by decide +kernel) (by decide +kernel)
  have pa : PA X [e, .Name t p2] (tCons (lE X.K J XR C W a) (tCons (tC (.ty (isiT k))) tNil)) := pa_cons ha (pa_cons pt pa_nil) (star_of hs)
  have mg := G.facts.free x hf
  have gl := G.gl hg
  subst hx
  refine (pe_callB call_isi gl mg (by decide +kernel) pa (by decide +kernel) (by decide +kernel) (star_of hs) rfl).imp fun pins s σ H Q I ⟨F, Z, r, Y, R, hx, h⟩ => ?_
  unfold exW argsW at h
  refine use_pin hC R hx h fun x r1 h1 v H1 Z1 s1 R1 p1 => ?_
  unfold argsW at h1
  obtain ⟨d, hd, h4⟩ := R1.der p1 h1
  have h5 : ND d ∧ (fun z => ∀ v H' Z', Same Z Z' → Rel X.K J F σ H' Z' r1 → RepR X.K J F σ H' Z' r1 z v → Q v H') (.val (.bool (isD k d))) := by
    simp only [List.mem_cons, List.not_mem_nil, or_false] at hm
    unfold biW at h4
    rcases hm with rfl | rfl | rfl | rfl | rfl <;> exact h4
  obtain ⟨h6, h7⟩ := h5
  obtain ⟨ty, tm⟩ := rep_ty R1.sub hd h6
  refine ⟨v, .ty (isiT k), _, _, isD k d, rfl, .ty _, ty, ?_, h7 _ H1 Z1 s1 R1 (.bl _)⟩
  rw [← isT_D hm d]
  exact kit_ty (kit_all k hm _ tm)
/-- a method of a list that a slot owns -/
theorem pop_tree {i : Nat} {x : Str} {ap pos p : Pos} (h1 : X.N[i]? = some x) (h2 : visB S x = true) (h3 : okName x = true) (hl : (ap.endLine == pos.line) = true) : PE X (.Call (.Attribute (.Name x p) "pop" ap) [] [] pos) (lE X.K J XR C W (.pop i)) := by
  obtain ⟨d1, d2⟩ := okName_of G h3
  refine (pe_bm0 PySem.F.plainAttrs_list PySem.F.slot_list_pop PySem.F.type_list_pop mt_pop (pe_var h1 (G.vis h2) d1 d2) rfl hl).imp fun pins s σ H Q I ⟨F, Z, r, Y, R, hx, h⟩ => ?_
  unfold exW at h
  split at h
  · rename_i ds e
    split at h
    · rename_i d e2
      obtain ⟨a, vs, e1, e3, e4, e5, e6⟩ := R.ow i ds e
      have e7 : ds[ds.length - 1]? = some d := by rw [← List.getLast?_eq_getElem?]; exact e2
      obtain ⟨y, e8, e9⟩ := e5.get e7
      refine ⟨_, e1, .inl ⟨rfl, _, .of e3⟩, a, vs, y, rfl, rfl, e3, by rw [e5.length]; exact e8, ?_⟩
      refine h y _ Z (.refl _) (R.mut e e1 (by rw [List.length_dropLast]; omega) ?_) e9
      rw [List.dropLast_eq_take, List.dropLast_eq_take, e5.length]
      exact e5.take _
    · exact h.elim
  · exact h.elim
theorem popA_tree {i : Nat} {n : Int} {x : Str} {ap pos p pk : Pos} {kk : Nat} (h1 : X.N[i]? = some x) (h2 : visB S x = true) (h3 : okName x = true) (hl : (ap.endLine == pos.line) = true) : PE X (.Call (.Attribute (.Name x p) "pop" ap) [.Constant (.int n) kk pk] [] pos) (lE X.K J XR C W (.popA i n)) := by
  obtain ⟨d1, d2⟩ := okName_of G h3
  refine (pe_bm PySem.F.plainAttrs_list PySem.F.slot_list_pop PySem.F.type_list_pop mt_popAt (pe_var h1 (G.vis h2) d1 d2) (pa_cons pe_int pa_nil) rfl rfl hl).imp fun pins s σ H Q I ⟨F, Z, r, Y, R, hx, h⟩ => ?_
  unfold exW at h
  split at h
  · rename_i ds e
    split at h
    · rename_i j e2
      obtain ⟨a, vs, e1, e3, e4, e5, e6⟩ := R.ow i ds e
      obtain ⟨g1, g2, g3, g4⟩ := ixN_seq e2
      have e7 : ds[j]? = some (ds.getD j .none) := by rw [List.getD_eq_getElem?_getD, List.getElem?_eq_getElem g2]; rfl
      obtain ⟨y, e8, e9⟩ := e5.get e7
      refine ⟨_, e1, .inl ⟨rfl, _, .of e3⟩, a, vs, n, j, y, rfl, rfl, e3, h.1.1, h.1.2, by rw [e5.length]; exact g1, e8, ?_⟩
      exact h.2 y _ Z (.refl _) (R.mut e e1 (Nat.le_trans (len_erase _ _) e4) (e5.eraseIdx j)) e9
    · exact h.elim
  · exact h.elim
end
end G

set_option linter.all false
set_option maxRecDepth 100000
set_option Elab.async false
/-! Si: comprehensions. -/
namespace G
open PySem PySem.Spec PyProof.Rows L2

theorem wipe_at : ∀ (vs : List Nat) (σ : L2.St) (j : Nat), (L2.wipe σ vs)[j]? = if j ∈ vs ∧ j < σ.length then some none else σ[j]?
  | [], σ, j => by rw [if_neg (fun h => nomatch h.1)]; rfl
  | v :: vs, σ, j => by
    show ((L2.wipe σ vs).set v none)[j]? = _
    rw [List.getElem?_set, L2.wipe_length, wipe_at vs σ j]
    by_cases hv : v = j
    · subst hv
      by_cases hl : v < σ.length
      · rw [if_pos rfl, if_pos hl, if_pos ⟨List.mem_cons_self, hl⟩]
      · rw [if_pos rfl, if_neg hl, if_neg (fun h => hl h.2), List.getElem?_eq_none (Nat.le_of_not_lt hl)]
    · rw [if_neg hv]
      by_cases hj : j ∈ vs ∧ j < σ.length
      · rw [if_pos hj, if_pos ⟨List.mem_cons_of_mem _ hj.1, hj.2⟩]
      · rw [if_neg hj, if_neg]
        rintro ⟨h1, h2⟩
        rcases List.mem_cons.mp h1 with e | e
        · exact hv e.symm
        · exact hj ⟨e, h2⟩
theorem wipe_agr {vs : List Nat} {p : Nat → Bool} {σ σ2 : L2.St} (hp : ∀ j, p j = true → j ∈ vs) (a : Agr p (L2.wipe σ vs) σ2) : L2.wipe σ2 vs = L2.wipe σ vs := by
  have hl : σ2.length = σ.length := by rw [a.1, L2.wipe_length]
  apply List.ext_getElem?
  intro j
  rw [wipe_at, wipe_at, hl]
  by_cases hj : j ∈ vs ∧ j < σ.length
  · rw [if_pos hj, if_pos hj]
  · rw [if_neg hj, if_neg hj]
    by_cases h1 : j < σ.length
    · have h2 : p j = false := by
        cases q : p j with
        | false => rfl
        | true => exact absurd ⟨hp j q, h1⟩ hj
      rw [a.2 j h2, wipe_at, if_neg hj]
    · rw [List.getElem?_eq_none (by omega), List.getElem?_eq_none (by omega)]
theorem wipeE_len : ∀ (own : List (Str × Nat)) (r : En), (wipe own r).length = r.length
  | [], r => rfl
  | (_, i) :: o, r => by unfold wipe; rw [En.length_set, wipeE_len o r]
theorem rd_wipe : ∀ (own : List (Str × Nat)) (r : En) (j : Nat), rd (wipe own r) j = if j ∈ own.map (·.2) then (if j < r.length then .un else rd r j) else rd r j
  | [], r, j => by rw [if_neg (by simp)]; rfl
  | (x, i) :: o, r, j => by
    unfold wipe
    rw [rd_set, wipeE_len, rd_wipe o r j, List.map_cons]
    by_cases h : i = j
    · subst h
      by_cases hl : i < r.length
      · rw [if_pos ⟨rfl, hl⟩, if_pos List.mem_cons_self, if_pos hl]
      · rw [if_neg (fun q => hl q.2), if_pos List.mem_cons_self, if_neg hl]
        split <;> rfl
    · rw [if_neg (fun q => h q.1)]
      by_cases hm : j ∈ o.map (·.2)
      · rw [if_pos hm, if_pos (List.mem_cons_of_mem _ hm)]
      · rw [if_neg hm, if_neg]
        intro q
        rcases List.mem_cons.mp q with e | e
        · exact h e.symm
        · exact hm e
theorem rd_un {r : En} {j : Nat} (h : ¬ j < r.length) : rd r j = .un := by
  unfold En.length at h
  unfold rd
  rw [List.getD_eq_getElem?_getD, List.getElem?_eq_none (by omega)]
  rfl
theorem wipe_g : ∀ (own : List (Str × Nat)) (r : En), (wipe own r).g = r.g
  | [], r => rfl
  | (_, i) :: o, r => wipe_g o r
theorem unwipe_g : ∀ (own : List (Str × Nat)) (r0 r : En), (unwipe own r0 r).g = r.g
  | [], _, r => rfl
  | (_, i) :: o, r0, r => unwipe_g o r0 r
theorem rd_wipe' (own : List (Str × Nat)) (r : En) (j : Nat) : rd (wipe own r) j = if j ∈ own.map (·.2) then .un else rd r j := by
  rw [rd_wipe]
  by_cases h : j ∈ own.map (·.2)
  · rw [if_pos h, if_pos h]
    by_cases hl : j < r.length
    · rw [if_pos hl]
    · rw [if_neg hl, rd_un hl]
  · rw [if_neg h, if_neg h]
theorem unwipe_len : ∀ (own : List (Str × Nat)) (r0 r : En), (unwipe own r0 r).length = r.length
  | [], _, r => rfl
  | (_, i) :: o, r0, r => by unfold unwipe; rw [En.length_set, unwipe_len o r0 r]
theorem rd_unwipe : ∀ (own : List (Str × Nat)) (r0 r : En) (j : Nat), r0.length = r.length → rd (unwipe own r0 r) j = if j ∈ own.map (·.2) then rd r0 j else rd r j
  | [], r0, r, j, _ => by rw [if_neg (by simp)]; rfl
  | (x, i) :: o, r0, r, j, hl => by
    unfold unwipe
    rw [rd_set, unwipe_len, rd_unwipe o r0 r j hl, List.map_cons]
    by_cases h : i = j
    · subst h
      rw [if_pos (show i ∈ i :: o.map (·.2) from List.mem_cons_self)]
      by_cases hl' : i < r.length
      · rw [if_pos ⟨rfl, hl'⟩]
      · rw [if_neg (fun q => hl' q.2), rd_un (r := r) hl', rd_un (r := r0) (by omega)]
        split <;> rfl
    · rw [if_neg (fun q => h q.1)]
      by_cases hm : j ∈ o.map (·.2)
      · rw [if_pos hm, if_pos (List.mem_cons_of_mem _ hm)]
      · rw [if_neg hm, if_neg]
        intro q
        rcases List.mem_cons.mp q with e | e
        · exact h e.symm
        · exact hm e
theorem noOw_both : ∀ {own : List (Str × Nat)} {r : En}, noOw own r = true → ∀ j ∈ own.map (·.2), (∀ ds, rd r j ≠ .ow ds) ∧ ∀ k, rd r j ≠ .al k
  | [], _, _, j, hj => by simp at hj
  | (x, i) :: o, r, h, j, hj => by
    unfold noOw at h
    obtain ⟨h1, h2⟩ := and2 h
    rcases List.mem_cons.mp hj with e | e
    · have e' : j = i := e
      subst e'
      exact ⟨fun ds q => (by rw [q] at h1; cases h1), fun ds q => (by rw [q] at h1; cases h1)⟩
    · exact noOw_both h2 j e
theorem noOw_at {own : List (Str × Nat)} {r : En} (h : noOw own r = true) (j : Nat) (hj : j ∈ own.map (·.2)) (ds : List D) : rd r j ≠ .ow ds := (noOw_both h j hj).1 ds
theorem noAl_at {own : List (Str × Nat)} {r : En} (h : noOw own r = true) (j : Nat) (hj : j ∈ own.map (·.2)) (k : Sum Int Str) : rd r j ≠ .al k := (noOw_both h j hj).2 k
mutual
theorem inOwn_has {own : List (Str × Nat)} : ∀ {t : Tg}, inOwn own t = true → ∀ j, tgHas t j = true → j ∈ own.map (·.2)
  | .v i, h, j, hj => by
    unfold inOwn at h
    unfold tgHas at hj
    obtain ⟨p, hp, e⟩ := List.any_eq_true.mp h
    have e1 := beq_iff_eq.mp e
    have e2 := beq_iff_eq.mp hj
    exact List.mem_map.mpr ⟨p, hp, e1.trans e2⟩
  | .t ts, h, j, hj => by
    unfold inOwn at h
    unfold tgHas at hj
    exact insOwn_has h j hj
theorem insOwn_has {own : List (Str × Nat)} : ∀ {t : Tgs}, insOwn own t = true → ∀ j, tgsHas t j = true → j ∈ own.map (·.2)
  | .nil, h, j, hj => by unfold tgsHas at hj; cases hj
  | .cons t ts, h, j, hj => by
    unfold insOwn at h
    unfold tgsHas at hj
    obtain ⟨h1, h2⟩ := and2 h
    rcases Bool.or_eq_true_iff.mp hj with q | q
    · exact inOwn_has h1 j q
    · exact insOwn_has h2 j q
end
section
variable {K : PySem.W.Frag} {J : Jar} {F : Fm} {σ : L2.St} {H Z : Hp} {r : En} {own : List (Str × Nat)}
theorem Rel.wipe (R : Rel K J F σ H Z r) : Rel K J F (L2.wipe σ (own.map (·.2))) H Z (wipe own r) := by
  have out : ∀ {j : Nat} {s : Slot}, rd (G.wipe own r) j = s → s ≠ .un → j ∉ own.map (·.2) ∧ rd r j = s := fun {j s} e n => by
    rw [rd_wipe'] at e
    by_cases h : j ∈ own.map (·.2)
    · rw [if_pos h] at e; exact absurd e.symm n
    · rw [if_neg h] at e; exact ⟨h, e⟩
  have at_ : ∀ {j : Nat}, j ∉ own.map (·.2) → (L2.wipe σ (own.map (·.2)))[j]? = σ[j]? := fun {j} h => by rw [wipe_at, if_neg fun q => h q.1]
  refine ⟨R.sub, R.frame, by rw [wipe_g]; exact R.jar, R.jz, by rw [L2.wipe_length, wipeE_len]; exact R.len, fun i d e => ?_, fun i ds e => ?_, fun i j ds es a e e2 h1 h2 => ?_, R.zs, R.zo, R.ng, R.gf, fun i k e => ?_⟩
  · obtain ⟨h, e⟩ := out e (fun z => by cases z)
    rw [at_ h]
    exact R.fz i d e
  · obtain ⟨h, e⟩ := out e (fun z => by cases z)
    rw [at_ h]
    exact R.ow i ds e
  · obtain ⟨h, e⟩ := out e (fun z => by cases z)
    obtain ⟨h', e2⟩ := out e2 (fun z => by cases z)
    rw [at_ h] at h1
    rw [at_ h'] at h2
    exact R.sep i j ds es a e e2 h1 h2
  · obtain ⟨h, e⟩ := out e (fun z => by cases z)
    rw [at_ h]
    exact R.al i k e
theorem not_wiped (hs : ∀ i es, rd r i = .ow es → σ[i]? ≠ some (some (.ref a))) : ∀ i es, rd (wipe own r) i = .ow es → (L2.wipe σ (own.map (·.2)))[i]? ≠ some (some (.ref a)) := fun i es e => by
  rw [rd_wipe'] at e
  by_cases h : i ∈ own.map (·.2)
  · rw [if_pos h] at e; cases e
  · rw [if_neg h] at e
    rw [wipe_at, if_neg fun q => h q.1]
    exact hs i es e
theorem Rel.unwipe {r1 : En} {H1 Z1 : Hp} (R1 : Rel K J F σ H1 Z1 r1) (n : noOw own r1 = true) (s : Same Z1 Z) (R : Rel K J F (L2.wipe σ (own.map (·.2))) H Z r) : Rel K J F σ H Z (unwipe own r1 r) := by
  have hl : r1.length = r.length := by rw [← R1.len, ← R.len, L2.wipe_length]
  have at_ : ∀ {j : Nat}, j ∉ own.map (·.2) → (L2.wipe σ (own.map (·.2)))[j]? = σ[j]? := fun {j} h => by rw [wipe_at, if_neg fun q => h q.1]
  have ow_ : ∀ {j : Nat} {ds : List D}, rd (G.unwipe own r1 r) j = .ow ds → j ∉ own.map (·.2) ∧ rd r j = .ow ds := fun {j ds} e => by
    rw [rd_unwipe own r1 r j hl] at e
    by_cases h : j ∈ own.map (·.2)
    · rw [if_pos h] at e; exact absurd e (noOw_at n j h ds)
    · rw [if_neg h] at e; exact ⟨h, e⟩
  refine ⟨R.sub, R.frame, by rw [unwipe_g]; exact R.jar, R.jz, by rw [unwipe_len, ← hl]; exact R1.len, fun i d e => ?_, fun i ds e => ?_, fun i j ds es a e e2 h1 h2 => ?_, R.zs, R.zo, R.ng, R.gf, fun i k e => ?_⟩
  · rw [rd_unwipe own r1 r i hl] at e
    by_cases h : i ∈ own.map (·.2)
    · rw [if_pos h] at e
      obtain ⟨v, e1, e2⟩ := R1.fz i d e
      exact ⟨v, e1, e2.mono s⟩
    · rw [if_neg h] at e
      rw [← at_ h]
      exact R.fz i d e
  · obtain ⟨h, e⟩ := ow_ e
    rw [← at_ h]
    exact R.ow i ds e
  · obtain ⟨h, e⟩ := ow_ e
    obtain ⟨h', e2⟩ := ow_ e2
    rw [← at_ h] at h1
    rw [← at_ h'] at h2
    exact R.sep i j ds es a e e2 h1 h2
  · rw [rd_unwipe own r1 r i hl] at e
    by_cases h : i ∈ own.map (·.2)
    · rw [if_pos h] at e
      exact absurd e (noAl_at n i h k)
    · rw [if_neg h] at e
      rw [← at_ h]
      exact R.al i k e
end
def noW : WX := fun _ _ _ _ => False
section
variable {cf : Cfg} {J : Jar} {XR : XRT} {C : Calls} {lv : Nat} {X : Cx} {S : Sc} {W : WX} (G : Good cf J XR C lv X S) (hC : CMono C)
include hC
theorem use_W {K : PySem.W.Frag} {F : Fm} {σ : L2.St} {H Z : Hp} {r : En} {Y : XW} {c : It} {Q : L2.It → Hp → Prop} {k : List D → En → Prop} (R : Rel K J F σ H Z r) (hx : XC K J XR F σ Z W Y) (h : itW C c r k Y)
    (hk : ∀ ds r1, k ds r1 → ∀ Jt H1 Z1, Same Z Z1 → Rel K J F σ H1 Z1 r1 → Wk K J Z1 ds Jt → ds.length ≤ sizeLine → Q Jt H1) : lW K J XR C W c σ H Q :=
  ⟨F, Z, r, Y, R, hx, itW_mono hC c hk (fun _ _ q => q) h⟩
include G
theorem s_comp {e : Ex} {t : Tg} {w : It} {c : Ts} {own : List (Str × Nat)} {elt tg iter : Expr} {ifs : List Expr} {scope : Scope} {pos : Pos} (ok : BlkOk X.N X.env.scope scope own) (ho : inOwn own t = true) (ns : notSet iter = true)
    (hi : PI X tg iter (lW X.K J XR C W w))
    (hg : ∀ (s : Shared) (H : Hp) (D : Addr) (cl : List (Str × Addr)) (fp : List Addr), PG (X.blk s H scope (compEnvC scope cl D X.env) fp) tg (lG X.K J t))
    (ht : ∀ (s : Shared) (H : Hp) (D : Addr) (cl : List (Str × Addr)) (fp : List Addr), PTs (X.blk s H scope (compEnvC scope cl D X.env) fp) ifs (lT X.K J XR C noW c))
    (he : ∀ (s : Shared) (H : Hp) (D : Addr) (cl : List (Str × Addr)) (fp : List Addr), PE (X.blk s H scope (compEnvC scope cl D X.env) fp) elt (lE X.K J XR C noW e)) :
    (∀ pins s σ H Q, Inv X pins σ H s → lE X.K J XR C W (.comp e t w c own) σ H Q → tLc (lW X.K J XR C W w) (lG X.K J t) (lT X.K J XR C noW c) (lE X.K J XR C noW e) (own.map (·.2)) σ H Q) ∧
    PE X (.ListComp elt [⟨tg, iter, ifs, 0⟩] scope pos) (lE X.K J XR C W (.comp e t w c own)) := by
  have key : ∀ pins s σ H Q, Inv X pins σ H s → lE X.K J XR C W (.comp e t w c own) σ H Q → tLc (lW X.K J XR C W w) (lG X.K J t) (lT X.K J XR C noW c) (lE X.K J XR C noW e) (own.map (·.2)) σ H Q := by
    intro pins s σ H Q I ⟨F, Z, r, Y, R, hx, h⟩
    unfold exW at h
    refine use_W hC R hx h fun ds r1 h1 Jt H1 Z1 s1 R1 wk hl => ?_
    obtain ⟨no, h1⟩ := h1
    intro L hL
    obtain ⟨lz, lf, lj, lo⟩ := R1.fresh hL
    refine ⟨fun i m H' => ∃ Z' r' acc av, Same Z1 Z' ∧ Rel X.K J (F.add L (.lst av)) (L2.wipe σ (own.map (·.2))) H' Z' r' ∧ i + m = ds.length ∧ RepL X.K J Z' av acc ∧ acc.length ≤ i ∧
      turns (fun d r2 k => tgW t d r2 fun r3 => tsW C c r3 (fun b r4 => if b = true then exW C e r4 (fun x r5 => frz r5 x fun y r6 => k (some y) (wipe own r6)) noX else k none (wipe own r4)) noX) (ds.drop i) acc r'
        (fun ys r7 => ∀ v H' Z', Same Z Z' → Rel X.K J F σ H' Z' (unwipe own r1 r7) → RepR X.K J F σ H' Z' (unwipe own r1 r7) (.new ys) v → Q v H'), ⟨ds.length, ?_⟩, fun i m H' w' => ?_⟩
    · refine ⟨Z1, wipe own r1, [], [], .refl _, ?_, by omega, .nil, Nat.le_refl _, h1⟩
      exact (R1.grow hL).wipe.guard upd_same lz (not_wiped lo)
    · obtain ⟨Z', r', acc, av, sz, RR, em, ra, la, tu⟩ := w'
      by_cases hi : i < ds.length
      · have e1 : ds[i]? = some ds[i] := List.getElem?_eq_getElem hi
        have e2 : ds.drop i = ds[i] :: ds.drop (i + 1) := List.drop_eq_getElem_cons hi
        rw [e2] at tu
        unfold turns at tu
        obtain ⟨go, yl⟩ := (wk i H' (sz.trans RR.sub)).1 _ e1
        refine .inr ⟨go, fun H2 => ∃ Z' r' acc av, Same Z1 Z' ∧ Rel X.K J (F.add L (.lst av)) (L2.wipe σ (own.map (·.2))) H2 Z' r' ∧ RepL X.K J Z' av acc ∧ acc.length ≤ i + 1 ∧
          turns (fun d r2 k => tgW t d r2 fun r3 => tsW C c r3 (fun b r4 => if b = true then exW C e r4 (fun x r5 => frz r5 x fun y r6 => k (some y) (wipe own r6)) noX else k none (wipe own r4)) noX) (ds.drop (i + 1)) acc r'
            (fun ys r7 => ∀ v H' Z', Same Z Z' → Rel X.K J F σ H' Z' (unwipe own r1 r7) → RepR X.K J F σ H' Z' (unwipe own r1 r7) (.new ys) v → Q v H'),
          fun H2 ⟨Z2, r2, ac2, av2, q1, q2, q3, q4, q5⟩ => ⟨m - 1, by omega, Z2, r2, ac2, av2, q1, q2, by omega, q3, q4, q5⟩, fun x H2 y => ?_⟩
        have res := yl x H2 y
        have res' : Res X.K J H' Z' (.val ds[i]) x H2 := by
          rcases res with ⟨p1, p2⟩ | ⟨p, vs, es, p1, p2, p3, p4, p5, p6⟩
          · exact .inl ⟨p1, p2.mono sz⟩
          · exact .inr ⟨p, vs, es, p1, p2, p3, p4, p5.mono sz, p6⟩
        obtain ⟨Z2, s2, R2, hd⟩ := RR.res res'
        refine ⟨F.add L (.lst av), Z2, r', ds[i], R2, hd, tgW_mono t (fun r3 q3 σ2 R3 ag => ?_) tu⟩
        have we : L2.wipe σ2 (own.map (·.2)) = L2.wipe σ (own.map (·.2)) := wipe_agr (inOwn_has ho) ag
        refine ⟨we, use_T hC R3 XC.no q3 fun b r4 q4 H4 Z4 s4 R4 => ?_⟩
        by_cases hb : b = true
        · rw [if_pos hb] at q4 ⊢
          refine use_E hC R4 XC.no q4 fun xx r5 q5 v H5 Z5 s5 R5 p5 => ?_
          obtain ⟨d6, r6, Z6, s6, R6, hd6, q6⟩ := R5.frz p5 q5
          obtain ⟨R7, hD7, hz7, hs7⟩ := R6.unguard lf lj R.nog
          have sA : Same Z' Z6 := ((s2.trans s4).trans s5).trans s6
          have hav : av.length < sizeLine := by rw [ra.length]; omega
          refine ⟨av, hD7, hav, Z6, wipe own r6, acc ++ [d6], av ++ [v], sz.trans sA, ?_, (ra.mono sA).append (.cons hd6 .nil), by rw [List.length_append]; simp; omega, q6⟩
          have R8 := (R7.put (o := .lst (av ++ [v])) lf lj hz7 hs7).wipe (own := own)
          rw [we] at R8
          refine R8.guard upd_same hz7 ?_
          rw [← we]
          exact not_wiped hs7
        · rw [if_neg hb] at q4 ⊢
          obtain ⟨R7, hD7, hz7, hs7⟩ := R4.unguard lf lj R.nog
          have sA : Same Z' Z4 := s2.trans s4
          refine ⟨Z4, wipe own r4, acc, av, sz.trans sA, ?_, ra.mono sA, by omega, q4⟩
          have R8 := R7.wipe (own := own)
          rw [we] at R8
          refine R8.guard hD7 hz7 ?_
          rw [← we]
          exact not_wiped hs7
      · refine .inl ⟨(wk i H' (sz.trans RR.sub)).2 (by omega), ?_⟩
        rw [List.drop_eq_nil_of_le (by omega)] at tu
        unfold turns at tu
        obtain ⟨R7, hD7, hz7, hs7⟩ := RR.unguard lf lj R.nog
        refine tu _ H' Z' (s1.trans sz) (R1.unwipe no sz R7) ⟨L, av, rfl, hD7, by rw [ra.length]; omega, ra, hz7, lf, lj, fun j es ej => ?_⟩
        rw [rd_unwipe own r1 r' j (by rw [← R1.len, ← R7.len, L2.wipe_length])] at ej
        by_cases hm : j ∈ own.map (·.2)
        · rw [if_pos hm] at ej; exact absurd ej (noOw_at no j hm es)
        · rw [if_neg hm] at ej
          have := hs7 j es ej
          rwa [wipe_at, if_neg fun q => hm q.1] at this
  exact ⟨key, (pe_lc G.calm G.nd hi ok hg ht he (by intro x; cases iter <;> first | rfl | cases ns)).imp key⟩
end
end G

set_option linter.all false
set_option maxRecDepth 100000
set_option Elab.async false
/-! Sj: what loops and comprehensions walk. -/
namespace G
open PySem PySem.Spec PyProof.Rows L2

theorem _root_.L2.PI.imp {X : Cx} {tg e : Expr} {t t' : TI} (h : PI X tg e t) (hi : ∀ pins s σ H Q, Inv X pins σ H s → t' σ H Q → t σ H Q) : PI X tg e t' := ⟨fun pins s σ H Q I q => h.run pins s σ H Q I (hi pins s σ H Q I q)⟩
/-- a list or a tuple, walked -/
def iSeq (K : PySem.W.Frag) (tl : TE) : TI := fun σ H R => tl σ H fun x H1 => ∃ a, x = .ref a ∧ ((∃ xs, SqL K H1 a xs ∧ R (Itl K a) H1) ∨ ∃ xs, SqT K H1 a xs ∧ (xs.length ≤ sizeLine → R (Itt K a) H1))
theorem pi_seq {X : Cx} {tg el : Expr} {tl : TE} (hl : PE X el tl) : PI X tg el (iSeq X.K tl) := by
  constructor
  intro ps s0 σ0 H0 R0 J0 hw
  refine thn (hl.run ps s0 σ0 H0 _ J0 hw) fun v0 s2 ⟨x0, H2, J2, rel, qq⟩ => ?_
  obtain ⟨a, rfl, hq | hq⟩ := qq
  · obtain ⟨xs, hq, q⟩ := hq
    cases rel
    obtain ⟨its, rv, pp, hz⟩ := J2.list hq
    exact wpAny_pyIter_list pp.isList (pi_one J2 _ (turn_list a _) ⟨_, Heap.get?_push_size _ rfl, rfl, rfl⟩ q)
  · obtain ⟨xs, hq, q⟩ := hq
    cases rel
    obtain ⟨its, rv, pp, hz⟩ := J2.tuple hq
    exact wpAny_pyIter_tuple (show s2.heap.IsTuple a its.toArray from pp) (pi_one J2 _ (turn_tuple a _) ⟨_, Heap.get?_push_size _ rfl, rfl, rfl⟩ (q hz))

section
variable {K : PySem.W.Frag} {J : Jar} {Z : Hp} {ds : List D}
theorem wk_list {a : Addr} {xs : List V} (h : Z a = some (.lst xs)) (l : RepL K J Z xs ds) : Wk K J Z ds (Itl K a) := fun i H s => by
  have e : SqL K H a xs := .of (s _ _ h)
  refine ⟨fun d hd => ?_, fun hi => ⟨xs, e, by rw [l.length]; exact hi⟩⟩
  obtain ⟨y, hy, hr⟩ := l.get hd
  refine ⟨⟨xs, y, e, hy⟩, fun x H' ⟨h1, h2⟩ => ?_⟩
  have := h2 xs e
  rw [hy] at this
  cases this
  exact .inl ⟨h1, hr⟩
theorem wk_tup {a : Addr} {xs : List V} (h : SqT K Z a xs) (l : RepL K J Z xs ds) : Wk K J Z ds (Itt K a) := fun i H s => by
  have e : SqT K H a xs := sqT_mono s h
  refine ⟨fun d hd => ?_, fun hi => ⟨xs, e, by rw [l.length]; exact hi⟩⟩
  obtain ⟨y, hy, hr⟩ := l.get hd
  refine ⟨⟨xs, y, e, hy⟩, fun x H' ⟨h1, h2⟩ => ?_⟩
  have := h2 xs e
  rw [hy] at this
  cases this
  exact .inl ⟨h1, hr⟩
theorem wk_range (lo : Int) (n : Nat) : Wk K J Z (rangeD lo n) (Itr lo n) := fun i H s => by
  have hl : (rangeD lo n).length = n := by unfold rangeD; simp
  refine ⟨fun d hd => ?_, fun hi => by rw [hl] at hi; exact hi⟩
  have hi : i < n := by
    have := (List.getElem?_eq_some_iff.mp hd).1
    rwa [hl] at this
  refine ⟨hi, fun x H' ⟨h1, h2⟩ => ?_⟩
  unfold rangeD at hd
  rw [List.getElem?_map, List.getElem?_range hi] at hd
  cases hd
  exact .inl ⟨h1, by rw [h2]; exact .int _⟩
end
theorem range_len {lo : Int} {n : Nat} : (rangeD lo n).length = n := by unfold rangeD; simp
/-! ### enumerate -/
/-- the tuple at a, each item in a new pair -/
def IteT (K : PySem.W.Frag) (a : Addr) : L2.It :=
  ⟨fun i H => ∃ (xs : List V) (x : V), SqT K H a xs ∧ xs[i]? = some x, fun i H v H' => ∃ T x, v = .ref T ∧ H T = none ∧ H' = upd H T (.tup [.int (i : Nat), x]) ∧ ∀ xs, SqT K H a xs → xs[i]? = some x, fun i H => ∃ xs : List V, SqT K H a xs ∧ xs.length ≤ i⟩
theorem new_enumT (l : Addr) (its : Array Value) :
    Meets (Builtin.«enumerate.__new__» ⟨[.type "enumerate", .ref l], []⟩) (fun _ R s => s.heap.IsTuple l its ∧
      R (.ok (.ret (.ref (s.heap.push { cls := .type "tuple_iterator", data := .fields #[.ref l, .int 0 0] }).objs.size)))
        { s with heap := (s.heap.push { cls := .type "tuple_iterator", data := .fields #[.ref l, .int 0 0] }).push { cls := .type "enumerate", data := .fields #[.none, .bool false, .ref s.heap.objs.size, rawInt 0, .none, .none] } }) :=
  .of_wp fun prg w0 A0 R0 s0 hh => by
    obtain ⟨hp, g, d, tk, os⟩ := s0
    obtain ⟨hT, hh⟩ := hh
    have hsub := sub_enumerate
    have hT2 : Heap.IsTuple (Shared.heap ⟨hp, g, d, tk, os⟩) l its := hT
    wp_walk
    refine wpAny_stack_any fun st0 => wpAny_pure ?_
    split
    · rename_i c0 _ _ _ _ _
      cases (c0 == Value.type "enumerate")
      · wp_walk using wpAny_pyIter_tuple hT2
        exact ⟨_, rfl, hh⟩
      · wp_walk using wpAny_pyIter_tuple hT2
        exact ⟨_, rfl, hh⟩
    · wp_walk using wpAny_pyIter_tuple hT2
      exact ⟨_, rfl, hh⟩
theorem call_enumT {prg : Program} {w0 : World} {A0 : Around} {E0 : Value → Shared → Prop} {s0 : Shared} {l : Addr} {its : Array Value} {Q0 : Value → Shared → Prop} (hT : s0.heap.IsTuple l its)
    (hh : ∀ h', IsEnum h' (s0.heap.objs.size + 1) s0.heap.objs.size 0 .none → h'.IsTupleIter s0.heap.objs.size l 0 → h'.objs.size = s0.heap.objs.size + 2 →
      (∀ b o, s0.heap.get? b = some o → h'.get? b = some o) → Q0 (.ref (s0.heap.objs.size + 1)) { s0 with heap := h' }) :
    wpAny (model prg w0) A0 (call (.type "enumerate") [.ref l]) Q0 E0 s0 := by
  refine callType_new F.called_enumerate (by decide) (F.typeCall_enumerate_1 _) (F.newCall_enumerate_1 _) (fun ob => F.args_object_init_2 ob _) F.entry_enumerate_new (new_enumT l its) ⟨hT, ?_⟩
  have hz : (s0.heap.push { cls := .type "tuple_iterator", data := .fields #[.ref l, .int 0 0] }).objs.size = s0.heap.objs.size + 1 := Heap.size_push ..
  show _ ∧ _
  rw [hz]
  have he := Heap.get?_push_size (s0.heap.push { cls := .type "tuple_iterator", data := .fields #[.ref l, .int 0 0] }) (o := { cls := .type "enumerate", data := .fields #[.none, .bool false, .ref s0.heap.objs.size, rawInt 0, .none, .none] }) rfl
  rw [hz] at he
  exact ⟨⟨_, he, rfl⟩, hh _ he ⟨_, Heap.get?_push_of_some _ (Heap.get?_push_size _ rfl), rfl, rfl⟩ (by rw [Heap.size_push, hz]) fun b o x => Heap.get?_push_of_some _ (Heap.get?_push_of_some _ x)⟩
theorem turn_enumT {P : Program} {w : World} {K : PySem.W.Frag} {elts : List Expr} {kk : Nat} {tpos : Pos} (a e it : Addr) :
    Turn P w K (.Tuple elts kk tpos) (IteT K a) [e, it] e (fun i h => (∃ old, IsEnum h e it ((i : Nat) : Int) old) ∧ h.IsTupleIter it a i ∧ e ≠ it) where
  mem := by simp
  obj := fun i h st b hb => by
    obtain ⟨⟨old, he⟩, ⟨o, ho, hc, hd⟩, _⟩ := st
    rcases (show b = e ∨ b = it by simpa using hb) with z | z
    · rw [z]
      exact ⟨_, he, fun v q => nomatch q⟩
    · rw [z]
      exact ⟨o, ho, fun v q => by rw [hd] at q; cases q⟩
  keep := fun i h h' st k => let ⟨⟨old, he⟩, hi, hne⟩ := st; ⟨⟨old, k e (by simp) _ he⟩, hi.at fun o q => k it (by simp) o q, hne⟩
  item := by
    intro X hP hw hK hc i pins s σ H E I hf st hg
    subst hP hw hK
    obtain ⟨⟨old, he⟩, hit, hne⟩ := st
    obtain ⟨xs, x, hq, hx⟩ := hg
    obtain ⟨its, rv, pt, hz⟩ := I.tuple hq
    have pt2 : s.heap.IsTuple a its.toArray := pt
    obtain ⟨u, hu, ru⟩ := rv.get hx
    have hel : e < s.heap.objs.size := Heap.lt_size he
    have hil : it < s.heap.objs.size := by obtain ⟨_, q, _⟩ := hit; exact Heap.lt_size q
    have ai : ∀ b ∈ [e, it], b ≠ a := fun b hb z => by
      obtain ⟨g1, g2⟩ := hf b hb
      subst z
      have hcls : ∃ o, s.heap.get? b = some o ∧ o.cls = .type "tuple" := by
        obtain ⟨o, ho, hcl, _⟩ := id pt2
        exact ⟨o, ho, hcl⟩
      obtain ⟨o, ho, hcl⟩ := hcls
      rcases (show b = e ∨ b = it by simpa using hb) with z | z
      · subst z
        rw [he] at ho
        cases ho
        exact absurd (show Value.type "enumerate" = Value.type "tuple" from hcl) (by decide)
      · subst z
        obtain ⟨o2, ho2, hc2, _⟩ := hit
        rw [ho2] at ho
        cases ho
        rw [hc2] at hcl
        exact absurd hcl (by decide)
    have D := PySem.Draws.tuple (prog := X.prog) (w := X.w) (A := X.A.in1) (show X.A.in1.handled = none from I.ok.hd hc) it a (Ne.symm (ai it (by simp))) its.toArray
    refine wpAny_pyNext_enum_itemD (i := i) D he ⟨hit, pt2⟩ (by have := List.getElem?_eq_some_iff.mp hu; simpa using this.1) hne (by simp; exact ⟨hne, ai e (by simp)⟩) fun x2 h' tk hP ho hst hT hsz hk => ?_
    have hx2 : x2 = u := by
      have : its.toArray[i]? = some x2 := hP
      rw [List.getElem?_toArray, hu] at this
      cases this
      rfl
    subst hx2
    refine ⟨_, rfl, wpAny_letOwnedTupleGo_enum (s := { s with heap := h', toks := tk + 1 }) ho fun h'' he' sb => ?_⟩
    have hT2 : h''.get? s.heap.objs.size = some { cls := .type "tuple", data := .seq #[.int i tk, x2] } := (sb.2 _ (Nat.ne_of_gt hel)).trans hT
    have new : ObjOk X.prog X.w (upd H s.heap.objs.size (.tup [.int (i : Nat), x])) h'' s.heap.objs.size (.tup [.int (i : Nat), x]) :=
      ⟨by show 2 ≤ sizeLine; decide, [.int i tk, x2], .cons ⟨_, rfl⟩ (.cons ru .nil), ⟨_, hT2, rfl, _, rfl⟩⟩
    have I1 : Inv X pins σ (upd H s.heap.objs.size (.tup [.int (i : Nat), x])) { s with heap := h'', toks := tk + 1 } :=
      I.turnedNew (ch := [e, it]) (fun b ob hb q => (sb.2 b (fun z => hb (by simp [z]))).trans (hk b ob (fun z => hb (by simp [z])) (fun z => hb (by simp [z])) q)) hf (Nat.le_refl _) new
    refine ⟨.ref s.heap.objs.size, _, I1, rfl, ⟨_, x, rfl, I.hok.fresh (Nat.le_refl _), rfl, fun ys hy => by rw [I.tuple_inj hy hq]; exact hx⟩, ⟨⟨x2, ?_⟩, hst.1.at fun o q => (sb.2 it (Ne.symm hne)).trans q, hne⟩, fun b hb => ?_⟩
    · rw [show ((i + 1 : Nat) : Int) = (i : Int) + 1 by omega]
      exact he'
    · have hb' : b < s.heap.objs.size := by
        rcases (show b = e ∨ b = it by simpa using hb) with z | z
        · rw [z]; exact hel
        · rw [z]; exact hil
      rw [upd_ne (Nat.ne_of_lt hb')]
      exact (hf b hb).1
  done := by
    intro X hP hw hK hc i pins s σ H E I hf st hg
    subst hP hw hK
    obtain ⟨⟨old, he⟩, hit, hne⟩ := st
    obtain ⟨xs, hq, hx⟩ := hg
    obtain ⟨its, rv, pt, hz⟩ := I.tuple hq
    have pt2 : s.heap.IsTuple a its.toArray := pt
    obtain ⟨f0, f1, f2, f3, f4, f5⟩ := hf it (by simp)
    have hl := rv.length
    have hT : s.TypeIs (.ref e) "enumerate" := ⟨_, he, rfl⟩
    unfold pyNext
    refine wpAny_bind (wpAny_attempt (wpAny_callSpecial?_slot (name := Str.ofString "__next__") hT F.slot_enumerate_next (wpAny_call_entry F.slot_enumerate_next hT F.entry_enumerate_next ?_ (F.args_enumerate_next_1 _))))
    show wpAny _ _ (field (.ref e) 2 >>= _) _ _ _
    refine wpAny_bind (wpAny_field he rfl (x := .ref it) rfl ?_)
    refine wpAny_bind (wpAny_nextOf_tuple_end (show X.A.in1.in1.handled = none from I.ok.hd hc) hit pt2 (by simp; omega) fun h' x he' hx' => ?_)
    obtain ⟨o, ho, hcl⟩ := hx'
    refine wpAny_bind (wpAny_isInstance (T := "StopIteration") (b := true) ⟨o, ho, hcl⟩ isSubtype_stop ?_)
    exact wpAny_pure ⟨rfl, I.turned (t' := s.toks) (fun b o hb q => he' b o hb q) f0 f1 f3 f4 f5⟩
  self := fun A i s Q E st h => let ⟨⟨_, he⟩, _⟩ := st; wpAny_pyIter_enum he h
def iEnumA (K : PySem.W.Frag) (ta : TA) : TI := fun σ H R => ta σ H fun vs H1 => ∃ a xs, vs = [.ref a] ∧ ((SqL K H1 a xs ∧ R (Ite K a) H1) ∨ (SqT K H1 a xs ∧ (xs.length ≤ sizeLine → R (IteT K a) H1)))
theorem pi_enumA {X : Cx} {e : Expr} {ta : TA} {p pos tpos : Pos} {elts : List Expr} {kk : Nat} (hg : Gl X "enumerate") (hm : X.mg "enumerate" = none) (ha : PA X [e] ta) (hs : starEach [e] X.env = [(false, eval e X.env)]) :
    PI X (.Tuple elts kk tpos) (.Call (.Name "enumerate" p) [e] [] pos) (iEnumA X.K ta) := by
  constructor
  intro ps s σ H R I h
  refine Call_ (ld_blt I hg hm boot_enumerate (PyProof.Rows.callWith_type1 (thn (ha.run pos ps s σ H _ I h) fun us s1 ⟨vs, H1, I1, r1, q1⟩ => ?_) hs rfl))
  obtain ⟨a, xs, ex, q⟩ := q1
  subst ex
  cases r1 with
  | cons r rr =>
    cases rr
    cases r
    have fr : ∀ b ∈ [s1.heap.objs.size + 1, s1.heap.objs.size], FpOk X ps H1 b := fun b hb => by
      have hle : s1.heap.objs.size ≤ b := by
        rcases (show b = s1.heap.objs.size + 1 ∨ b = s1.heap.objs.size by simpa using hb) with z | z <;> omega
      exact I1.fpOk hle (I1.hok.fresh hle)
    rcases q with ⟨hq, q⟩ | ⟨hq, q⟩
    · obtain ⟨its, rv, pt, hz⟩ := I1.list hq
      refine call_enumerate_list pt.isList fun h' he hit hsz hk => wpAny_pyIter_enum he ?_
      exact ⟨s1.heap.objs.size + 1, [s1.heap.objs.size + 1, s1.heap.objs.size], _, _, H1, rfl, I1.kept (t' := s1.toks) hk, turn_enum a (s1.heap.objs.size + 1) s1.heap.objs.size, ⟨⟨.none, he⟩, hit, Nat.succ_ne_self _⟩, fr, q⟩
    · obtain ⟨its, rv, pt, hz⟩ := I1.tuple hq
      refine call_enumT (show s1.heap.IsTuple a its.toArray from pt) fun h' he hit hsz hk => wpAny_pyIter_enum he ?_
      exact ⟨s1.heap.objs.size + 1, [s1.heap.objs.size + 1, s1.heap.objs.size], _, _, H1, rfl, I1.kept (t' := s1.toks) hk, turn_enumT a (s1.heap.objs.size + 1) s1.heap.objs.size, ⟨⟨.none, he⟩, hit, Nat.succ_ne_self _⟩, fr, q hz⟩
section
variable {K : PySem.W.Frag} {J : Jar} {Z : Hp} {ds es : List D}
theorem enumD_len : (enumD ds).length = ds.length := by unfold enumD; simp
theorem enumD_at {i : Nat} {d : D} (h : (enumD ds)[i]? = some d) : ∃ x, ds[i]? = some x ∧ d = .tuple [.int (i : Int), x] := by
  unfold enumD at h
  rw [List.getElem?_mapIdx] at h
  cases q : ds[i]? with
  | none => rw [q] at h; cases h
  | some x => rw [q] at h; cases h; exact ⟨x, rfl, rfl⟩
theorem zipD_at {i : Nat} {d : D} (h : (zipD ds es)[i]? = some d) : ∃ x y, ds[i]? = some x ∧ es[i]? = some y ∧ d = .tuple [x, y] := by
  unfold zipD at h
  rw [List.getElem?_zipWith] at h
  cases q : ds[i]? with
  | none => rw [q] at h; cases h
  | some x =>
    cases q2 : es[i]? with
    | none => rw [q, q2] at h; cases h
    | some y => rw [q, q2] at h; cases h; exact ⟨x, y, rfl, rfl, rfl⟩
theorem zipD_len : (zipD ds es).length = min ds.length es.length := by unfold zipD; simp
theorem wk_enumL {a : Addr} {xs : List V} (h : Z a = some (.lst xs)) (l : RepL K J Z xs ds) : Wk K J Z (enumD ds) (Ite K a) := fun i H s => by
  have e : SqL K H a xs := .of (s _ _ h)
  refine ⟨fun d hd => ?_, fun hi => ⟨xs, e, by rw [l.length]; rwa [enumD_len] at hi⟩⟩
  obtain ⟨x, hx, rfl⟩ := enumD_at hd
  obtain ⟨y, hy, hr⟩ := l.get hx
  refine ⟨⟨xs, y, e, hy⟩, fun v H' ⟨T, y2, h1, h2, h3, h4⟩ => ?_⟩
  have := h4 xs e
  rw [hy] at this
  cases this
  exact .inr ⟨T, _, _, h2, h3, h1, rfl, .cons (.int _) (.cons hr .nil), by show 2 ≤ sizeLine; decide⟩
theorem wk_enumT {a : Addr} {xs : List V} (h : SqT K Z a xs) (l : RepL K J Z xs ds) : Wk K J Z (enumD ds) (IteT K a) := fun i H s => by
  have e : SqT K H a xs := sqT_mono s h
  refine ⟨fun d hd => ?_, fun hi => ⟨xs, e, by rw [l.length]; rwa [enumD_len] at hi⟩⟩
  obtain ⟨x, hx, rfl⟩ := enumD_at hd
  obtain ⟨y, hy, hr⟩ := l.get hx
  refine ⟨⟨xs, y, e, hy⟩, fun v H' ⟨T, y2, h1, h2, h3, h4⟩ => ?_⟩
  have := h4 xs e
  rw [hy] at this
  cases this
  exact .inr ⟨T, _, _, h2, h3, h1, rfl, .cons (.int _) (.cons hr .nil), by show 2 ≤ sizeLine; decide⟩
theorem wk_zipL {a b : Addr} {xs ys : List V} (h : Z a = some (.lst xs)) (l : RepL K J Z xs ds) (g : Z b = some (.lst ys)) (m : RepL K J Z ys es) : Wk K J Z (zipD ds es) (Itz K a b) := fun i H s => by
  have e : SqL K H a xs := .of (s _ _ h)
  have f : SqL K H b ys := .of (s _ _ g)
  refine ⟨fun d hd => ?_, fun hi => ⟨xs, ys, e, f, by rw [l.length, m.length]; rw [zipD_len] at hi; omega⟩⟩
  obtain ⟨x, y, hx, hy, rfl⟩ := zipD_at hd
  obtain ⟨u, hu, ru⟩ := l.get hx
  obtain ⟨u', hu', ru'⟩ := m.get hy
  refine ⟨⟨xs, ys, u, u', e, f, hu, hu'⟩, fun v H' ⟨T, y1, y2, h1, h2, h3, h4, h5⟩ => ?_⟩
  have q1 := h4 xs e
  have q2 := h5 ys f
  rw [hu] at q1
  rw [hu'] at q2
  cases q1
  cases q2
  exact .inr ⟨T, _, _, h2, h3, h1, rfl, .cons ru (.cons ru' .nil), by show 2 ≤ sizeLine; decide⟩
theorem wk_zipT {a b : Addr} {xs ys : List V} (h : SqT K Z a xs) (l : RepL K J Z xs ds) (g : SqT K Z b ys) (m : RepL K J Z ys es) : Wk K J Z (zipD ds es) (RZ.ItzT K a b) := fun i H s => by
  have e : SqT K H a xs := sqT_mono s h
  have f : SqT K H b ys := sqT_mono s g
  refine ⟨fun d hd => ?_, fun hi => ⟨xs, ys, e, f, by rw [l.length, m.length]; rw [zipD_len] at hi; omega⟩⟩
  obtain ⟨x, y, hx, hy, rfl⟩ := zipD_at hd
  obtain ⟨u, hu, ru⟩ := l.get hx
  obtain ⟨u', hu', ru'⟩ := m.get hy
  refine ⟨⟨xs, ys, u, u', e, f, hu, hu'⟩, fun v H' ⟨T, y1, y2, h1, h2, h3, h4, h5⟩ => ?_⟩
  have q1 := h4 xs e
  have q2 := h5 ys f
  rw [hu] at q1
  rw [hu'] at q2
  cases q1
  cases q2
  exact .inr ⟨T, _, _, h2, h3, h1, rfl, .cons ru (.cons ru' .nil), by show 2 ≤ sizeLine; decide⟩
end
section
variable {cf : Cfg} {J : Jar} {XR : XRT} {C : Calls} {lv : Nat} {X : Cx} {S : Sc} {W : WX} (G : Good cf J XR C lv X S) (hC : CMono C)
include hC
theorem star1 {a : Expr} (n : notStar a = true) : starEach [a] X.env = [(false, eval a X.env)] := by rw [star_of n]; rfl
theorem star2 {a b : Expr} (n : notStar a = true) (m : notStar b = true) : starEach [a, b] X.env = [(false, eval a X.env), (false, eval b X.env)] := by rw [star_of n, star_of m]; rfl
theorem repr_tupD {K : PySem.W.Frag} {F : Fm} {σ : L2.St} {H Z : Hp} {r : En} (R : Rel K J F σ H Z r) {v : V} {ds : List D} (h : Rep K J Z v (.tuple ds)) : ∃ a xs, v = .ref a ∧ SqT K H a xs ∧ SqT K Z a xs ∧ RepL K J Z xs ds := by
  obtain ⟨a, xs, rfl, h1, h2⟩ := rep_tup h
  exact ⟨a, xs, rfl, sqT_mono R.sub h1, h1, h2⟩
theorem rep_lstD {K : PySem.W.Frag} {F : Fm} {σ : L2.St} {H Z : Hp} {r : En} (R : Rel K J F σ H Z r) {v : V} {ds : List D} (h : Rep K J Z v (.list ds)) : ∃ a xs, v = .ref a ∧ SqL K H a xs ∧ Z a = some (.lst xs) ∧ RepL K J Z xs ds ∧ xs.length ≤ sizeLine := by
  cases h with
  | lst h1 h2 => exact ⟨_, _, rfl, .of (R.sub _ _ h1), h1, h2, R.zs _ _ (.inl h1)⟩
theorem tupLen {pins : List (Addr × Obj)} {s : Shared} {F : Fm} {σ σ2 : L2.St} {H H2 Z : Hp} {r : En} (I : Inv X pins σ H s) (R : Rel X.K J F σ2 H2 Z r) {a : Addr} {xs : List V} (h : SqT X.K Z a xs) : xs.length ≤ sizeLine := by
  rcases h with (h | ⟨o, h⟩) | h
  · exact R.zs _ _ (.inr h)
  · rcases R.zo _ _ h with ⟨q, e⟩ | ⟨q, e⟩ | e <;> cases e
  · obtain ⟨its, _, _, hz⟩ := I.tuple (a := a) (.inr h)
    exact hz
theorem i_e {a : Ex} {ea tg : Expr} (ha : PE X ea (lE X.K J XR C W a)) : PI X tg ea (lW X.K J XR C W (.e a)) := by
  refine (pi_seq ha).imp fun pins s σ H Q I ⟨F, Z, r, Y, R, hx, h⟩ => ?_
  unfold itW at h
  refine use_E hC R hx h fun x r1 h1 v H1 Z1 s1 R1 p1 => ?_
  obtain ⟨d, r2, Z2, s2, R2, hd, h2⟩ := R1.frz p1 h1
  split at h2
  · obtain ⟨a, xs, rfl, e1, e2, l, e3⟩ := rep_lstD hC R2 hd
    exact ⟨a, rfl, .inl ⟨xs, e1, h2 _ H1 Z2 (s1.trans s2) R2 (wk_list e2 l) (by rw [← l.length]; exact e3)⟩⟩
  · obtain ⟨a, xs, rfl, e1, e2, l⟩ := repr_tupD hC R2 hd
    exact ⟨a, rfl, .inr ⟨xs, e1, fun e3 => h2 _ H1 Z2 (s1.trans s2) R2 (wk_tup e2 l) (by rw [← l.length]; exact e3)⟩⟩
  · exact h2.elim
include G
theorem i_r1 {a : Ex} {ea tg : Expr} {p pos : Pos} (hg : glB S "range" = true) (hf : cf.free.contains "range" = true) (ns : notStar ea = true) (ha : PE X ea (lE X.K J XR C W a)) : PI X tg (.Call (.Name "range" p) [ea] [] pos) (lW X.K J XR C W (.r1 a)) := by
  refine (pi_range1 (G.gl hg) (G.facts.free _ hf) (pa_cons ha pa_nil (star_of ns)) (star1 hC ns)).imp fun pins s σ H Q I ⟨F, Z, r, Y, R, hx, h⟩ => ?_
  unfold itW at h
  refine use_pin hC R hx h fun x r1 h1 v H1 Z1 s1 R1 p1 => ?_
  obtain ⟨d, hd, h2⟩ := R1.der p1 h1
  split at h2
  · cases rep_int hd
    have := h2.1
    exact ⟨_, rfl, by omega, by unfold SZ at this; omega, h2.2 _ H1 Z1 s1 R1 (wk_range 0 _) (by rw [range_len, szl]; unfold SZ at this; omega)⟩
  · exact h2.elim
theorem i_r2 {a b : Ex} {ea eb tg : Expr} {p pos : Pos} (hg : glB S "range" = true) (hf : cf.free.contains "range" = true) (ns : notStar ea = true) (ns2 : notStar eb = true) (ha : PE X ea (lE X.K J XR C W a)) (hb : PE X eb (lE X.K J XR C W b)) : PI X tg (.Call (.Name "range" p) [ea, eb] [] pos) (lW X.K J XR C W (.r2 a b)) := by
  refine (pi_range2 (G.gl hg) (G.facts.free _ hf) (pa_cons ha (pa_cons hb pa_nil (star_of ns2)) (star_of ns)) (star2 hC ns ns2) (star1 hC ns2)).imp fun pins s σ H Q I ⟨F, Z, r, Y, R, hx, h⟩ => ?_
  unfold itW at h
  refine use_pin hC R hx h fun x r1 h1 v H1 Z1 s1 R1 p1 => ?_
  refine use_pin hC R1 (hx.mono s1) h1 fun y r2 h2 u H2 Z2 s2 R2 p2 => ?_
  obtain ⟨d, hd, h3⟩ := R2.der (p1.mono s2) h2
  obtain ⟨e, he, h3⟩ := R2.der p2 h3
  split at h3
  · split at h3
    · cases rep_int hd
      cases rep_int he
      have := h3.1
      exact ⟨_, _, rfl, ⟨this.1, this.2.1, this.2.2.1, this.2.2.2.1⟩, h3.2 _ H2 Z2 (s1.trans s2) R2 (wk_range _ _) (by rw [range_len, szl]; have := this.2.2.2.2; unfold SZ at this; omega)⟩
    · exact h3.elim
  · exact h3.elim
theorem i_en {a : Ex} {ea : Expr} {p pos tpos : Pos} {elts : List Expr} {kk : Nat} (hg : glB S "enumerate" = true) (hf : cf.free.contains "enumerate" = true) (ns : notStar ea = true) (ha : PE X ea (lE X.K J XR C W a)) :
    PI X (.Tuple elts kk tpos) (.Call (.Name "enumerate" p) [ea] [] pos) (lW X.K J XR C W (.en a)) := by
  refine (pi_enumA (G.gl hg) (G.facts.free _ hf) (pa_cons ha pa_nil (star_of ns)) (star1 hC ns)).imp fun pins s σ H Q I ⟨F, Z, r, Y, R, hx, h⟩ => ?_
  unfold itW at h
  refine use_E hC R hx h fun x r1 h1 v H1 Z1 s1 R1 p1 => ?_
  obtain ⟨d, r2, Z2, s2, R2, hd, h2⟩ := R1.frz p1 h1
  split at h2
  · obtain ⟨a, xs, rfl, e1, e2, l, e3⟩ := rep_lstD hC R2 hd
    exact ⟨a, xs, rfl, .inl ⟨e1, h2 _ H1 Z2 (s1.trans s2) R2 (wk_enumL e2 l) (by rw [enumD_len, ← l.length]; exact e3)⟩⟩
  · obtain ⟨a, xs, rfl, e1, e2, l⟩ := repr_tupD hC R2 hd
    exact ⟨a, xs, rfl, .inr ⟨e1, fun e3 => h2 _ H1 Z2 (s1.trans s2) R2 (wk_enumT e2 l) (by rw [enumD_len, ← l.length]; exact e3)⟩⟩
  · exact h2.elim
theorem i_zip {a b : Ex} {ea eb : Expr} {p pos tpos : Pos} {elts : List Expr} {kk : Nat} (hg : glB S "zip" = true) (hf : cf.free.contains "zip" = true) (ns : notStar ea = true) (ns2 : notStar eb = true) (ha : PE X ea (lE X.K J XR C W a)) (hb : PE X eb (lE X.K J XR C W b)) :
    PI X (.Tuple elts kk tpos) (.Call (.Name "zip" p) [ea, eb] [] pos) (lW X.K J XR C W (.zip a b)) := by
  refine (RZ.pi_zipA (G.gl hg) (G.facts.free _ hf) (pa_cons ha (pa_cons hb pa_nil (star_of ns2)) (star_of ns)) (by rw [star_of ns]) (back_any (star_any (by simp [ns2])))).imp fun pins s σ H Q I ⟨F, Z, r, Y, R, hx, h⟩ => ?_
  unfold itW at h
  refine use_E hC R hx h fun x r1 h1 v H1 Z1 s1 R1 p1 => ?_
  obtain ⟨d, r2, Z2, s2, R2, hd, h2⟩ := R1.frz p1 h1
  refine use_E hC R2 ((hx.mono s1).mono s2) h2 fun y r3 h3 u H3 Z3 s3 R3 p3 => ?_
  obtain ⟨e, r4, Z4, s4, R4, he, h4⟩ := R3.frz p3 h3
  have hd' := hd.mono (s3.trans s4)
  have sA : Same Z Z4 := ((s1.trans s2).trans s3).trans s4
  split at h4
  · split at h4
    · obtain ⟨a, xs, rfl, e1, e2, l, e3⟩ := rep_lstD hC R4 hd'
      obtain ⟨b, ys, rfl, f1, f2, m, f3⟩ := rep_lstD hC R4 he
      exact ⟨a, b, xs, ys, rfl, .inl ⟨e1, f1, h4 _ H3 Z4 sA R4 (wk_zipL e2 l f2 m) (by rw [zipD_len, ← l.length]; omega)⟩⟩
    · exact h4.elim
  · split at h4
    · obtain ⟨a, xs, rfl, e1, e2, l⟩ := repr_tupD hC R4 hd'
      obtain ⟨b, ys, rfl, f1, f2, m⟩ := repr_tupD hC R4 he
      exact ⟨a, b, xs, ys, rfl, .inr ⟨e1, f1, h4 _ H3 Z4 sA R4 (wk_zipT e2 l f2 m) (by rw [zipD_len, ← l.length]; have := tupLen hC I R4 e2; omega)⟩⟩
    · exact h4.elim
  · exact h4.elim
end
end G

set_option linter.all false
set_option maxRecDepth 100000
set_option Elab.async false
/-! Zm: list(zip(a, b)), list(range(..)) in the core. -/
namespace G
open PySem PySem.Spec PyProof.Rows L2
section
variable {K : PySem.W.Frag} {J : Jar} {F : Fm} {σ : L2.St} {H H' Z : Hp} {r : En}
/-- the pairs' tuples are given up -/
noncomputable def zPrs (H' Z : Hp) (ws : List V) : Hp := fun b => open Classical in if V.ref b ∈ ws then H' b else Z b
theorem Rel.lz (R : Rel K J F σ H Z r) {S : Addr} {xs ys ws : List V} {ds es : List D} (hS : H S = none) (hS' : H' S = some (.lst ws)) (hl : ws.length ≤ sizeLine) (hn : ws.length = min xs.length ys.length) (hp : Prs H H' xs ys ws) (sm : Same H H') (lx : RepL K J Z xs ds) (ly : RepL K J Z ys es) :
    Same Z (zPrs H' Z ws) ∧ Rel K J F σ H' (zPrs H' Z ws) r ∧ RepR K J F σ H' (zPrs H' Z ws) r (.new (zipD ds es)) (.ref S) := by
  obtain ⟨zS, fS, nS, oS⟩ := R.fresh hS
  have tup : ∀ b, V.ref b ∈ ws → H b = none ∧ ∃ x y, H' b = some (.tup [x, y]) := fun b hb => by
    obtain ⟨j, hj⟩ := List.mem_iff_getElem?.mp hb
    obtain ⟨T, x, y, e1, e2, _, _, e5⟩ := hp j _ hj
    cases e1
    exact ⟨e5, x, y, e2⟩
  have nin : ∀ b, H b ≠ none → V.ref b ∉ ws := fun b hb hm => hb (tup b hm).1
  have zin : ∀ b, V.ref b ∈ ws → zPrs H' Z ws b = H' b := fun b hb => by unfold zPrs; rw [if_pos hb]
  have zout : ∀ b, V.ref b ∉ ws → zPrs H' Z ws b = Z b := fun b hb => by unfold zPrs; rw [if_neg hb]
  have sZ : Same Z (zPrs H' Z ws) := fun b o e => by
    have hb := R.sub b o e
    rw [zout b (nin b (by rw [hb]; exact fun z => by cases z))]
    exact e
  have zSn : zPrs H' Z ws S = none := by
    rw [zout S fun hm => ?_]
    · exact zS
    · obtain ⟨_, x, y, e⟩ := tup S hm
      rw [hS'] at e
      cases e
  have R' : Rel K J F σ H' (zPrs H' Z ws) r := by
    refine ⟨fun b o e => ?_, fun b o e n => sm _ _ (R.frame b o e n), J.stable _ H _ R.jar fun b hb => ?_, fun b hb => ?_, R.len, fun i d e => ?_, fun i ds e => ?_, R.sep, fun a xs e => ?_, fun a o e => ?_, fun b hb => ?_, R.gf, R.al⟩
    · by_cases q : V.ref b ∈ ws
      · rw [zin b q] at e; exact e
      · rw [zout b q] at e; exact sm _ _ (R.sub b o e)
    · cases q : H b with
      | none => exact absurd q (J.there _ H b R.jar hb)
      | some o => exact sm _ _ q
    · rw [zout b (nin b (J.there _ H b R.jar hb))]
      exact R.jz b hb
    · obtain ⟨v, e1, e2⟩ := R.fz i d e
      exact ⟨v, e1, e2.mono sZ⟩
    · obtain ⟨a, vs, e1, e2, e3, e4, e5, e6⟩ := R.ow i ds e
      refine ⟨a, vs, e1, sm _ _ e2, e3, e4.mono sZ, ?_, e6⟩
      rw [zout a (nin a (by rw [e2]; exact fun z => by cases z))]
      exact e5
    · by_cases q : V.ref a ∈ ws
      · rw [zin a q] at e
        obtain ⟨_, x, y, e'⟩ := tup a q
        rw [e'] at e
        rcases e with e | e <;> cases e
        show 2 ≤ sizeLine
        decide
      · rw [zout a q] at e; exact R.zs a xs e
    · by_cases q : V.ref a ∈ ws
      · rw [zin a q] at e
        obtain ⟨_, x, y, e'⟩ := tup a q
        rw [e'] at e
        cases e
        exact .inr (.inl ⟨_, rfl⟩)
      · rw [zout a q] at e; exact R.zo a o e
    · by_cases q : V.ref b ∈ ws
      · exfalso
        have hb0 := (tup b q).1
        have nj : ¬ J.A b := fun h => J.there _ H b R.jar h hb0
        cases e : F.o b with
        | none => exact R.gf b hb e
        | some o => rw [R.frame b o e nj] at hb0; cases hb0
      · rw [zout b q]; exact R.ng b hb
  refine ⟨sZ, R', S, ws, rfl, hS', hl, ?_, zSn, fS, nS, oS⟩
  have lz : (zipD ds es).length = ws.length := by
    unfold zipD
    rw [List.length_zipWith, ← lx.length, ← ly.length, hn]
  have at_ : ∀ (j : Nat) (v : V) (d : D), ws[j]? = some v → (zipD ds es)[j]? = some d → Rep K J (zPrs H' Z ws) v d := fun j v d hj hd => by
    obtain ⟨T, x, y, rfl, e2, e3, e4, _⟩ := hp j v hj
    unfold zipD at hd
    rw [List.getElem?_zipWith] at hd
    obtain ⟨dx, q1, q2⟩ := lx.getV e3
    obtain ⟨dy, q3, q4⟩ := ly.getV e4
    rw [q1, q3] at hd
    cases hd
    exact .tup (.inl (.inl (by rw [zin T (List.mem_of_getElem? hj)]; exact e2))) (.cons (q2.mono sZ) (.cons (q4.mono sZ) .nil))
  have build : ∀ (vs : List V) (qs : List D), qs.length = vs.length → (∀ (j : Nat) (v : V) (d : D), vs[j]? = some v → qs[j]? = some d → Rep K J (zPrs H' Z ws) v d) → RepL K J (zPrs H' Z ws) vs qs := by
    intro vs
    induction vs with
    | nil => intro qs e _; cases qs with | nil => exact .nil | cons _ _ => cases e
    | cons v vs ih =>
      intro qs e h
      cases qs with
      | nil => cases e
      | cons d qs => exact .cons (h 0 v d rfl rfl) (ih qs (by simpa using e) fun j v d a b => h (j + 1) v d (by simpa using a) (by simpa using b))
  exact build ws _ lz at_
end
section
variable {cf : Cfg} {J : Jar} {XR : XRT} {C : Calls} {lv : Nat} {X : Cx} {S : Sc} {W : WX} (G : Good cf J XR C lv X S) (hC : CMono C)
include G hC
theorem s_dct0 {pos : Pos} : PE X (.Dict [] [] pos) (lE X.K J XR C W .dct0) := by
  refine pe_dnewK.imp fun pins s σ H Q I ⟨F, Z, r, Y, R, hx, h⟩ => ?_
  unfold exW at h
  intro p hp
  obtain ⟨s1, R1⟩ := R.lay (o := .dK []) hp (fun xs e => by rcases e with e | e <;> cases e) (.inr (.inr rfl))
  exact h _ _ _ s1 R1 (.dct upd_same)
theorem s_lwz {a b : Ex} {ea eb : Expr} {p p2 pos pos2 : Pos} (hl : glB S "list" = true) (hfl : cf.free.contains "list" = true) (hg : glB S "zip" = true) (hf : cf.free.contains "zip" = true) (ns : notStar ea = true) (ns2 : notStar eb = true) (ha : PE X ea (lE X.K J XR C W a)) (hb : PE X eb (lE X.K J XR C W b)) :
    PE X (.Call (.Name "list" p) [.Call (.Name "zip" p2) [ea, eb] [] pos2] [] pos) (lE X.K J XR C W (.lw (.zip a b))) := by
  refine (pe_lz G.calm (G.gl hl) (G.facts.free _ hfl) (G.gl hg) (G.facts.free _ hf) (pa_cons ha (pa_cons hb pa_nil (star_of ns2)) (star_of ns)) (by rw [star_of ns]) (back_any (star_any (by simp [ns2])))).imp fun pins s σ H Q I ⟨F, Z, r, Y, R, hx, h⟩ => ?_
  unfold exW itW at h
  refine use_E hC R hx h fun x r1 h1 v H1 Z1 s1 R1 p1 => ?_
  obtain ⟨d, r2, Z2, s2, R2, hd, h2⟩ := R1.frz p1 h1
  refine use_E hC R2 ((hx.mono s1).mono s2) h2 fun y r3 h3 u H3 Z3 s3 R3 p3 => ?_
  obtain ⟨e, r4, Z4, s4, R4, he, h4⟩ := R3.frz p3 h3
  have hd' := hd.mono (s3.trans s4)
  have sA : Same Z Z4 := ((s1.trans s2).trans s3).trans s4
  split at h4
  · split at h4
    · obtain ⟨a, xs, rfl, e1, e2, l, e3⟩ := rep_lstD hC R4 hd'
      obtain ⟨b, ys, rfl, f1, f2, m, f3⟩ := rep_lstD hC R4 he
      refine ⟨a, b, xs, ys, rfl, .inl ⟨e1, f1⟩, fun S H' ws g1 g2 g3 g4 g5 g6 => ?_⟩
      obtain ⟨q1, q2, q3⟩ := R4.lz g1 g2 g4 g3 g5 g6 l m
      exact h4.2 _ H' _ (sA.trans q1) q2 q3
    · exact h4.elim
  · split at h4
    · obtain ⟨a, xs, rfl, e1, e2, l⟩ := repr_tupD hC R4 hd'
      obtain ⟨b, ys, rfl, f1, f2, m⟩ := repr_tupD hC R4 he
      refine ⟨a, b, xs, ys, rfl, .inr ⟨e1, f1⟩, fun S H' ws g1 g2 g3 g4 g5 g6 => ?_⟩
      obtain ⟨q1, q2, q3⟩ := R4.lz g1 g2 g4 g3 g5 g6 l m
      exact h4.2 _ H' _ (sA.trans q1) q2 q3
    · exact h4.elim
  · exact h4.elim
theorem rg_rep {K : PySem.W.Frag} {Z : Hp} (a b : Int) : RepL K J Z (rgV a b) (rangeD a (b - a).toNat) := by
  have : ∀ l : List Nat, RepL K J Z (l.map fun (i : Nat) => V.int (a + (i : Nat))) (l.map fun (i : Nat) => .int (a + (i : Int))) := fun l => by
    induction l with
    | nil => exact .nil
    | cons x l ih => exact .cons (.int _) ih
  exact this _
theorem s_lwr1 {a : Ex} {ea : Expr} {p p2 pos pos2 : Pos} (hl : glB S "list" = true) (hfl : cf.free.contains "list" = true) (hg : glB S "range" = true) (hf : cf.free.contains "range" = true) (ns : notStar ea = true) (ha : PE X ea (lE X.K J XR C W a)) :
    PE X (.Call (.Name "list" p) [.Call (.Name "range" p2) [ea] [] pos2] [] pos) (lE X.K J XR C W (.lw (.r1 a))) := by
  refine (pe_listRg G.calm (G.gl hl) (G.facts.free _ hfl) (prg_1 (G.gl hg) (G.facts.free _ hf) ha (star1 hC ns)) rfl).imp fun pins s σ H Q I ⟨F, Z, r, Y, R, hx, h⟩ => ?_
  unfold exW itW at h
  refine use_pin hC R hx h fun x r1 h1 v H1 Z1 s1 R1 p1 => ?_
  obtain ⟨d, hd, h2⟩ := R1.der p1 h1
  split at h2
  · rename_i j
    cases rep_int hd
    obtain ⟨b1, _, h2⟩ := h2
    refine ⟨j, rfl, ⟨by omega, by omega, by omega, by have := b1.2; unfold SZ at this; omega, by have := b1.2; unfold SZ at this; omega⟩, fun q hq => ?_⟩
    obtain ⟨zS, fS, nS, oS⟩ := R1.fresh hq
    have R2 := R1.grow (o := .lst (rgV 0 j)) hq
    have e0 : rangeD 0 j.toNat = rangeD 0 (j - 0).toNat := by rw [Int.sub_zero]
    rw [e0] at h2
    exact h2 _ _ Z1 s1 R2 ⟨q, _, rfl, upd_same, by rw [rgV_length, szl]; have := b1.2; unfold SZ at this; omega, rg_rep G hC 0 j, zS, fS, nS, oS⟩
  · exact h2.elim
theorem s_lwr2 {a b : Ex} {ea eb : Expr} {p p2 pos pos2 : Pos} (hl : glB S "list" = true) (hfl : cf.free.contains "list" = true) (hg : glB S "range" = true) (hf : cf.free.contains "range" = true) (ns : notStar ea = true) (ns2 : notStar eb = true) (ha : PE X ea (lE X.K J XR C W a)) (hb : PE X eb (lE X.K J XR C W b)) :
    PE X (.Call (.Name "list" p) [.Call (.Name "range" p2) [ea, eb] [] pos2] [] pos) (lE X.K J XR C W (.lw (.r2 a b))) := by
  refine (pe_listRg G.calm (G.gl hl) (G.facts.free _ hfl) (prg_2 (G.gl hg) (G.facts.free _ hf) ha hb (by rw [star_of ns]) (by rw [star_of ns2]) (back_any (star_any (by simp [ns2])))) rfl).imp fun pins s σ H Q I ⟨F, Z, r, Y, R, hx, h⟩ => ?_
  unfold exW itW at h
  refine use_pin hC R hx h fun x r1 h1 v H1 Z1 s1 R1 p1 => ?_
  refine use_pin hC R1 (hx.mono s1) h1 fun y r2 h2 u H2 Z2 s2 R2 p2 => ?_
  obtain ⟨d, hd, h3⟩ := R2.der (p1.mono s2) h2
  obtain ⟨e, he, h3⟩ := R2.der p2 h3
  split at h3
  · split at h3
    · cases rep_int hd
      cases rep_int he
      obtain ⟨b1, _, h3⟩ := h3
      have b5 := b1.2.2.2.2
      unfold SZ at b5
      refine ⟨_, _, rfl, rfl, ⟨b1.1, b1.2.1, b1.2.2.1, b1.2.2.2.1, by omega⟩, fun q hq => ?_⟩
      obtain ⟨zS, fS, nS, oS⟩ := R2.fresh hq
      exact h3 _ _ Z2 (s1.trans s2) (R2.grow hq) ⟨q, _, rfl, upd_same, by rw [rgV_length, szl]; omega, rg_rep G hC _ _, zS, fS, nS, oS⟩
    · exact h3.elim
  · exact h3.elim
end
end G

set_option linter.all false
set_option maxRecDepth 100000
set_option Elab.async false
/-! Kc: calls with keywords. -/
namespace G
open PySem PySem.Spec PyProof.Rows L2
theorem _root_.L2.PK.imp {X : Cx} {e : List Keyword} {t t' : TA} (h : PK X e t) (hi : ∀ pins s σ H Q, Inv X pins σ H s → t' σ H Q → t σ H Q) : PK X e t' := ⟨fun p pins s σ H Q I q => h.run p pins s σ H Q I (hi pins s σ H Q I q)⟩
theorem kw_all {X : Cx} {pos : Pos} : ∀ {kws : List Keyword}, (kws.filterMap (·.arg)).length = kws.length → (backToKw pos (keywordEach kws X.env)).all (·.1.isSome) = true ∧ (backToKw pos (keywordEach kws X.env)).filterMap (·.1) = kws.filterMap (·.arg) ∧ (backToKw pos (keywordEach kws X.env)).any (·.1.isNone) = false
  | [], _ => ⟨rfl, rfl, rfl⟩
  | ⟨none, v, p⟩ :: r, h => by
    have h' : (r.filterMap (·.arg)).length = r.length + 1 := h
    have := List.length_filterMap_le (·.arg) r
    omega
  | ⟨some x, v, p⟩ :: r, h => by
    obtain ⟨h1, h2, h3⟩ := kw_all (X := X) (pos := pos) (kws := r) (by simpa using h)
    have e : backToKw pos (keywordEach (⟨some x, v, p⟩ :: r) X.env) = (some x, do let u ← eval v X.env; standAt pos; pure u) :: backToKw pos (keywordEach r X.env) := rfl
    rw [e]
    refine ⟨by rw [List.all_cons, h1]; rfl, ?_, by rw [List.any_cons, h3]; rfl⟩
    show x :: List.filterMap (·.1) (backToKw pos (keywordEach r X.env)) = x :: r.filterMap (·.arg)
    rw [h2]
theorem vals_getD : ∀ {vs : List V} {us : List Value} (p : Nat), Vals vs us → RelV (vs.getD p .non) (us.getD p .none)
  | _, _, p, .nil => by simp; exact rfl
  | _, _, 0, .cons h _ => h
  | _, _, p + 1, .cons _ t => by simpa using vals_getD p t
theorem vals_perm {vs : List V} {us : List Value} (h : Vals vs us) : ∀ l : List Nat, Vals (l.map fun p => vs.getD p .non) (l.map fun p => us.getD p .none)
  | [] => .nil
  | p :: l => .cons (vals_getD p h) (vals_perm h l)
theorem rep_getD {K : PySem.W.Frag} {J : Jar} {Z : Hp} : ∀ {vs : List V} {ds : List D} (p : Nat), RepL K J Z vs ds → Rep K J Z (vs.getD p .non) (ds.getD p .none)
  | _, _, p, .nil => by simp; exact .non
  | _, _, 0, .cons h _ => h
  | _, _, p + 1, .cons _ t => by simpa using rep_getD p t
theorem rep_perm {K : PySem.W.Frag} {J : Jar} {Z : Hp} {vs : List V} {ds : List D} (h : RepL K J Z vs ds) : ∀ l : List Nat, RepL K J Z (l.map fun p => vs.getD p .non) (l.map fun p => ds.getD p .none)
  | [] => .nil
  | p :: l => .cons (rep_getD p h) (rep_perm h l)
section
variable {cf : Cfg} {J : Jar} {XR : XRT} {C : Calls} {lv : Nat} {X : Cx} {S : Sc} {W : WX} (G : Good cf J XR C lv X S) (hC : CMono C)
theorem run_GK {pins : List (Addr × Obj)} {σ : L2.St} {H : Hp} {s : Shared} {Q : VK} {us ws : List Value} {vs zs : List V} {f : Nat} {a : Addr} {fd : FuncData} {ps ks : List Str}
    (F : FnG X.prog X.w X.K X.mg X.base J XR C lv f a fd ps) (pl : Plain fd ps) (hr : Room lv X.A) (gd : X.A.guards = some []) (tk : Takes X W) (I : Inv X pins σ H s) (r : Vals vs us) (rz : Vals zs ws) (hk : kOk ps us.length ks = true) (hw : ws.length = ks.length)
    (h : spOf X.K J XR C f ((kperm ps us.length ks).map fun p => (vs ++ zs).getD p .non) H Q (WE W σ)) : wpAny (model X.prog X.w) X.A (call (.ref a) us (ks.zip ws)) (EP X pins σ Q) X.xe s := by
  have kl : (kperm ps us.length ks).length = ps.length := by unfold kperm; simp
  refine wpAny_call (codeAny_mono (F.run X.A X.stack s H ⟨us, ks.zip ws⟩ ((kperm ps us.length ks).map fun p => (us ++ ws).getD p .none) _ Q (WE W σ) hr gd I.env0 (.of_eq (kbind pl hk hw)) (vals_perm (r.append rz) _) (by rw [List.length_map, kl]) h) fun z s' hq => ?_)
  cases z with
  | error e => exact passAt tk σ pins H s e s' I hq
  | ok fl =>
    cases fl with
    | ret u => exact I.after hq
    | next => exact hq.elim
    | brk => exact hq.elim
    | cont => exact hq.elim
include hC
theorem k_nil : PK X [] (lEs X.K J XR C W .nil) := by
  refine pk_nil.imp fun pins s σ H Q I ⟨F, Z, r, Y, R, hx, h⟩ => ?_
  unfold exsW at h
  exact h [] H Z (.refl _) R .nil
theorem k_cons {a : Ex} {as : Exs} {e : Expr} {n : Option Str} {kp : Pos} {es : List Keyword} (ha : PE X e (lE X.K J XR C W a)) (hr : PK X es (lEs X.K J XR C W as)) : PK X (⟨n, e, kp⟩ :: es) (lEs X.K J XR C W (.cons a as)) := by
  refine (pk_cons ha hr).imp fun pins s σ H Q I ⟨F, Z, r, Y, R, hx, h⟩ => ?_
  unfold exsW at h
  refine use_E hC R hx h fun x r1 h1 v H1 Z1 s1 R1 p1 => ?_
  obtain ⟨d, r2, Z2, s2, R2, hd, h2⟩ := R1.frz p1 h1
  refine use_Es hC R2 ((hx.mono s1).mono s2) h2 fun ds r3 h3 vs H3 Z3 s3 R3 hds => ?_
  exact h3 _ H3 Z3 ((s1.trans s2).trans s3) R3 (.cons (hd.mono s3) hds)
include G
theorem s_callk {f : Nat} {as ks : Exs} {qs : List Nat} {x : Str} {es : List Expr} {k : Keyword} {kws : List Keyword} {p pos : Pos} {fp : Str × List Str} (tk : Takes X W) (hf : cf.fns[f]? = some fp) (hx : fp.1 = x) (h0 : cf.dfl.getD f [] = []) (hk : kOk fp.2 (exsLen as) ((k :: kws).filterMap (·.arg)) = true)
    (hq : qs = kperm fp.2 (exsLen as) ((k :: kws).filterMap (·.arg))) (hn : ((k :: kws).filterMap (·.arg)).length = (k :: kws).length) (hkl : exsLen ks = (k :: kws).length) (hg : glB S x = true) (ok : okName x = true)
    (hss : es.all notStar = true) (hel : exsLen as = es.length) (ha : PA X es (lEs X.K J XR C W as)) (hb : PK X (k :: kws) (lEs X.K J XR C W ks)) : PE X (.Call (.Name x p) es (k :: kws) pos) (lE X.K J XR C W (.callk f as ks qs)) := by
  obtain ⟨a, fd, mg, kp, _, F, pl, _⟩ := (G.fns f fp hf).ex
  have pl := pl h0
  subst hx hq
  obtain ⟨w1, w2, w3⟩ := kw_all (X := X) (pos := pos) hn
  refine ⟨fun pins s σ H Q I ⟨F0, Z, r, Y, R, hx, h⟩ => ?_⟩
  unfold exW at h
  have l : lEs X.K J XR C W as σ H fun vs H1 => vs.length = exsLen as ∧ lEs X.K J XR C W ks σ H1 fun zs H2 => zs.length = (k :: kws).length ∧ spOf X.K J XR C f ((kperm fp.2 (exsLen as) ((k :: kws).filterMap (·.arg))).map fun p => (vs ++ zs).getD p .non) H2 Q (WE W σ) := by
    refine use_Es hC R hx (exsW_len hC h) fun ds r3 h3 vs H3 Z3 s3 R3 hds => ?_
    obtain ⟨h4, h3⟩ := h3
    refine ⟨by rw [hds.length, h4], use_Es hC R3 (hx.mono s3) (exsW_len hC h3) fun es r5 h5 zs H5 Z5 s5 R5 hes => ?_⟩
    obtain ⟨h6, h5⟩ := h5
    refine ⟨by rw [hes.length, h6, hkl], Z5, _, r5.g, R5.inn, rep_perm ((hds.mono s5).append hes) _, hC f _ _ _ _ _ _ (fun d g' hd v H' Z' o rv => ?_) (fun e g' he cls dd H' Z' o xr => ?_) h5⟩
    · exact hd v H' Z' ((s3.trans s5).trans o.same) (R5.out o) rv
    · exact hx e (r5.at g') he H' Z' cls dd ((s3.trans s5).trans o.same) (R5.out o) xr
  have fin : ∀ (us : List Value) (s1 : Shared), AP X pins σ (fun vs H1 => vs.length = exsLen as ∧ lEs X.K J XR C W ks σ H1 fun zs H2 => zs.length = (k :: kws).length ∧ spOf X.K J XR C f ((kperm fp.2 (exsLen as) ((k :: kws).filterMap (·.arg))).map fun p => (vs ++ zs).getD p .non) H2 Q (WE W σ)) us s1 →
      wpAny (model X.prog X.w) X.A (evalAll ((backToKw pos (keywordEach (k :: kws) X.env)).map (·.2))) (fun ws s2 => X.K.In s2.heap ∧ wpAny (model X.prog X.w) X.A (call (.ref a) ([] ++ us) (((backToKw pos (keywordEach (k :: kws) X.env)).filterMap (·.1)).zip ws)) (EP X pins σ Q) X.xe s2) X.xe s1 := by
    rintro us s1 ⟨vs, H1, I1, rv, e1, q⟩
    refine thn (hb.run pos pins s1 σ H1 _ I1 q) fun ws s2 ⟨zs, H2, I2, rz, e2, q2⟩ => ⟨I2.kIn, ?_⟩
    rw [w2, List.nil_append]
    have ul : us.length = exsLen as := by rw [← rv.length, e1]
    refine run_GK F pl G.room G.gd tk I2 rv rz (by rw [ul]; exact hk) (by rw [← rz.length, e2, hn]) (by rw [ul]; exact q2)
  refine wpAny_Call_Name_kw (ld_glob I (G.gl hg) mg ?_ (okName_of G ok).1)
  cases es with
  | nil =>
    have l0 := ha.run pos pins s σ H _ I l
    refine PySem.W.callWith_KW0 (h₀ := X.base) I.ok.mod.kin kp w1 ?_ (by rw [w3]; rfl)
    cases as with
    | nil =>
      unfold lEs at l
      obtain ⟨F1, Z1, r1, Y1, R1, hx1, h1⟩ := l
      unfold exsW at h1
      exact fin [] s ⟨[], H, I, .nil, h1 [] H Z1 (.refl _) R1 .nil⟩
    | cons b bs => cases hel
  | cons e es =>
    have hs := hss
    rw [List.all_cons, Bool.and_eq_true] at hs
    refine PySem.W.callWith_KW (h₀ := X.base) I.ok.mod.kin kp w1 (thn (ha.run pos pins s σ H _ I l) fun us s1 hh => fin us s1 hh) ?_ (star_of hs.1)
    rw [w3, Bool.or_false]
    exact back_any (star_any hss)
end
end G

set_option linter.all false
set_option maxRecDepth 100000
set_option Elab.async false
/-! Kj: the law's random state, read and changed. -/
namespace G
open PySem PySem.Spec PyProof.Rows L2
theorem shaped_ints : ∀ ns : List Int, shaped (.list (ns.map .int)) := fun ns => by
  have h1 : PyData.canLayAll0 (ns.map .int) = true := by
    induction ns with
    | nil => rfl
    | cons n ns ih => simp only [List.map_cons, PyData.canLayAll0, ih, PyData.canLay0, Bool.and_self]
  have h2 : PyData.depth (.list (ns.map .int)) ≤ 64 := by
    have : ∀ ns : List Int, PyData.depthAll (ns.map .int) ≤ 1 := fun ns => by
      induction ns with
      | nil => simp [PyData.depthAll]
      | cons n ns ih => simp [PyData.depthAll, PyData.depth] at ih ⊢ <;> omega
    have := this ns
    simp only [PyData.depth]
    omega
  show SeqAt.shaped _ = true
  unfold SeqAt.shaped
  rw [Bool.and_eq_true]
  exact ⟨by simpa [PyData.canLay0] using h1, decide_eq_true h2⟩
theorem jar_rep {K : PySem.W.Frag} {J : Jar} {Z : Hp} {v : V} {d : D} (h : Rep K J Z v d) (hj : isJar (.fz d) = true) : ∃ a, J.at_ = some a ∧ v = .ref a := by
  unfold isJar at hj
  split at hj
  · rename_i e
    cases e
    cases h with
    | jar h => exact ⟨_, h, rfl⟩
  · cases hj
theorem isJar_fz {s : Slot} (h : isJar s = true) : ∃ d, s = .fz d := by cases s <;> first | exact ⟨_, rfl⟩ | cases h
section
variable {K : PySem.W.Frag} {J : Jar} {F : Fm} {σ : L2.St} {H H' Z : Hp} {r : En}
theorem Rel.jarAt (R : Rel K J F σ H Z r) {i : Nat} (h : isJar (rd r i) = true) : ∃ a, J.at_ = some a ∧ σ[i]? = some (some (.ref a)) := by
  obtain ⟨d, e⟩ := isJar_fz h
  obtain ⟨v, h1, h2⟩ := R.fz i d e
  rw [e] at h
  obtain ⟨a, h3, rfl⟩ := jar_rep h2 h
  exact ⟨a, h3, h1⟩
/-- the random state is changed -/
theorem Rel.jput (R : Rel K J F σ H Z r) {g : Gh} (hH : ∀ b, ¬ J.A b → H' b = H b) (hp : J.P g H') : Rel K J F σ H' Z (r.at g) := by
  refine ⟨fun b o e => ?_, fun b o e n => ?_, hp, R.jz, R.len, R.fz, fun i ds e => ?_, R.sep, R.zs, R.zo, R.ng, R.gf, R.al⟩
  · by_cases j : J.A b
    · rw [R.jz b j] at e; cases e
    · rw [hH b j]; exact R.sub b o e
  · rw [hH b n]; exact R.frame b o e n
  · obtain ⟨a, vs, e1, e2, e3, e4, e5, e6, e7⟩ := R.ow i ds e
    exact ⟨a, vs, e1, by rw [hH a e7]; exact e2, e3, e4, e5, e6, e7⟩
theorem rd_at {r : En} {g : Gh} {i : Nat} : rd (r.at g) i = rd r i := rfl
theorem upd_off {A : Addr → Prop} {a : Addr} {o : HO} (h : A a) : ∀ b, ¬ A b → upd H a o b = H b := fun b n => upd_ne (fun e => n (e ▸ h))
end
theorem key_of {k : Sum Int Str} {c : Expr} (h : chkKey k c = true) : (∃ x n p, k = .inr x ∧ c = .Constant (.str x) n p) ∨ ∃ i n p, k = .inl i ∧ c = .Constant (.int i) n p := by
  unfold chkKey at h
  split at h
  · cases of_decide_eq_true h; exact .inl ⟨_, _, _, rfl, rfl⟩
  · cases of_decide_eq_true h; exact .inr ⟨_, _, _, rfl, rfl⟩
  · cases h
section
variable {cf : Cfg} {J : Jar} {XR : XRT} {C : Calls} {lv : Nat} {X : Cx} {S : Sc} {W : WX} (G : Good cf J XR C lv X S) (hC : CMono C)
include G
/-- x[k], what stands there -/
def lFld (K : PySem.W.Frag) (J : Jar) (i : Nat) (k : Sum Int Str) : TE := fun σ H Q => ∃ F Z r d, Rel K J F σ H Z r ∧ isJar (rd r i) = true ∧ gget r.g k = some d ∧
  ∀ v, ((∃ n, d = .int n ∧ v = .int n) ∨ ∃ (ns : List Int) (l : Addr), d = .list (ns.map .int) ∧ v = .ref l ∧ J.L k = some l ∧ J.A l ∧ H l = some (.lst (ns.map V.int)) ∧ ns.length ≤ sizeLine) → Q v H
theorem j_fld {i : Nat} {k : Sum Int Str} {x : Str} {c : Expr} {p pos : Pos} (h1 : X.N[i]? = some x) (h2 : visB S x = true) (h3 : okName x = true) (hk : chkKey k c = true) (hj : cf.jk = some (isStrK k)) : PE X (.Subscript (.Name x p) c pos) (lFld X.K J i k) := by
  obtain ⟨d1, d2⟩ := okName_of G h3
  obtain ⟨a, jf⟩ := G.jf _ hj
  have hu : X.A.units + 1 < cLine := by have := G.room.un; omega
  rcases key_of hk with ⟨y, n, q, rfl, rfl⟩ | ⟨y, n, q, rfl, rfl⟩
  · refine (pe_dget hu (pe_var h1 (G.vis h2) d1 d2) pe_str (by intro _ _; rfl)).imp fun pins s σ H Q I ⟨F, Z, r, d, R, e1, e2, h⟩ => ?_
    obtain ⟨a', g1, g2⟩ := R.jarAt e1
    rw [jf.at_] at g1
    cases g1
    obtain ⟨v, g3, g4⟩ := jf.get _ _ _ _ R.jar e2
    have g3' : ∃ kvs x, (Sum.inr y : Sum Int Str) = .inr x ∧ H a = some (.dK kvs) ∧ valV kvs (.inr y) = some v := g3
    obtain ⟨kvs, _, _, g5, g6⟩ := g3'
    refine ⟨_, g2, a, v, rfl, ?_, h v g4⟩
    rw [← g6]
    exact DGet.k (k := Sum.inr y) g5
  · refine (pe_ix ix_list (pe_var h1 (G.vis h2) d1 d2) pe_int (by intro _ _; rfl)).imp fun pins s σ H Q I ⟨F, Z, r, d, R, e1, e2, h⟩ => ?_
    obtain ⟨a', g1, g2⟩ := R.jarAt e1
    rw [jf.at_] at g1
    cases g1
    obtain ⟨v, g3, g4⟩ := jf.get _ _ _ _ R.jar e2
    have g3' : ∃ vs i, (Sum.inl y : Sum Int Str) = .inl i ∧ H a = some (.lst vs) ∧ atI vs i = some v := g3
    obtain ⟨vs, i, e, g5, g6⟩ := g3'
    cases e
    exact ⟨_, g2, a, vs, y, v, rfl, rfl, .of g5, g6, h v g4⟩
/-- a list of the random state -/
def lSrc (K : PySem.W.Frag) (J : Jar) (s : Src) : TE := fun σ H Q => ∃ F Z r k ds, Rel K J F σ H Z r ∧ srcK r s = some k ∧ gget r.g k = some (.list ds) ∧
  ∀ (ns : List Int) (l : Addr), ds = ns.map .int → J.L k = some l → J.A l → H l = some (.lst (ns.map V.int)) → ns.length ≤ sizeLine → Q (.ref l) H
theorem j_src {s : Src} {e : Expr} (h : chkSrc cf X.N S s e = true) : PE X e (lSrc X.K J s) := by
  unfold chkSrc at h
  split at h
  · obtain ⟨h1, g1⟩ := and2 h
    obtain ⟨h2, g2⟩ := and2 g1
    obtain ⟨h3, g3⟩ := and2 g2
    obtain ⟨h4, h5⟩ := and2 g3
    refine (j_fld (J := J) G (of_decide_eq_true h1) h2 h3 h4 (of_decide_eq_true h5)).imp fun pins s σ H Q I ⟨F, Z, r, k, ds, R, e1, e2, q⟩ => ?_
    unfold srcK at e1
    dsimp only at e1
    split at e1
    · rename_i ej
      cases e1
      refine ⟨F, Z, r, _, R, ej, e2, fun v hv => ?_⟩
      rcases hv with ⟨n, z, _⟩ | ⟨ns, l, z, rfl, f1, f2, f3, f4⟩
      · cases z
      · cases z
        exact q ns l rfl f1 f2 f3 f4
    · cases e1
  · obtain ⟨h1, g1⟩ := and2 h
    obtain ⟨h2, g2⟩ := and2 g1
    obtain ⟨h3, h4⟩ := and2 g2
    obtain ⟨d1, d2⟩ := okName_of G h3
    obtain ⟨dk, hdk⟩ := Option.isSome_iff_exists.mp h4
    obtain ⟨a, jf⟩ := G.jf dk hdk
    refine (pe_var (of_decide_eq_true h1) (G.vis h2) d1 d2).imp fun pins s σ H Q I ⟨F, Z, r, k, ds, R, e1, e2, q⟩ => ?_
    unfold srcK at e1
    dsimp only at e1
    split at e1
    · rename_i k2 ea
      cases e1
      obtain ⟨l, f1, f2, f3⟩ := R.al _ _ ea
      obtain ⟨v, _, hv⟩ := jf.get _ _ _ _ R.jar e2
      rcases hv with ⟨n, z, _⟩ | ⟨ns, l2, z, rfl, y1, y2, y3, y4⟩
      · cases z
      · cases z
        rw [f1] at y1
        cases y1
        exact ⟨_, f3, q ns l rfl f1 f2 y3 y4⟩
    · cases e1
  · cases h
theorem src_base {s : Src} {e : Expr} {m : Str} (h : chkSrc cf X.N S s e = true) : attributeBase e m X.env (eval e X.env) = eval e X.env := by
  unfold chkSrc at h
  split at h <;> first | rfl | cases h
theorem j_jg {i : Nat} {k : Sum Int Str} {x : Str} {c : Expr} {p pos : Pos} (h1 : X.N[i]? = some x) (h2 : visB S x = true) (h3 : okName x = true) (hk : chkKey k c = true) (hj : cf.jk = some (isStrK k)) : PE X (.Subscript (.Name x p) c pos) (lE X.K J XR C W (.jg i k)) := by
  refine (j_fld (J := J) G h1 h2 h3 hk hj).imp fun pins s σ H Q I ⟨F, Z, r, Y, R, hx, q⟩ => ?_
  unfold exW at q
  obtain ⟨e1, q⟩ := q
  split at q
  · rename_i n e2
    refine ⟨F, Z, r, _, R, e1, e2, fun v hv => ?_⟩
    rcases hv with ⟨n, z, rfl⟩ | ⟨ns, l, z, _⟩
    · cases z
      exact q _ H Z (.refl _) R (.int _)
    · cases z
  · exact q.elim
theorem map_int {ns : List Int} {n : Int} {ds : List D} (h : ns.map (PyData.int) = .int n :: ds) : ∃ ms, ns = n :: ms ∧ ds = ms.map .int := by
  cases ns with
  | nil => cases h
  | cons m ms => cases h; exact ⟨ms, rfl, rfl⟩
include hC
theorem j_jn {s : Src} {e : Expr} {p pos : Pos} (h : chkSrc cf X.N S s e = true) : PE X (.Compare e [.NotEq] [.List [] p] pos) (lE X.K J XR C W (.jn s)) ∧ PT X (.Compare e [.NotEq] [.List [] p] pos) (lT X.K J XR C W (.e (.jn s))) := by
  have core : ∀ {F : Fm} {Z : Hp} {r : En} {σ : L2.St} {H : Hp} {Q : VK} {k : Sum Int Str} {ds : List D}, Rel X.K J F σ H Z r → srcK r s = some k → gget r.g k = some (.list ds) → (∀ H' , Rel X.K J F σ H' Z r → Q (.bl (!ds.isEmpty)) H') →
      lSrc X.K J s σ H fun x H1 => tLst tNil σ H1 fun y H2 => rCmp X.K J .ne x y H2 Q := by
    intro F Z r σ H Q k ds R e1 e2 q
    refine ⟨F, Z, r, k, ds, R, e1, e2, fun ns l hd f1 f2 f3 f4 => ?_⟩
    subst hd
    refine ⟨Nat.zero_le _, fun o ho => ?_⟩
    have nl : l ≠ o := by rintro rfl; rw [f3] at ho; cases ho
    have R1 := R.grow (o := .lst []) ho
    refine ⟨Z, .list (ns.map .int), .list [], R1.sub, ⟨l, _, rfl, by rw [upd_ne nl]; exact f3, by rw [List.length_map]; exact f4, RepL.ofInts ns⟩, ⟨o, [], rfl, upd_same, Nat.zero_le _, .nil⟩, ?_⟩
    unfold cmpW
    dsimp only
    unfold eqW
    dsimp only
    refine ⟨shaped_ints ns, shaped_ints [], ?_⟩
    have : (!PyData.eqv (.list (ns.map .int)) (.list [])) = !(ns.map (PyData.int)).isEmpty := by
      cases ns with
      | nil => rfl
      | cons n ns => simp [PyData.eqv, PyData.eqvAll]
    rw [this]
    exact q _ R1
  refine ⟨?_, ?_⟩
  · refine (pe_cmpR (cmp_all (J := J) (hu65 G hC) (o := .ne) rfl) (j_src (J := J) G h) (pe_lst pa_nil) rfl).imp fun pins s σ H Q I ⟨F, Z, r, Y, R, hx, q⟩ => ?_
    unfold exW at q
    split at q
    · split at q
      · exact core R (by assumption) (by assumption) fun H' R' => q _ H' Z (.refl _) R' (.bl _)
      · exact q.elim
    · exact q.elim
  · refine (pt_cmpR (cmp_all (J := J) (hu65 G hC) (o := .ne) rfl) (j_src (J := J) G h) (pe_lst pa_nil) rfl).imp fun pins s σ H Q I ⟨F, Z, r, Y, R, hx, q⟩ => ?_
    unfold tsW exW at q
    split at q
    · split at q
      · exact core R (by assumption) (by assumption) fun H' R' => ⟨_, rfl, q H' Z (.refl _) R'⟩
      · exact q.elim
    · exact q.elim
omit hC
theorem jp_last {s : Src} {e : Expr} {ap pos : Pos} (h : chkSrc cf X.N S s e = true) (hl : (ap.endLine == pos.line) = true) : PE X (.Call (.Attribute e "pop" ap) [] [] pos) (lE X.K J XR C W (.jp s false)) := by
  refine (pe_bm0 PySem.F.plainAttrs_list PySem.F.slot_list_pop PySem.F.type_list_pop mt_pop (j_src (J := J) G h) (src_base G h) hl).imp fun pins s2 σ H Q I ⟨F, Z, r, Y, R, hx, q⟩ => ?_
  unfold exW at q
  split at q
  · rename_i k e1
    split at q
    · rename_i ds e2
      rw [if_neg Bool.false_ne_true, if_neg Bool.false_ne_true] at q
      split at q
      · rename_i d e3
        refine ⟨F, Z, r, k, ds, R, e1, e2, fun ns l hd f1 f2 f3 f4 => ?_⟩
        subst hd
        rw [List.getLast?_map] at e3
        cases hn : ns.getLast? with
        | none => rw [hn] at e3; cases e3
        | some n =>
          rw [hn] at e3
          cases e3
          obtain ⟨dk, hdk⟩ : ∃ dk, cf.jk = some dk := by
            unfold chkSrc at h
            split at h
            · exact ⟨_, of_decide_eq_true (and2 (and2 (and2 (and2 h).2).2).2).2⟩
            · exact Option.isSome_iff_exists.mp (and2 (and2 (and2 h).2).2).2
            · cases h
          obtain ⟨a, jf⟩ := G.jf dk hdk
          have e7 : (ns.map V.int)[(ns.map V.int).length - 1]? = some (.int n) := by
            rw [← List.getLast?_eq_getElem?, List.getLast?_map, hn]
            rfl
          refine ⟨.inl ⟨rfl, _, .of f3⟩, l, _, _, rfl, rfl, f3, e7, ?_⟩
          have hp := jf.putL _ _ _ _ l ns.dropLast R.jar e2 f1 (by rw [List.length_dropLast]; omega)
          have ed : (ns.map (PyData.int)).dropLast = ns.dropLast.map .int := by rw [List.map_dropLast]
          have ev : (ns.map V.int).dropLast = ns.dropLast.map V.int := by rw [List.map_dropLast]
          rw [ed] at q
          rw [ev]
          exact q _ _ Z (.refl _) (R.jput (upd_off f2) hp) (.int _)
      · exact q.elim
    · exact q.elim
  · exact q.elim
theorem jp_first {s : Src} {e : Expr} {ap pos pk : Pos} {kk : Nat} (h : chkSrc cf X.N S s e = true) (hl : (ap.endLine == pos.line) = true) : PE X (.Call (.Attribute e "pop" ap) [.Constant (.int 0) kk pk] [] pos) (lE X.K J XR C W (.jp s true)) := by
  refine (pe_bm PySem.F.plainAttrs_list PySem.F.slot_list_pop PySem.F.type_list_pop mt_popAt (j_src (J := J) G h) (pa_cons pe_int pa_nil) (src_base G h) rfl hl).imp fun pins s2 σ H Q I ⟨F, Z, r, Y, R, hx, q⟩ => ?_
  unfold exW at q
  split at q
  · rename_i k e1
    split at q
    · rename_i ds e2
      rw [if_pos rfl, if_pos rfl] at q
      split at q
      · rename_i d e3
        refine ⟨F, Z, r, k, ds, R, e1, e2, fun ns l hd f1 f2 f3 f4 => ?_⟩
        subst hd
        obtain ⟨dk, hdk⟩ : ∃ dk, cf.jk = some dk := by
          unfold chkSrc at h
          split at h
          · exact ⟨_, of_decide_eq_true (and2 (and2 (and2 (and2 h).2).2).2).2⟩
          · exact Option.isSome_iff_exists.mp (and2 (and2 (and2 h).2).2).2
          · cases h
        obtain ⟨a, jf⟩ := G.jf dk hdk
        cases ns with
        | nil => cases e3
        | cons n ns =>
          cases e3
          refine ⟨.inl ⟨rfl, _, .of f3⟩, l, _, 0, 0, .int n, rfl, rfl, f3, by omega, by omega, by simp [seqIndex?], rfl, ?_⟩
          have hp := jf.putL _ _ _ _ l ns R.jar e2 f1 (by rw [List.length_cons] at f4; omega)
          exact q _ _ Z (.refl _) (R.jput (upd_off f2) hp) (.int _)
      · exact q.elim
    · exact q.elim
  · exact q.elim
theorem scr_at {r : En} {i : Nat} {ds : List D} {F : Fm} {σ : L2.St} {H Z : Hp} {a : Addr} (R : Rel X.K J F σ H Z r) (sf : SFacts X.K J a) (e : rd r i = .fz (.dict [(.none, .list ds)])) :
    ∃ ns : List Int, ds = ns.map .int ∧ σ[i]? = some (some (.ref a)) ∧ SqL X.K H a (ns.map V.int) ∧ ns.length ≤ sizeLine := by
  obtain ⟨v, g2, hr⟩ := R.fz i _ e
  obtain ⟨ns, h1, h2, h3⟩ := sf.ex
  cases hr with
  | scr h =>
    rw [h1] at h
    cases h
    exact ⟨_, rfl, g2, h3 _ _ R.jar, h2⟩
theorem sc_cut {i : Nat} {n : Int} {x : Str} {p pn p2 pos : Pos} {kn : Nat} (h1 : X.N[i]? = some x) (h2 : visB S x = true) (h3 : okName x = true) (hj : cf.js = true) : PE X (.Subscript (.Name x p) (.Slice none (some (.Constant (.int n) kn pn)) none p2) pos) (lE X.K J XR C W (.scut i n)) := by
  obtain ⟨d1, d2⟩ := okName_of G h3
  obtain ⟨a, sf⟩ := G.sf hj
  refine (pe_slice sl_list (pe_var h1 (G.vis h2) d1 d2) po_none (po_some pe_int)).imp fun pins s σ H Q I ⟨F, Z, r, Y, R, hx, q⟩ => ?_
  unfold exW at q
  split at q
  · rename_i ds e2
    obtain ⟨ns, rfl, g2, f1, f2⟩ := scr_at G R sf e2
    refine ⟨_, g2, n, rfl, a, _, rfl, f1, fun o ho => ?_⟩
    obtain ⟨Z4, s4, R4, q4⟩ := R.res (z := .new _) ⟨o, _, ho, rfl, rfl, cut_rep (RepL.ofInts ns) none (some n), Nat.le_trans (cutV_length _ _ _) (by rw [List.length_map]; exact f2)⟩
    exact q _ _ Z4 s4 R4 q4
  · exact q.elim
theorem sc_len {i : Nat} {x : Str} {p pf pos : Pos} (h1 : X.N[i]? = some x) (h2 : visB S x = true) (h3 : okName x = true) (hg : glB S "len" = true) (hf : cf.free.contains "len" = true) (hj : cf.js = true) : PE X (.Call (.Name "len" pf) [.Name x p] [] pos) (lE X.K J XR C W (.slen i)) := by
  obtain ⟨d1, d2⟩ := okName_of G h3
  obtain ⟨a, sf⟩ := G.sf hj
  refine (pe_callB call_len_seq (G.gl hg) (G.facts.free _ hf) PySem.boot_len (pa_cons (pe_var h1 (G.vis h2) d1 d2) pa_nil)).imp fun pins s σ H Q I ⟨F, Z, r, Y, R, hx, q⟩ => ?_
  unfold exW at q
  split at q
  · rename_i ds e2
    obtain ⟨ns, rfl, g2, f1, f2⟩ := scr_at G R sf e2
    refine ⟨_, g2, a, _, rfl, .inl f1, ?_⟩
    rw [List.length_map] at q ⊢
    exact q _ H Z (.refl _) R (.int _)
  · exact q.elim
end
end G

set_option linter.all false
set_option maxRecDepth 100000
set_option maxHeartbeats 4000000
set_option Elab.async false
/-! Sk: every expression that is checked does what its core term says. -/
namespace G
open PySem PySem.Spec PyProof.Rows L2
theorem _root_.L2.PTs.imp {X : Cx} {e : List Expr} {t t' : TT} (h : PTs X e t) (hi : ∀ pins s σ H Q, Inv X pins σ H s → t' σ H Q → t σ H Q) : PTs X e t' := ⟨fun pins s σ H Q I q => h.run pins s σ H Q I (hi pins s σ H Q I q)⟩
def isCmp : Expr → Bool | .Compare .. => true | _ => false
def isBoo : Expr → Bool | .BoolOp .. => true | _ => false
/-- the names that a comprehension's block stores -/
def blkSt (scope : Scope) : Str → Bool := fun x => match scope.names.lookup x with | some .local => true | some .cell => true | _ => false
theorem Good.blk {cf : Cfg} {J : Jar} {XR : XRT} {C : Calls} {lv : Nat} {X : Cx} {S : Sc} (G : Good cf J XR C lv X S) {scope : Scope} (hk : scope.kind = .function) (s : Shared) (H : Hp) (D : Addr) (cl : List (Str × Addr)) (fp : List Addr) :
    Good cf J XR C lv (X.blk s H scope (compEnvC scope cl D X.env) fp) ⟨relS scope S.sc, blkSt scope⟩ := by
  have es : (compEnvC scope cl D X.env).scope = relS scope S.sc := by rw [← G.sc]; rfl
  refine ⟨G.calm, G.room, G.gd, G.nd, es, by show (relS scope S.sc).kind = _; exact hk, fun x hx => ?_, G.facts, G.jf, G.sf, G.fns⟩
  have hx' : (match scope.names.lookup x with | some .local => true | some .cell => true | _ => false) = true := hx
  show Loc (compEnvC scope cl D X.env).scope x ∧ ((scope.names.lookup x == some .cell) = true ∨ (compEnvC scope cl D X.env).scope.names.lookup x = some .local)
  rw [es]
  split at hx'
  · have q := lookup_relS_keep (sc := S.sc) (k := NameKind.local) (by decide) (by assumption)
    exact ⟨.inl q, .inr q⟩
  · rename_i e
    have q := lookup_relS_keep (sc := S.sc) (k := NameKind.cell) (by decide) e
    exact ⟨.inr q, .inl (by rw [e]; rfl)⟩
  · cases hx'
theorem ofPW {X : Cx} {e : Expr} {t : TT} (w : PW X e t) : PT X e t ∧ (isBoo e = true → PW X e t) := ⟨w.pt, fun _ => w⟩
theorem isTup_of {e : Expr} (h : isTup e = true) : ∃ es k p, e = .Tuple es k p := by cases e <;> first | exact ⟨_, _, _, rfl⟩ | cases h
theorem noTakes {X : Cx} : Takes X noW := fun _ _ ⟨_, _, _, _, _, _, _, _, _, _, _, _, _, _, _, _, w⟩ => w.elim
theorem chkEs_star {cf : Cfg} {N : List Str} {S : Sc} : ∀ {es : Exs} {xs : List Expr}, chkEs cf N S es xs = true → xs.all notStar = true ∧ exsLen es = xs.length
  | .nil, [], _ => ⟨rfl, rfl⟩
  | .cons e es, x :: xs, h => by
    unfold chkEs at h
    obtain ⟨h1, h⟩ := and2 h
    obtain ⟨h2, h3⟩ := chkEs_star (and2 h).2
    exact ⟨by rw [List.all_cons, h1, h2]; rfl, by unfold exsLen; rw [h3]; rfl⟩
  | .nil, _ :: _, h => by unfold chkEs at h; cases h
  | .cons _ _, [], h => by unfold chkEs at h; cases h
theorem chkKs_len {cf : Cfg} {N : List Str} {S : Sc} : ∀ {es : Exs} {xs : List Keyword}, chkKs cf N S es xs = true → (xs.filterMap (·.arg)).length = xs.length ∧ exsLen es = xs.length
  | .nil, [], _ => ⟨rfl, rfl⟩
  | .cons e es, ⟨some n, x, p⟩ :: xs, h => by
    unfold chkKs at h
    obtain ⟨h2, h3⟩ := chkKs_len (and2 h).2
    exact ⟨by simpa using h2, by unfold exsLen; rw [h3]; rfl⟩
  | .cons e es, ⟨none, x, p⟩ :: xs, h => by unfold chkKs at h; cases h
  | .nil, _ :: _, h => by unfold chkKs at h; cases h
  | .cons _ _, [], h => by unfold chkKs at h; cases h
section
variable {cf : Cfg} {J : Jar} {XR : XRT} {C : Calls} {lv : Nat} (hC : CMono C)
include hC
theorem bi_nonempty {X : Cx} {S : Sc} {W : WX} (G : Good cf J XR C lv X S) {k : BI} {as : Exs} {a : Ex} {x : Str} {xs : List Expr} {p pos : Pos} (nk : ¬ isIsi k = true) (e1 : x = biName k) (h4 : (if x = ("gcd" : Str) then cf.gcd else cf.free.contains x) = true) (h3 : glB S x = true)
    (h : chkEs cf X.N S (.cons a as) xs = true) (hs : xs.all notStar = true) (pa : PA X xs (lAs X.K J XR C W (.cons a as))) : PE X (.Call (.Name x p) xs [] pos) (lE X.K J XR C W (.bi k (.cons a as))) := by
  cases xs with
  | nil => unfold chkEs at h; cases h
  | cons y ys =>
    rw [List.all_cons] at hs
    exact s_bi G hC (by simpa using nk) e1 h4 h3 (and2 hs).1 (and2 hs).2 pa
mutual
theorem snd_E : ∀ (c : Ex) {X : Cx} {S : Sc} {W : WX} (G : Good cf J XR C lv X S) (tk : Takes X W) {e : Expr}, chkE cf X.N S c e = true → PE X e (lE X.K J XR C W c) ∧ (isCmp e = true → PT X e (lT X.K J XR C W (.e c)))
  | .v i, X, S, W, G, tk, e, h => by
    unfold chkE at h
    split at h
    all_goals first | (exact absurd h Bool.false_ne_true) | (rename_i heq; cases heq; done) | (rename_i heq; cases heq)
    refine ⟨?_, fun z => by cases z⟩
    exact s_v G (of_decide_eq_true (and2 h).1) (and2 (and2 h).2).1 (and2 (and2 h).2).2
  | .i n, X, S, W, G, tk, e, h => by
    unfold chkE at h
    split at h
    all_goals first | (exact absurd h Bool.false_ne_true) | (rename_i heq; cases heq; done) | (rename_i heq; cases heq)
    refine ⟨?_, fun z => by cases z⟩
    cases of_decide_eq_true h
    exact s_const pe_int (fun _ => .int _) fun _ _ _ q => by unfold exW at q; exact q
  | .b x, X, S, W, G, tk, e, h => by
    unfold chkE at h
    split at h
    all_goals first | (exact absurd h Bool.false_ne_true) | (rename_i heq; cases heq; done) | (rename_i heq; cases heq)
    refine ⟨?_, fun z => by cases z⟩
    cases of_decide_eq_true h
    exact s_const pe_bl (fun _ => .bl _) fun _ _ _ q => by unfold exW at q; exact q
  | .n, X, S, W, G, tk, e, h => by
    unfold chkE at h
    split at h
    all_goals first | (exact absurd h Bool.false_ne_true) | (rename_i heq; cases heq; done) | (rename_i heq; cases heq)
    refine ⟨?_, fun z => by cases z⟩
    exact s_const pe_non (fun _ => .non) fun _ _ _ q => by unfold exW at q; exact q
  | .s x, X, S, W, G, tk, e, h => by
    unfold chkE at h
    split at h
    all_goals first | (exact absurd h Bool.false_ne_true) | (rename_i heq; cases heq; done) | (rename_i heq; cases heq)
    refine ⟨?_, fun z => by cases z⟩
    cases of_decide_eq_true h
    exact s_const pe_str (fun _ => .str _) fun _ _ _ q => by unfold exW at q; exact q
  | .g x n, X, S, W, G, tk, e, h => by
    unfold chkE at h
    split at h
    all_goals first | (exact absurd h Bool.false_ne_true) | (rename_i heq; cases heq; done) | (rename_i heq; cases heq)
    refine ⟨?_, fun z => by cases z⟩
    exact s_g G (of_decide_eq_true (and2 h).1) (and2 (and2 h).2).1 (and2 (and2 (and2 h).2).2).1 (and2 (and2 (and2 h).2).2).2
  | .tup es, X, S, W, G, tk, e, h => by
    have ia := @snd_Es es
    unfold chkE at h
    split at h
    all_goals first | (exact absurd h Bool.false_ne_true) | (rename_i heq; cases heq; done) | (rename_i heq; cases heq)
    refine ⟨?_, fun z => by cases z⟩
    exact s_tup hC (of_decide_eq_true (and2 h).1) (ia G tk (and2 h).2)
  | .lst es, X, S, W, G, tk, e, h => by
    have ia := @snd_Es es
    unfold chkE at h
    split at h
    all_goals first | (exact absurd h Bool.false_ne_true) | (rename_i heq; cases heq; done) | (rename_i heq; cases heq)
    refine ⟨?_, fun z => by cases z⟩
    exact s_lst hC (of_decide_eq_true (and2 h).1) (ia G tk (and2 h).2)
  | .bin o a b, X, S, W, G, tk, e, h => by
    have ia := @snd_E a
    have ib := @snd_E b
    unfold chkE at h
    split at h
    all_goals first | (exact absurd h Bool.false_ne_true) | (rename_i heq; cases heq; done) | (rename_i heq; cases heq)
    refine ⟨?_, fun z => by cases z⟩
    exact s_bin hC (and2 h).1 (ia G tk (and2 (and2 h).2).1).1 (ib G tk (and2 (and2 h).2).2).1
  | .neg a, X, S, W, G, tk, e, h => by
    have ia := @snd_E a
    unfold chkE at h
    split at h
    all_goals first | (exact absurd h Bool.false_ne_true) | (rename_i heq; cases heq; done) | (rename_i heq; cases heq)
    refine ⟨?_, fun z => by cases z⟩
    exact s_neg hC (ia G tk h).1
  | .nt a, X, S, W, G, tk, e, h => by
    have ia := @snd_E a
    unfold chkE at h
    split at h
    all_goals first | (exact absurd h Bool.false_ne_true) | (rename_i heq; cases heq; done) | (rename_i heq; cases heq)
    refine ⟨?_, fun z => by cases z⟩
    exact s_nt hC (ia G tk h).1
  | .cmp o a b, X, S, W, G, tk, e, h => by
    have ia := @snd_E a
    have ib := @snd_E b
    unfold chkE at h
    split at h
    all_goals first | (exact absurd h Bool.false_ne_true) | (rename_i heq; cases heq; done) | (rename_i heq; cases heq)
    obtain ⟨h1, h⟩ := and2 h
    obtain ⟨h2, h⟩ := and2 h
    obtain ⟨h3, h4⟩ := and2 h
    exact ⟨s_cmp G hC h1 h2 (ia G tk h3).1 (ib G tk h4).1, fun _ => t_cmp G hC h1 h2 (ia G tk h3).1 (ib G tk h4).1⟩
  | .chain o p a b d, X, S, W, G, tk, e, h => by
    have ia := @snd_E a
    have ib := @snd_E b
    have id := @snd_E d
    unfold chkE at h
    split at h
    all_goals first | (exact absurd h Bool.false_ne_true) | (rename_i heq; cases heq; done) | (rename_i heq; cases heq)
    obtain ⟨h1, h⟩ := and2 h
    obtain ⟨h2, h⟩ := and2 h
    obtain ⟨h3, h⟩ := and2 h
    obtain ⟨h4, h⟩ := and2 h
    obtain ⟨h5, h6⟩ := and2 h
    exact ⟨s_chain G hC h1 h2 h3 (ia G tk h4).1 (ib G tk h5).1 (id G tk h6).1, fun _ => t_chain G hC h1 h2 h3 (ia G tk h4).1 (ib G tk h5).1 (id G tk h6).1⟩
  | .isN a, X, S, W, G, tk, e, h => by
    have ia := @snd_E a
    unfold chkE at h
    split at h
    all_goals first | (exact absurd h Bool.false_ne_true) | (rename_i heq; cases heq; done) | (rename_i heq; cases heq)
    exact ⟨s_isN hC (ia G tk h).1, fun _ => t_isN hC (ia G tk h).1⟩
  | .notN a, X, S, W, G, tk, e, h => by
    have ia := @snd_E a
    unfold chkE at h
    split at h
    all_goals first | (exact absurd h Bool.false_ne_true) | (rename_i heq; cases heq; done) | (rename_i heq; cases heq)
    exact ⟨s_notN hC (ia G tk h).1, fun _ => t_notN hC (ia G tk h).1⟩
  | .and a b, X, S, W, G, tk, e, h => by
    have ia := @snd_E a
    have ib := @snd_E b
    unfold chkE at h
    split at h
    all_goals first | (exact absurd h Bool.false_ne_true) | (rename_i heq; cases heq; done) | (rename_i heq; cases heq)
    · exact ⟨s_and hC (ia G tk (and2 h).1).1 (pe_one (ib G tk (and2 h).2).1), fun z => by cases z⟩
    · exact ⟨s_and hC (ia G tk (and2 h).1).1 (ib G tk (and2 h).2).1, fun z => by cases z⟩
  | .or a b, X, S, W, G, tk, e, h => by
    have ia := @snd_E a
    have ib := @snd_E b
    unfold chkE at h
    split at h
    all_goals first | (exact absurd h Bool.false_ne_true) | (rename_i heq; cases heq; done) | (rename_i heq; cases heq)
    · exact ⟨s_or hC (ia G tk (and2 h).1).1 (pe_one (ib G tk (and2 h).2).1), fun z => by cases z⟩
    · exact ⟨s_or hC (ia G tk (and2 h).1).1 (ib G tk (and2 h).2).1, fun z => by cases z⟩
  | .ite t a b, X, S, W, G, tk, e, h => by
    have it := @snd_T t
    have ia := @snd_E a
    have ib := @snd_E b
    unfold chkE at h
    split at h
    all_goals first | (exact absurd h Bool.false_ne_true) | (rename_i heq; cases heq; done) | (rename_i heq; cases heq)
    refine ⟨?_, fun z => by cases z⟩
    exact s_ite hC (it G tk (and2 h).1).1 (ia G tk (and2 (and2 h).2).1).1 (ib G tk (and2 (and2 h).2).2).1
  | .ix a i, X, S, W, G, tk, e, h => by
    have ia := @snd_E a
    have ib := @snd_E i
    unfold chkE at h
    split at h
    all_goals first | (exact absurd h Bool.false_ne_true) | (rename_i heq; cases heq; done) | (rename_i heq; cases heq)
    refine ⟨?_, fun z => by cases z⟩
    exact s_ix hC (by simpa using (and2 h).1) (ia G tk (and2 (and2 h).2).1).1 (ib G tk (and2 (and2 h).2).2).1
  | .cut a lo hi, X, S, W, G, tk, e, h => by
    have ia := @snd_E a
    have il := @snd_O lo
    have iu := @snd_O hi
    unfold chkE at h
    split at h
    all_goals first | (exact absurd h Bool.false_ne_true) | (rename_i heq; cases heq; done) | (rename_i heq; cases heq)
    refine ⟨?_, fun z => by cases z⟩
    exact s_cut hC (ia G tk (and2 h).1).1 (il G tk (and2 (and2 h).2).1) (iu G tk (and2 (and2 h).2).2)
  | .stp a lo k, X, S, W, G, tk, e, h => by
    have ia := @snd_E a
    unfold chkE at h
    split at h
    all_goals first | (exact absurd h Bool.false_ne_true) | (rename_i heq; cases heq; done) | (rename_i heq; cases heq)
    refine ⟨?_, fun z => by cases z⟩
    obtain ⟨h1, g1⟩ := and2 h
    obtain ⟨h2, g2⟩ := and2 g1
    cases of_decide_eq_true h1
    cases of_decide_eq_true h2
    exact s_stp hC (of_decide_eq_true (and2 g2).1) (ia G tk (and2 g2).2).1
  | .rev a, X, S, W, G, tk, e, h => by
    have ia := @snd_E a
    unfold chkE at h
    split at h
    all_goals first | (exact absurd h Bool.false_ne_true) | (rename_i heq; cases heq; done) | (rename_i heq; cases heq)
    refine ⟨?_, fun z => by cases z⟩
    exact s_rev hC (and2 h).1 (ia G tk (and2 h).2).1
  | .call f es, X, S, W, G, tk, e, h => by
    have ia := @snd_Es es
    unfold chkE at h
    split at h
    all_goals first | (exact absurd h Bool.false_ne_true) | (rename_i heq; cases heq; done) | (rename_i heq; cases heq)
    refine ⟨?_, fun z => by cases z⟩
    obtain ⟨h1, h⟩ := and2 h
    obtain ⟨h2, h⟩ := and2 h
    obtain ⟨h3, h⟩ := and2 h
    have hs := (chkEs_star h).1
    rw [List.all_cons] at hs
    split at h1
    · exact s_call G hC tk (by assumption) (of_decide_eq_true (and2 h1).1) (of_decide_eq_true (and2 h1).2) h2 h3 (and2 hs).1 (and2 hs).2 (ia G tk h)
    · cases h1
  | .callk f es ks ps, X, S, W, G, tk, e, h => by
    have ia := @snd_Es es
    have ib := @snd_Ks ks
    unfold chkE at h
    split at h
    all_goals first | (exact absurd h Bool.false_ne_true) | (rename_i heq; cases heq; done) | (rename_i heq; cases heq)
    refine ⟨?_, fun z => by cases z⟩
    obtain ⟨h1, h⟩ := and2 h
    obtain ⟨h2, h⟩ := and2 h
    obtain ⟨h3, h⟩ := and2 h
    obtain ⟨h4, h5⟩ := and2 h
    have hs := chkEs_star h4
    have hk := chkKs_len h5
    split at h1
    · obtain ⟨h1, h6⟩ := and2 h1
      obtain ⟨h0, h6⟩ := and2 h6
      obtain ⟨h6, h7⟩ := and2 h6
      exact s_callk G hC tk (by assumption) (of_decide_eq_true h1) (of_decide_eq_true h0) h6 (of_decide_eq_true h7) hk.1 hk.2 h2 h3 hs.1 hs.2 (ia G tk h4) (ib G tk h5)
    · cases h1
  | .calld f es ns, X, S, W, G, tk, e, h => by
    have ia := @snd_Es es
    unfold chkE at h
    split at h
    all_goals first | (exact absurd h Bool.false_ne_true) | (rename_i heq; cases heq; done) | (rename_i heq; cases heq)
    refine ⟨?_, fun z => by cases z⟩
    obtain ⟨h1, h⟩ := and2 h
    obtain ⟨h2, h⟩ := and2 h
    obtain ⟨h3, h⟩ := and2 h
    have hs := (chkEs_star h).1
    rw [List.all_cons] at hs
    split at h1
    · obtain ⟨h4, h5⟩ := and2 h1
      obtain ⟨h5, h6⟩ := and2 h5
      obtain ⟨h6, h7⟩ := and2 h6
      exact s_calld G hC tk (by assumption) (of_decide_eq_true h4) (of_decide_eq_true h5) (of_decide_eq_true h6) (of_decide_eq_true h7) h2 h3 (and2 hs).1 (and2 hs).2 (ia G tk h)
    · cases h1
  | .lw (.r1 a), X, S, W, G, tk, e, h => by
    have ia := @snd_E a
    unfold chkE at h
    split at h
    all_goals first | (exact absurd h Bool.false_ne_true) | (rename_i heq; cases heq; done) | (rename_i heq; cases heq)
    refine ⟨?_, fun z => by cases z⟩
    obtain ⟨h1, u1⟩ := and2 h
    obtain ⟨h2, u2⟩ := and2 u1
    unfold bltB at h1 h2
    obtain ⟨g1, g2⟩ := and2 h1
    obtain ⟨g2, g3⟩ := and2 g2
    obtain ⟨g4, g5⟩ := and2 h2
    obtain ⟨g5, g6⟩ := and2 g5
    cases of_decide_eq_true g1
    cases of_decide_eq_true g4
    obtain ⟨h3, h4⟩ := and2 u2
    exact s_lwr1 G hC g3 g2 g6 g5 h3 (ia G tk h4).1
  | .lw (.r2 a b), X, S, W, G, tk, e, h => by
    have ia := @snd_E a
    have ib := @snd_E b
    unfold chkE at h
    split at h
    all_goals first | (exact absurd h Bool.false_ne_true) | (rename_i heq; cases heq; done) | (rename_i heq; cases heq)
    refine ⟨?_, fun z => by cases z⟩
    obtain ⟨h1, u1⟩ := and2 h
    obtain ⟨h2, u2⟩ := and2 u1
    unfold bltB at h1 h2
    obtain ⟨g1, g2⟩ := and2 h1
    obtain ⟨g2, g3⟩ := and2 g2
    obtain ⟨g4, g5⟩ := and2 h2
    obtain ⟨g5, g6⟩ := and2 g5
    cases of_decide_eq_true g1
    cases of_decide_eq_true g4
    obtain ⟨h3, u3⟩ := and2 u2
    obtain ⟨h4, u4⟩ := and2 u3
    obtain ⟨h5, h6⟩ := and2 u4
    exact s_lwr2 G hC g3 g2 g6 g5 h3 h4 (ia G tk h5).1 (ib G tk h6).1
  | .lw (.zip a b), X, S, W, G, tk, e, h => by
    have ia := @snd_E a
    have ib := @snd_E b
    unfold chkE at h
    split at h
    all_goals first | (exact absurd h Bool.false_ne_true) | (rename_i heq; cases heq; done) | (rename_i heq; cases heq)
    refine ⟨?_, fun z => by cases z⟩
    obtain ⟨h1, u1⟩ := and2 h
    obtain ⟨h2, u2⟩ := and2 u1
    unfold bltB at h1 h2
    obtain ⟨g1, g2⟩ := and2 h1
    obtain ⟨g2, g3⟩ := and2 g2
    obtain ⟨g4, g5⟩ := and2 h2
    obtain ⟨g5, g6⟩ := and2 g5
    cases of_decide_eq_true g1
    cases of_decide_eq_true g4
    obtain ⟨h3, u3⟩ := and2 u2
    obtain ⟨h4, u4⟩ := and2 u3
    obtain ⟨h5, h6⟩ := and2 u4
    exact s_lwz G hC g3 g2 g6 g5 h3 h4 (ia G tk h5).1 (ib G tk h6).1
  | .dct0, X, S, W, G, tk, e, h => by
    unfold chkE at h
    split at h
    all_goals first | (exact absurd h Bool.false_ne_true) | (rename_i heq; cases heq; done) | (rename_i heq; cases heq)
    refine ⟨?_, fun z => by cases z⟩
    exact s_dct0 G hC
  | .lw (.e a), X, S, W, G, tk, e, h => by
    unfold chkE at h
    exact absurd h Bool.false_ne_true
  | .lw (.en a), X, S, W, G, tk, e, h => by
    unfold chkE at h
    exact absurd h Bool.false_ne_true
  | .bi k .nil, X, S, W, G, tk, e, h => by
    unfold chkE at h
    split at h
    all_goals first | (exact absurd h Bool.false_ne_true) | (rename_i heq; cases heq; done) | (rename_i heq; cases heq)
    obtain ⟨h1, h⟩ := and2 h
    obtain ⟨h2, h⟩ := and2 h
    exact absurd (show (0 : Nat) = biN k from of_decide_eq_true h2) (by cases k <;> decide)
  | .bi k (.cons a as), X, S, W, G, tk, e, h => by
    have ia := @snd_E a
    have is := @snd_As (.cons a as)
    unfold chkE at h
    split at h
    all_goals first | (exact absurd h Bool.false_ne_true) | (rename_i heq; cases heq; done) | (rename_i heq; cases heq)
    refine ⟨?_, fun z => by cases z⟩
    obtain ⟨h1, h⟩ := and2 h
    obtain ⟨h2, h⟩ := and2 h
    obtain ⟨h3, h⟩ := and2 h
    have e1 := of_decide_eq_true h1
    have e2 := of_decide_eq_true h2
    by_cases nk : isIsi k = true
    · rw [if_pos nk] at h
      split at h
      · obtain ⟨h4, h⟩ := and2 h
        obtain ⟨h5, h⟩ := and2 h
        obtain ⟨h6, h⟩ := and2 h
        unfold chkEs at h
        obtain ⟨h7, h⟩ := and2 h
        obtain ⟨h8, h⟩ := and2 h
        cases as with
        | nil => exact s_isi G hC nk (by rw [e1]; cases k <;> first | rfl | cases nk) (of_decide_eq_true h4) h6 h3 h5 h7 (ia G tk h8).1
        | cons b bs => unfold chkEs at h; cases h
      · cases h
    · rw [if_neg nk] at h
      obtain ⟨h4, h⟩ := and2 h
      have hs := (chkEs_star h).1
      have pa := is G tk h
      exact bi_nonempty hC G nk e1 h4 h3 h hs pa
  | .comp x t w c own, X, S, W, G, tk, e, h => by
    have ia := @snd_E x
    have iw := @snd_W w
    have ic := @snd_T c
    unfold chkE at h
    split at h
    all_goals first | (exact absurd h Bool.false_ne_true) | (rename_i heq; cases heq; done) | (rename_i heq; cases heq)
    refine ⟨?_, fun z => by cases z⟩
    obtain ⟨h1, h⟩ := and2 h
    obtain ⟨h2, h⟩ := and2 h
    obtain ⟨h3, h⟩ := and2 h
    obtain ⟨h4, h⟩ := and2 h
    obtain ⟨h5, h⟩ := and2 h
    obtain ⟨h6, h⟩ := and2 h
    obtain ⟨h7, h8⟩ := and2 h
    cases of_decide_eq_true h1
    have ok := blkOk_by h2
    rw [← G.sc] at ok
    refine (s_comp G hC ok h4 h3 (iw G tk h5) (fun s H D cl fp => ?_) (fun s H D cl fp => ?_) (fun s H D cl fp => ?_)).2
    · exact s_tg (G.blk ok.kind s H D cl fp) h6
    · split at h7
      · refine pts_nil.imp fun pins s σ H Q I ⟨F, Z, r, Y, R, hx, q⟩ => ?_
        unfold tsW at q
        exact q H Z (.refl _) R
      · exact pts_one (ic (G.blk ok.kind s H D cl fp) noTakes h7).1
      · cases h7
    · exact (ia (G.blk ok.kind s H D cl fp) noTakes h8).1
  | .pop i, X, S, W, G, tk, e, h => by
    unfold chkE at h
    split at h
    all_goals first | (exact absurd h Bool.false_ne_true) | (rename_i heq; cases heq; done) | (rename_i heq; cases heq)
    refine ⟨?_, fun z => by cases z⟩
    obtain ⟨h1, g1⟩ := and2 h
    obtain ⟨h2, g2⟩ := and2 g1
    obtain ⟨h3, g3⟩ := and2 g2
    cases of_decide_eq_true h1
    exact pop_tree G hC (of_decide_eq_true h3) (and2 g3).1 (and2 g3).2 h2
  | .popA i n, X, S, W, G, tk, e, h => by
    unfold chkE at h
    split at h
    all_goals first | (exact absurd h Bool.false_ne_true) | (rename_i heq; cases heq; done) | (rename_i heq; cases heq)
    refine ⟨?_, fun z => by cases z⟩
    obtain ⟨h1, g1⟩ := and2 h
    obtain ⟨h2, g2⟩ := and2 g1
    obtain ⟨h3, g3⟩ := and2 g2
    obtain ⟨h4, g4⟩ := and2 g3
    obtain ⟨h5, g5⟩ := and2 g4
    cases of_decide_eq_true h1
    cases of_decide_eq_true g5
    exact popA_tree G hC (of_decide_eq_true h3) h4 h5 h2
  | .jg i k, X, S, W, G, tk, e, h => by
    unfold chkE at h
    split at h
    all_goals first | (exact absurd h Bool.false_ne_true) | (rename_i heq; cases heq; done) | (rename_i heq; cases heq)
    refine ⟨?_, fun z => by cases z⟩
    obtain ⟨h1, g1⟩ := and2 h
    obtain ⟨h2, g2⟩ := and2 g1
    obtain ⟨h3, g3⟩ := and2 g2
    obtain ⟨h4, h5⟩ := and2 g3
    exact j_jg G (of_decide_eq_true h1) h2 h3 h4 (of_decide_eq_true h5)
  | .scut i n, X, S, W, G, tk, e, h => by
    unfold chkE at h
    split at h
    all_goals first | (exact absurd h Bool.false_ne_true) | (rename_i heq; cases heq; done) | (rename_i heq; cases heq)
    refine ⟨?_, fun z => by cases z⟩
    obtain ⟨h1, g1⟩ := and2 h
    obtain ⟨h2, g2⟩ := and2 g1
    obtain ⟨h3, g3⟩ := and2 g2
    obtain ⟨h4, h5⟩ := and2 g3
    cases of_decide_eq_true h4
    exact sc_cut G (of_decide_eq_true h1) h2 h3 h5
  | .slen i, X, S, W, G, tk, e, h => by
    unfold chkE at h
    split at h
    all_goals first | (exact absurd h Bool.false_ne_true) | (rename_i heq; cases heq; done) | (rename_i heq; cases heq)
    refine ⟨?_, fun z => by cases z⟩
    obtain ⟨h1, g1⟩ := and2 h
    obtain ⟨h2, g2⟩ := and2 g1
    obtain ⟨h3, g3⟩ := and2 g2
    obtain ⟨h4, h5⟩ := and2 g3
    unfold bltB at h4
    obtain ⟨h6, h7⟩ := and2 h4
    cases of_decide_eq_true h6
    exact sc_len G (of_decide_eq_true h1) h2 h3 (and2 h7).2 (and2 h7).1 h5
  | .jn s, X, S, W, G, tk, e, h => by
    unfold chkE at h
    split at h
    all_goals first | (exact absurd h Bool.false_ne_true) | (rename_i heq; cases heq; done) | (rename_i heq; cases heq)
    exact ⟨(j_jn G hC h).1, fun _ => (j_jn G hC h).2⟩
  | .jp s false, X, S, W, G, tk, e, h => by
    unfold chkE at h
    split at h
    all_goals first | (exact absurd h Bool.false_ne_true) | (rename_i heq; cases heq; done) | (rename_i heq; cases heq)
    refine ⟨?_, fun z => by cases z⟩
    obtain ⟨h1, g1⟩ := and2 h
    obtain ⟨h2, h3⟩ := and2 g1
    cases of_decide_eq_true h1
    exact jp_last G h3 h2
  | .jp s true, X, S, W, G, tk, e, h => by
    unfold chkE at h
    split at h
    all_goals first | (exact absurd h Bool.false_ne_true) | (rename_i heq; cases heq; done) | (rename_i heq; cases heq)
    refine ⟨?_, fun z => by cases z⟩
    obtain ⟨h1, g1⟩ := and2 h
    obtain ⟨h2, h3⟩ := and2 g1
    cases of_decide_eq_true h1
    exact jp_first G h3 h2
theorem snd_T : ∀ (c : Ts) {X : Cx} {S : Sc} {W : WX} (G : Good cf J XR C lv X S) (tk : Takes X W) {e : Expr}, chkT cf X.N S c e = true → PT X e (lT X.K J XR C W c) ∧ (isBoo e = true → PW X e (lT X.K J XR C W c))
  | .yes, X, S, W, G, tk, e, h => by
    unfold chkT at h
    exact absurd h Bool.false_ne_true
  | .and a b, X, S, W, G, tk, e, h => by
    have ia := @snd_T a
    have ib := @snd_T b
    unfold chkT at h
    split at h
    all_goals first | (exact absurd h Bool.false_ne_true) | (rename_i heq; cases heq; done) | (rename_i heq; cases heq)
    · exact ofPW (t_and hC (ia G tk (and2 h).1).1 (pw_and1 (ib G tk (and2 h).2).1))
    · exact ofPW (t_and hC (ia G tk (and2 h).1).1 ((ib G tk (and2 h).2).2 rfl))
  | .or a b, X, S, W, G, tk, e, h => by
    have ia := @snd_T a
    have ib := @snd_T b
    unfold chkT at h
    split at h
    all_goals first | (exact absurd h Bool.false_ne_true) | (rename_i heq; cases heq; done) | (rename_i heq; cases heq)
    · exact ofPW (t_or hC (ia G tk (and2 h).1).1 (pw_or1 (ib G tk (and2 h).2).1))
    · exact ofPW (t_or hC (ia G tk (and2 h).1).1 ((ib G tk (and2 h).2).2 rfl))
  | .nt a, X, S, W, G, tk, e, h => by
    have ia := @snd_T a
    unfold chkT at h
    split at h
    all_goals first | (exact absurd h Bool.false_ne_true) | (rename_i heq; cases heq; done) | (rename_i heq; cases heq)
    refine ⟨?_, fun z => by cases z⟩
    exact t_nt hC (ia G tk h).1
  | .e a, X, S, W, G, tk, e, h => by
    have ia := @snd_E a
    unfold chkT at h
    obtain ⟨h1, h⟩ := and2 h
    have q := ia G tk h
    rcases Bool.or_eq_true_iff.mp h1 with h1 | h1
    · exact ⟨t_e hC h1 q.1, fun z => by revert z h1; cases e <;> first | (intro h1 z; cases z; done) | (intro h1 z; cases h1)⟩
    · have hc : isCmp e = true := by
        split at h1
        all_goals first | rfl | cases h1
      exact ⟨q.2 hc, fun z => by revert z hc; cases e <;> first | (intro h1 z; cases z; done) | (intro h1 z; cases h1)⟩
theorem snd_Es : ∀ (c : Exs) {X : Cx} {S : Sc} {W : WX} (G : Good cf J XR C lv X S) (tk : Takes X W) {e : List Expr}, chkEs cf X.N S c e = true → PA X e (lEs X.K J XR C W c)
  | .nil, X, S, W, G, tk, [], h => a_nil
  | .cons a as, X, S, W, G, tk, e :: es, h => by
    have ia := @snd_E a
    have is := @snd_Es as
    unfold chkEs at h
    exact a_cons hC (and2 h).1 (ia G tk (and2 (and2 h).2).1).1 (is G tk (and2 (and2 h).2).2)
  | .nil, X, S, W, G, tk, _ :: _, h => by unfold chkEs at h; cases h
  | .cons _ _, X, S, W, G, tk, [], h => by unfold chkEs at h; cases h
theorem snd_As : ∀ (c : Exs) {X : Cx} {S : Sc} {W : WX} (G : Good cf J XR C lv X S) (tk : Takes X W) {e : List Expr}, chkEs cf X.N S c e = true → PA X e (lAs X.K J XR C W c)
  | .nil, X, S, W, G, tk, [], h => b_nil
  | .cons a as, X, S, W, G, tk, e :: es, h => by
    have ia := @snd_E a
    have is := @snd_As as
    unfold chkEs at h
    exact b_cons hC (and2 h).1 (ia G tk (and2 (and2 h).2).1).1 (is G tk (and2 (and2 h).2).2)
  | .nil, X, S, W, G, tk, _ :: _, h => by unfold chkEs at h; cases h
  | .cons _ _, X, S, W, G, tk, [], h => by unfold chkEs at h; cases h
theorem snd_Ks : ∀ (c : Exs) {X : Cx} {S : Sc} {W : WX} (G : Good cf J XR C lv X S) (tk : Takes X W) {e : List Keyword}, chkKs cf X.N S c e = true → PK X e (lEs X.K J XR C W c)
  | .nil, X, S, W, G, tk, [], h => k_nil hC
  | .cons a as, X, S, W, G, tk, ⟨some n, e, p⟩ :: es, h => by
    have ia := @snd_E a
    have is := @snd_Ks as
    unfold chkKs at h
    exact k_cons hC (ia G tk (and2 h).1).1 (is G tk (and2 h).2)
  | .cons _ _, X, S, W, G, tk, ⟨none, _, _⟩ :: _, h => by unfold chkKs at h; cases h
  | .nil, X, S, W, G, tk, _ :: _, h => by unfold chkKs at h; cases h
  | .cons _ _, X, S, W, G, tk, [], h => by unfold chkKs at h; cases h
theorem snd_O : ∀ (c : Op) {X : Cx} {S : Sc} {W : WX} (G : Good cf J XR C lv X S) (tk : Takes X W) {e : Option Expr}, chkO cf X.N S c e = true → PO X e (lO X.K J XR C W c)
  | .no, X, S, W, G, tk, none, h => o_no
  | .so a, X, S, W, G, tk, some e, h => by
    have ia := @snd_E a
    unfold chkO at h
    exact o_so hC (ia G tk h).1
  | .no, X, S, W, G, tk, some _, h => by unfold chkO at h; cases h
  | .so _, X, S, W, G, tk, none, h => by unfold chkO at h; cases h
theorem snd_W : ∀ (c : It) {X : Cx} {S : Sc} {W : WX} (G : Good cf J XR C lv X S) (tk : Takes X W) {e tg : Expr}, chkW cf X.N S c e tg = true → PI X tg e (lW X.K J XR C W c)
  | .e a, X, S, W, G, tk, e, tg, h => by
    have ia := @snd_E a
    unfold chkW at h
    exact i_e hC (ia G tk h).1
  | .r1 a, X, S, W, G, tk, e, tg, h => by
    have ia := @snd_E a
    unfold chkW at h
    split at h
    all_goals first | (exact absurd h Bool.false_ne_true) | (rename_i heq; cases heq; done) | (rename_i heq; cases heq)
    obtain ⟨h1, g1⟩ := and2 h
    unfold bltB at h1
    obtain ⟨h0, h1⟩ := and2 h1
    cases of_decide_eq_true h0
    exact i_r1 G hC (and2 h1).2 (and2 h1).1 (and2 g1).1 (ia G tk (and2 g1).2).1
  | .r2 a b, X, S, W, G, tk, e, tg, h => by
    have ia := @snd_E a
    have ib := @snd_E b
    unfold chkW at h
    split at h
    all_goals first | (exact absurd h Bool.false_ne_true) | (rename_i heq; cases heq; done) | (rename_i heq; cases heq)
    obtain ⟨h1, g1⟩ := and2 h
    unfold bltB at h1
    obtain ⟨h0, h1⟩ := and2 h1
    cases of_decide_eq_true h0
    obtain ⟨h2, g2⟩ := and2 g1
    obtain ⟨h3, g3⟩ := and2 g2
    exact i_r2 G hC (and2 h1).2 (and2 h1).1 h2 h3 (ia G tk (and2 g3).1).1 (ib G tk (and2 g3).2).1
  | .en a, X, S, W, G, tk, e, tg, h => by
    have ia := @snd_E a
    unfold chkW at h
    split at h
    all_goals first | (exact absurd h Bool.false_ne_true) | (rename_i heq; cases heq; done) | (rename_i heq; cases heq)
    obtain ⟨h1, g1⟩ := and2 h
    unfold bltB at h1
    obtain ⟨h0, h1⟩ := and2 h1
    cases of_decide_eq_true h0
    obtain ⟨h2, g2⟩ := and2 g1
    obtain ⟨ts, tk2, tp, rfl⟩ := isTup_of h2
    exact i_en G hC (and2 h1).2 (and2 h1).1 (and2 g2).1 (ia G tk (and2 g2).2).1
  | .zip a b, X, S, W, G, tk, e, tg, h => by
    have ia := @snd_E a
    have ib := @snd_E b
    unfold chkW at h
    split at h
    all_goals first | (exact absurd h Bool.false_ne_true) | (rename_i heq; cases heq; done) | (rename_i heq; cases heq)
    obtain ⟨h1, g1⟩ := and2 h
    unfold bltB at h1
    obtain ⟨h0, h1⟩ := and2 h1
    cases of_decide_eq_true h0
    obtain ⟨h2, g2⟩ := and2 g1
    obtain ⟨h3, g3⟩ := and2 g2
    obtain ⟨h4, g4⟩ := and2 g3
    obtain ⟨ts, tk2, tp, rfl⟩ := isTup_of h2
    exact i_zip G hC (and2 h1).2 (and2 h1).1 h3 h4 (ia G tk (and2 g4).1).1 (ib G tk (and2 g4).2).1
end
end
end G

set_option linter.all false
set_option maxRecDepth 100000
set_option Elab.async false
/-! Sl: statements. -/
namespace G
open PySem PySem.Spec PyProof.Rows L2

/-! ### stores -/
theorem rd_ow_len {r : En} {i : Nat} {ds : List D} (h : rd r i = .ow ds) : i < r.length := rd_lt (by rw [h]; exact fun z => by cases z)
section
variable {K : PySem.W.Frag} {J : Jar} {F : Fm} {σ : L2.St} {H Z : Hp} {r : En}
theorem Rel.asg (R : Rel K J F σ H Z r) {i : Nat} {x : Rz} {v : V} {k : En → Prop} (h : RepR K J F σ H Z r x v) (q : asg i r x k) : ∃ r' Z', Same Z Z' ∧ Rel K J F (σ.set i (some v)) H Z' r' ∧ k r' := by
  unfold G.asg at q
  cases x with
  | val d => exact ⟨_, Z, .refl _, R.set h, q⟩
  | new ds => exact ⟨_, Z, .refl _, R.setOw h, q⟩
  | sl j =>
    have q2 : G.frz r (.sl j) fun d r1 => k (r1.set i (.fz d)) := by
      unfold G.frz
      dsimp only at q ⊢
      split at q
      · exact q
      · exact q
      · exact q.elim
    obtain ⟨d, r1, Z1, s1, R1, h1, q1⟩ := R.frz h q2
    exact ⟨_, Z1, s1, R1.set h1, q1⟩
/-- values of a display that wait to be stored -/
inductive RsOk (K : PySem.W.Frag) (J : Jar) (σ : L2.St) (H Z : Hp) (r : En) : Fm → List Rz → List V → Prop
  | nil {F : Fm} : RsOk K J σ H Z r F [] []
  | val {F : Fm} {d : D} {v : V} {xs : List Rz} {vs : List V} : Rep K J Z v d → RsOk K J σ H Z r F xs vs → RsOk K J σ H Z r F (.val d :: xs) (v :: vs)
  | new {F : Fm} {ds : List D} {a : Addr} {ws : List V} {xs : List Rz} {vs : List V} : H a = some (.lst ws) → ws.length ≤ sizeLine → RepL K J Z ws ds → Z a = none → F.o a = none → ¬ J.A a → (∀ i es, rd r i = .ow es → σ[i]? ≠ some (some (.ref a))) →
      RsOk K J σ H Z r (F.add a (.lst ws)) xs vs → RsOk K J σ H Z r F (.new ds :: xs) (.ref a :: vs)
theorem RsOk.len {xs : List Rz} {vs : List V} (h : RsOk K J σ H Z r F xs vs) : vs.length = xs.length := by
  induction h with
  | nil => rfl
  | val _ _ ih => rw [List.length_cons, List.length_cons, ih]
  | new _ _ _ _ _ _ _ _ ih => rw [List.length_cons, List.length_cons, ih]
/-- one value of those before is stored -/
theorem RsOk.step {F F' : Fm} {xs : List Rz} {vs : List V} (h : RsOk K J σ H Z r F xs vs) : ∀ {F' : Fm} {σ' : L2.St} {r' : En}, (∀ a, F.o a = none → F'.o a = none) → (∀ a, F.o a = none → (∀ i es, rd r i = .ow es → σ[i]? ≠ some (some (.ref a))) → ∀ i es, rd r' i = .ow es → σ'[i]? ≠ some (some (.ref a))) →
    RsOk K J σ' H Z r' F' xs vs := by
  induction h with
  | nil => exact fun _ _ => .nil
  | val h1 h2 ih => exact fun e1 e2 => .val h1 (ih e1 e2)
  | @new F1 ds a ws xs vs h1 h2 h3 h4 h5 h6 h7 h8 ih =>
    intro F' σ' r' e1 e2
    refine .new h1 h2 h3 h4 (e1 a h5) h6 (e2 a h5 h7) (ih (fun b hb => ?_) fun b hb => e2 b ?_)
    · have hb' : upd F1.o a (.lst ws) b = none := hb
      show upd F'.o a (.lst ws) b = none
      by_cases q : b = a
      · subst q; rw [upd_same] at hb'; cases hb'
      · rw [upd_ne q] at hb' ⊢; exact e1 b hb'
    · have hb' : upd F1.o a (.lst ws) b = none := hb
      by_cases q : b = a
      · subst q; rw [upd_same] at hb'; cases hb'
      · rwa [upd_ne q] at hb'
def setAll : L2.St → List Nat → List V → L2.St
  | σ, i :: is, v :: vs => setAll (σ.set i (some v)) is vs
  | σ, _, _ => σ
theorem Rel.asgs : ∀ {is : List Nat} {xs : List Rz} {σ : L2.St} {r : En} {vs : List V} {k : En → Prop}, Rel K J F σ H Z r → RsOk K J σ H Z r F xs vs → asgs is xs r k → ∃ r', Rel K J F (setAll σ is vs) H Z r' ∧ k r'
  | [], [], σ, r, vs, k, R, h, q => by cases h; exact ⟨r, R, q⟩
  | i :: is, x :: xs, σ, r, vs, k, R, h, q => by
    unfold G.asgs at q
    cases h with
    | @val _ d v _ vs2 h1 h2 =>
      unfold G.asg at q
      have R1 := R.set (i := i) h1
      show ∃ r', Rel K J F (setAll (σ.set i (some v)) is vs2) H Z r' ∧ k r'
      refine Rel.asgs R1 (h2.step (F' := F) (fun _ e => e) fun a ha hs j es e => ?_) q
      by_cases ij : i = j
      · subst ij
        by_cases il : i < r.length
        · rw [rd_same il] at e; cases e
        · have := rd_ow_len e; rw [En.length_set] at this; exact absurd this il
      · rw [rd_ne ij] at e
        rw [List.getElem?_set_ne ij]
        exact hs j es e
    | @new _ ds a ws _ vs2 h1 h2 h3 h4 h5 h6 h7 h8 =>
      unfold G.asg at q
      have R1 := R.setOw (i := i) (v := .ref a) (ds := ds) ⟨a, ws, rfl, h1, h2, h3, h4, h5, h6, h7⟩
      show ∃ r', Rel K J F (setAll (σ.set i (some (.ref a))) is vs2) H Z r' ∧ k r'
      refine Rel.asgs R1 (h8.step (F' := F) (fun b hb => ?_) fun b hb hs j es e => ?_) q
      · have hb' : upd F.o a (.lst ws) b = none := hb
        by_cases q : b = a
        · subst q; rw [upd_same] at hb'; cases hb'
        · rwa [upd_ne q] at hb'
      · have hb' : upd F.o a (.lst ws) b = none := hb
        have ne : b ≠ a := by rintro rfl; rw [upd_same] at hb'; cases hb'
        by_cases ij : i = j
        · subst ij
          have il : i < σ.length := by have := rd_ow_len e; rw [En.length_set] at this; rw [R.len]; exact this
          rw [List.getElem?_set_self il]
          intro z
          cases z
          exact ne rfl
        · rw [rd_ne ij] at e
          rw [List.getElem?_set_ne ij]
          exact hs j es e
  | [], _ :: _, _, _, _, _, _, _, q => (show False from q).elim
  | _ :: _, [], _, _, _, _, _, _, q => (show False from q).elim
end
section
variable {cf : Cfg} {J : Jar} {XR : XRT} {C : Calls} {lv : Nat} {X : Cx} {S : Sc} {W : WX} (G : Good cf J XR C lv X S) (hC : CMono C)
def lRs (K : PySem.W.Frag) (J : Jar) (XR : XRT) (C : Calls) (W : WX) (c : Exs) : TA := fun σ H Q => ∃ F Z r Y, Rel K J F σ H Z r ∧ XC K J XR F σ Z W Y ∧
  rsW C c r (fun xs r' => ∀ vs H' Z', Same Z Z' → Rel K J F σ H' Z' r' → RsOk K J σ H' Z' r' F xs vs → Q vs H') Y
include hC
theorem use_Rs {K : PySem.W.Frag} {F : Fm} {σ : L2.St} {H Z : Hp} {r : En} {Y : XW} {c : Exs} {Q : List V → Hp → Prop} {k : List Rz → En → Prop} (R : Rel K J F σ H Z r) (hx : XC K J XR F σ Z W Y) (h : rsW C c r k Y)
    (hk : ∀ b r1, k b r1 → ∀ vs H1 Z1, Same Z Z1 → Rel K J F σ H1 Z1 r1 → RsOk K J σ H1 Z1 r1 F b vs → Q vs H1) : lRs K J XR C W c σ H Q :=
  ⟨F, Z, r, Y, R, hx, rsW_mono hC c hk (fun _ _ q => q) h⟩
theorem r_nil : PA X [] (lRs X.K J XR C W .nil) := by
  refine pa_nil.imp fun pins s σ H Q I ⟨F, Z, r, Y, R, hx, h⟩ => ?_
  unfold rsW at h
  exact h [] H Z (.refl _) R .nil
theorem r_cons {a : Ex} {as : Exs} {e : Expr} {es : List Expr} (hn : notStar e = true) (ha : PE X e (lE X.K J XR C W a)) (hr : PA X es (lRs X.K J XR C W as)) : PA X (e :: es) (lRs X.K J XR C W (.cons a as)) := by
  refine (pa_cons ha hr (star_of hn)).imp fun pins s σ H Q I ⟨F, Z, r, Y, R, hx, h⟩ => ?_
  unfold rsW at h
  refine use_E hC R hx h fun x r1 h1 v H1 Z1 s1 R1 p1 => ?_
  have vcase : ∀ {d : D} {r2 : En} {Z2 : Hp}, Same Z1 Z2 → Rel X.K J F σ H1 Z2 r2 → Rep X.K J Z2 v d → rsW C as r2 (fun xs r3 => ∀ vs H' Z', Same Z Z' → Rel X.K J F σ H' Z' r3 → RsOk X.K J σ H' Z' r3 F (.val d :: xs) vs → Q vs H') Y →
      lRs X.K J XR C W as σ H1 fun zs H2 => Q (v :: zs) H2 := fun s2 R2 hd q => by
    refine use_Rs hC R2 ((hx.mono s1).mono s2) q fun xs r3 h3 zs H3 Z3 s3 R3 hz => ?_
    exact h3 _ H3 Z3 ((s1.trans s2).trans s3) R3 (.val (hd.mono s3) hz)
  cases x with
  | val d => exact vcase (.refl _) R1 p1 h1
  | new ds =>
    obtain ⟨a, ws, rfl, e1, e2, e3, e4, e5, e6, e7⟩ := p1
    refine use_Rs hC (R1.guard e1 e4 e7) (fun e r3 y H' Z' cls dd s2 R2 xr => ?_) h1 fun xs r3 h3 zs H3 Z3 s3 R3 hz => ?_
    · exact hx e r3 y H' Z' cls dd (s1.trans s2) (R2.unguard e5 e6 R1.nog).1 xr
    · obtain ⟨R4, f1, f2, f3⟩ := R3.unguard e5 e6 R1.nog
      exact h3 _ H3 Z3 (s1.trans s3) R4 (.new f1 e2 (e3.mono s3) f2 e5 e6 f3 hz)
  | sl i =>
    have h1' : frz r1 (.sl i) fun d r2 => rsW C as r2 (fun xs r3 => ∀ vs H' Z', Same Z Z' → Rel X.K J F σ H' Z' r3 → RsOk X.K J σ H' Z' r3 F (.val d :: xs) vs → Q vs H') Y := h1
    obtain ⟨d, r2, Z2, s2, R2, hd, q⟩ := R1.frz p1 h1'
    exact vcase s2 R2 hd q
theorem snd_Rs : ∀ (c : Exs) {X : Cx} {S : Sc} {W : WX} (G : Good cf J XR C lv X S) (tk : Takes X W) {e : List Expr}, chkEs cf X.N S c e = true → PA X e (lRs X.K J XR C W c)
  | .nil, X, S, W, G, tk, [], h => r_nil hC
  | .cons a as, X, S, W, G, tk, e :: es, h => by
    unfold chkEs at h
    exact r_cons hC (and2 h).1 (snd_E hC a G tk (and2 (and2 h).2).1).1 (snd_Rs as G tk (and2 (and2 h).2).2)
  | .nil, X, S, W, G, tk, _ :: _, h => by unfold chkEs at h; cases h
  | .cons _ _, X, S, W, G, tk, [], h => by unfold chkEs at h; cases h
end

/-! ### what a statement leaves -/
structure EndsOk (K : PySem.W.Frag) (J : Jar) (XR : XRT) (F : Fm) (D : Ends) (Z : Hp) (W : WX) (k : Ks) : Prop where
  nx : ∀ r, k.nx r → ∀ σ H' Z', Same Z Z' → Rel K J F σ H' Z' r → D.nx σ H'
  rt : ∀ d r, k.rt d r → ∀ v σ H' Z', Same Z Z' → Rel K J F σ H' Z' r → Rep K J Z' v d → D.rt v H'
  bk : ∀ r, k.bk r → ∀ σ H' Z', Same Z Z' → Rel K J F σ H' Z' r → D.bk σ H'
  ct : ∀ r, k.ct r → ∀ σ H' Z', Same Z Z' → Rel K J F σ H' Z' r → D.ct σ H'
  ex : ∀ e r, k.ex e r → ∀ σ H' Z' cls dd, Same Z Z' → Rel K J F σ H' Z' r → XR e H' Z' cls dd → W cls dd σ H'
theorem EndsOk.mono {K : PySem.W.Frag} {J : Jar} {XR : XRT} {F : Fm} {D : Ends} {Z Z' : Hp} {W : WX} {k : Ks} (h : EndsOk K J XR F D Z W k) (s : Same Z Z') : EndsOk K J XR F D Z' W k :=
  ⟨fun r q σ H' Z2 s2 => h.nx r q σ H' Z2 (s.trans s2), fun d r q v σ H' Z2 s2 => h.rt d r q v σ H' Z2 (s.trans s2), fun r q σ H' Z2 s2 => h.bk r q σ H' Z2 (s.trans s2), fun r q σ H' Z2 s2 => h.ct r q σ H' Z2 (s.trans s2), fun e r q σ H' Z2 cls dd s2 => h.ex e r q σ H' Z2 cls dd (s.trans s2)⟩
theorem EndsOk.xc {K : PySem.W.Frag} {J : Jar} {XR : XRT} {F : Fm} {D : Ends} {Z : Hp} {W : WX} {k : Ks} (h : EndsOk K J XR F D Z W k) {σ : L2.St} : XC K J XR F σ Z W k.ex := fun e r q H' Z' cls dd s R x => h.ex e r q σ H' Z' cls dd s R x
def lS (K : PySem.W.Frag) (J : Jar) (XR : XRT) (C : Calls) (T : Nat → Nat → Bool) (W : WX) (c : St) : TS := fun D σ H => ∃ F Z r k, Rel K J F σ H Z r ∧ EndsOk K J XR F D Z W k ∧ stW C T c r k
def lSs (K : PySem.W.Frag) (J : Jar) (XR : XRT) (C : Calls) (T : Nat → Nat → Bool) (W : WX) (c : Sts) : TS := fun D σ H => ∃ F Z r k, Rel K J F σ H Z r ∧ EndsOk K J XR F D Z W k ∧ stsW C T c r k
theorem _root_.L2.PS.imp {X : Cx} {e : Stmt} {t t' : TS} (h : PS X e t) (hi : ∀ pins s D σ H, Inv X pins σ H s → t' D σ H → t D σ H) : PS X e t' := ⟨fun pins s σ H D I q => h.run pins s σ H D I (hi pins s D σ H I q)⟩
theorem _root_.L2.PSs.imp {X : Cx} {e : List Stmt} {t t' : TS} (h : PSs X e t) (hi : ∀ pins s D σ H, Inv X pins σ H s → t' D σ H → t D σ H) : PSs X e t' := ⟨fun pins s σ H D I q => h.run pins s σ H D I (hi pins s D σ H I q)⟩
section
variable {cf : Cfg} {J : Jar} {XR : XRT} {C : Calls} {lv : Nat} {X : Cx} {S : Sc} {W : WX} {T : Nat → Nat → Bool} (G : Good cf J XR C lv X S) (hC : CMono C)
include hC
theorem c_nil : PSs X [] (lSs X.K J XR C T W .nil) := by
  refine pss_nil.imp fun pins s D σ H I ⟨F, Z, r, k, R, e, h⟩ => ?_
  unfold stsW at h
  exact e.nx r h σ H Z (.refl _) R
theorem c_cons {a : St} {as : Sts} {e : Stmt} {es : List Stmt} (ha : PS X e (lS X.K J XR C T W a)) (hr : PSs X es (lSs X.K J XR C T W as)) : PSs X (e :: es) (lSs X.K J XR C T W (.cons a as)) := by
  refine (pss_cons ha hr).imp fun pins s D σ H I ⟨F, Z, r, k, R, e, h⟩ => ?_
  unfold stsW at h
  refine ⟨F, Z, r, { k with nx := fun r1 => stsW C T as r1 k }, R, ⟨fun r1 h1 σ1 H1 Z1 s1 R1 => ?_, e.rt, e.bk, e.ct, e.ex⟩, h⟩
  exact ⟨F, Z1, r1, k, R1, e.mono s1, h1⟩
theorem c_asg {i : Nat} {e : Ex} {te : TE} {D : Ends} {σ : L2.St} {H : Hp} (h : lS X.K J XR C T W (.set i e) D σ H) : lE X.K J XR C W e σ H fun x H1 => gName i x σ H1 D.nx := by
  obtain ⟨F, Z, r, k, R, e, h⟩ := h
  unfold stW at h
  refine use_E hC R e.xc h fun x r1 h1 v H1 Z1 s1 R1 p1 => ?_
  obtain ⟨r2, Z2, s2, R2, h2⟩ := R1.asg p1 h1
  exact e.nx r2 h2 _ H1 Z2 (s1.trans s2) R2
include G
theorem c_set {i : Nat} {e : Ex} {x : Str} {ee : Expr} {p pos : Pos} (h1 : X.N[i]? = some x) (h2 : S.st x = true) (ha : PE X ee (lE X.K J XR C W e)) (hs : swapsWith ee (some (.Name x p)) pos.line X.env = pure false) : PS X (.Assign [.Name x p] ee pos) (lS X.K J XR C T W (.set i e)) := by
  obtain ⟨h3, h4⟩ := G.st x h2
  exact (ps_set G.nd h1 h3 ha hs h4).imp fun pins s D σ H I q => c_asg (te := lE X.K J XR C W e) hC q
omit G
theorem c_ret {e : Ex} {ee : Expr} {pos : Pos} (ha : PE X ee (lE X.K J XR C W e)) : PS X (.Return (some ee) pos) (lS X.K J XR C T W (.ret e)) := by
  refine (ps_ret ha).imp fun pins s D σ H I ⟨F, Z, r, k, R, e, h⟩ => ?_
  unfold stW at h
  refine use_E hC R e.xc h fun x r1 h1 v H1 Z1 s1 R1 p1 => ?_
  obtain ⟨d, r2, Z2, s2, R2, hd, h2⟩ := R1.frz p1 h1
  exact e.rt d r2 h2 v σ H1 Z2 (s1.trans s2) R2 hd
omit hC in
theorem c_retN {pos : Pos} : PS X (.Return none pos) (lS X.K J XR C T W .retN) := by
  refine ps_retN.imp fun pins s D σ H I ⟨F, Z, r, k, R, e, h⟩ => ?_
  unfold stW at h
  exact e.rt _ r h _ σ H Z (.refl _) R .non
theorem c_drop {e : Ex} {ee : Expr} {pos : Pos} (ha : PE X ee (lE X.K J XR C W e)) (hs : swapsWith ee none pos.line X.env = pure false) : PS X (.Expr ee pos) (lS X.K J XR C T W (.drop e)) := by
  refine (ps_expr ha hs).imp fun pins s D σ H I ⟨F, Z, r, k, R, e, h⟩ => ?_
  unfold stW at h
  exact use_E hC R e.xc h fun x r1 h1 v H1 Z1 s1 R1 p1 => e.nx r1 h1 σ H1 Z1 s1 R1
theorem c_if {t : Ts} {a b : Sts} {et : Expr} {ea eb : List Stmt} {pos : Pos} (ht : PT X et (lT X.K J XR C W t)) (ha : PSs X ea (lSs X.K J XR C T W a)) (hb : PSs X eb (lSs X.K J XR C T W b)) : PS X (.If et ea eb pos) (lS X.K J XR C T W (.ifs t a b)) := by
  refine (ps_if ht ha hb).imp fun pins s D σ H I ⟨F, Z, r, k, R, e, h⟩ => ?_
  unfold stW at h
  refine use_T hC R e.xc h fun c r1 h1 H1 Z1 s1 R1 => ?_
  split at h1
  · rename_i hc
    rw [if_pos hc]
    exact ⟨F, Z1, r1, k, R1, e.mono s1, h1⟩
  · rename_i hc
    rw [if_neg hc]
    exact ⟨F, Z1, r1, k, R1, e.mono s1, h1⟩
theorem c_while {t : Ts} {b : Sts} {et : Expr} {eb : List Stmt} {pos : Pos} (po : PassesOwn (model X.prog X.w) X.A X.env X.xe) (ht : PT X et (lT X.K J XR C W t)) (hb : PSs X eb (lSs X.K J XR C T W b)) : PS X (.While et eb [] pos) (lS X.K J XR C T W (.whl t b)) := by
  refine (ps_while po ht hb).imp fun pins s D σ H I ⟨F, Z, r, k, R, e, h⟩ => ?_
  unfold stW at h
  obtain ⟨Wc, ⟨m0, w0⟩, turn⟩ := h
  refine ⟨fun m σ H => ∃ Z' r', Same Z Z' ∧ Rel X.K J F σ H Z' r' ∧ Wc m r', ⟨m0, Z, r, .refl _, R, w0⟩, fun m σ H ⟨Z1, r1, s1, R1, w1⟩ => ?_⟩
  refine use_T hC R1 (e.mono s1).xc (turn m r1 w1) fun c r2 h2 H2 Z2 s2 R2 => ?_
  split at h2
  · rename_i hc
    rw [if_pos hc]
    refine ⟨fun σ' H' => ∃ m', m' < m ∧ ∃ Z' r', Same Z Z' ∧ Rel X.K J F σ' H' Z' r' ∧ Wc m' r', fun σ' H' q => q, F, Z2, r2, { k with nx := fun r3 => ∃ m', m' < m ∧ Wc m' r3, ct := fun r3 => ∃ m', m' < m ∧ Wc m' r3, bk := k.nx }, R2, ?_, h2⟩
    have e2 := e.mono (s1.trans s2)
    exact ⟨fun r3 ⟨m', lt, w3⟩ σ3 H3 Z3 s3 R3 => ⟨m', lt, Z3, r3, (s1.trans s2).trans s3, R3, w3⟩, e2.rt, e2.nx, fun r3 ⟨m', lt, w3⟩ σ3 H3 Z3 s3 R3 => ⟨m', lt, Z3, r3, (s1.trans s2).trans s3, R3, w3⟩, e2.ex⟩
  · rename_i hc
    rw [if_neg hc]
    exact e.nx r2 h2 σ H2 Z2 (s1.trans s2) R2
theorem c_for {tg iter : Expr} {t : Tg} {w : It} {b : Sts} {eb : List Stmt} {pos : Pos} (po : PassesOwn (model X.prog X.w) X.A X.env X.xe) (hc : X.calm = true) (ns : notSet iter = true) (hi : PI X tg iter (lW X.K J XR C W w)) (hg : PG X tg (lG X.K J t)) (hb : PSs X eb (lSs X.K J XR C T W b)) :
    PS X (.For tg iter eb [] pos) (lS X.K J XR C T W (.fr t w b)) := by
  refine (ps_for po hc hi hg hb (by intro x; cases iter <;> first | rfl | cases ns)).imp fun pins s D σ H I ⟨F, Z, r, k, R, e, h⟩ => ?_
  unfold stW at h
  refine use_W hC R e.xc h fun ds r1 h1 Jt H1 Z1 s1 R1 wk hl => ?_
  refine ⟨fun i m σ H => ∃ Z' r', Same Z1 Z' ∧ Rel X.K J F σ H Z' r' ∧ i + m = ds.length ∧ forL (fun d r k2 => tgW t d r fun r2 => stsW C T b r2 { k with nx := k2, ct := k2, bk := k.nx }) k.nx (ds.drop i) r', ⟨ds.length, Z1, r1, .refl _, R1, by omega, h1⟩, fun i m σ2 H2 ⟨Z2, r2, s2, R2, em, f2⟩ => ?_⟩
  by_cases hi : i < ds.length
  · rw [List.drop_eq_getElem_cons hi] at f2
    unfold forL at f2
    obtain ⟨go, yl⟩ := (wk i H2 (s2.trans R2.sub)).1 _ (List.getElem?_eq_getElem hi)
    refine .inr ⟨go, fun σ' H' => ∃ m', m' < m ∧ ∃ Z' r', Same Z1 Z' ∧ Rel X.K J F σ' H' Z' r' ∧ i + 1 + m' = ds.length ∧ forL (fun d r k2 => tgW t d r fun r2 => stsW C T b r2 { k with nx := k2, ct := k2, bk := k.nx }) k.nx (ds.drop (i + 1)) r', fun σ' H' q => q, fun x H3 y => ?_⟩
    have res := yl x H3 y
    have res' : Res X.K J H2 Z2 (.val ds[i]) x H3 := by
      rcases res with ⟨p1, p2⟩ | ⟨p, vs, es, p1, p2, p3, p4, p5, p6⟩
      · exact .inl ⟨p1, p2.mono s2⟩
      · exact .inr ⟨p, vs, es, p1, p2, p3, p4, p5.mono s2, p6⟩
    obtain ⟨Z3, s3, R3, hd⟩ := R2.res res'
    refine ⟨F, Z3, r2, ds[i], R3, hd, tgW_mono t (fun r4 q4 σ4 R4 _ => ?_) f2⟩
    have sA := s2.trans s3
    have e4 := e.mono (s1.trans sA)
    have nxt : ∀ r5, forL (fun d r k2 => tgW t d r fun r2 => stsW C T b r2 { k with nx := k2, ct := k2, bk := k.nx }) k.nx (ds.drop (i + 1)) r5 → ∀ σ5 H5 Z5, Same Z3 Z5 → Rel X.K J F σ5 H5 Z5 r5 →
        ∃ m', m' < m ∧ ∃ Z' r', Same Z1 Z' ∧ Rel X.K J F σ5 H5 Z' r' ∧ i + 1 + m' = ds.length ∧ forL (fun d r k2 => tgW t d r fun r2 => stsW C T b r2 { k with nx := k2, ct := k2, bk := k.nx }) k.nx (ds.drop (i + 1)) r' :=
      fun r5 h5 σ5 H5 Z5 s5 R5 => ⟨m - 1, by omega, Z5, r5, sA.trans s5, R5, by omega, h5⟩
    exact ⟨F, Z3, r4, { k with nx := fun r5 => forL (fun d r k2 => tgW t d r fun r2 => stsW C T b r2 { k with nx := k2, ct := k2, bk := k.nx }) k.nx (ds.drop (i + 1)) r5, ct := fun r5 => forL (fun d r k2 => tgW t d r fun r2 => stsW C T b r2 { k with nx := k2, ct := k2, bk := k.nx }) k.nx (ds.drop (i + 1)) r5, bk := k.nx }, R4, ⟨nxt, e4.rt, e4.nx, nxt, e4.ex⟩, q4⟩
  · rw [List.drop_eq_nil_of_le (by omega)] at f2
    unfold forL at f2
    exact .inl ⟨(wk i H2 (s2.trans R2.sub)).2 (by omega), e.nx r2 f2 σ2 H2 Z2 (s1.trans s2) R2⟩
theorem c_unp {t : Tg} {e : Ex} {tg ee : Expr} {pos : Pos} (ha : PE X ee (lE X.K J XR C W e)) (hg : PG X tg (lG X.K J t)) (hs : swapsWithSole [tg] ee pos.line X.env = pure false) (hw : swappedStores [tg] ee X.env = pure none) (h1 : (assignEach [tg] X.env).map (·.2) = [assign tg X.env]) :
    PS X (.Assign [tg] ee pos) (lS X.K J XR C T W (.unp t e)) := by
  refine (ps_asg ha hg hs hw h1).imp fun pins s D σ H I ⟨F, Z, r, k, R, e, h⟩ => ?_
  unfold stW at h
  refine use_E hC R e.xc h fun x r1 h1 v H1 Z1 s1 R1 p1 => ?_
  obtain ⟨d, r2, Z2, s2, R2, hd, h2⟩ := R1.frz p1 h1
  exact ⟨F, Z2, r2, d, R2, hd, tgW_mono t (fun r3 q3 σ3 R3 _ => e.nx r3 q3 σ3 H1 Z2 (s1.trans s2) R3) h2⟩
omit hC in
theorem c_pass {pos : Pos} : PS X (.Pass pos) (lS X.K J XR C T W .pass) := ps_pass.imp fun pins s D σ H I ⟨F, Z, r, k, R, e, h⟩ => by
  unfold stW at h
  exact e.nx r h σ H Z (.refl _) R
omit hC in
theorem c_brk {pos : Pos} : PS X (.Break pos) (lS X.K J XR C T W .brk) := ps_break.imp fun pins s D σ H I ⟨F, Z, r, k, R, e, h⟩ => by
  unfold stW at h
  exact e.bk r h σ H Z (.refl _) R
omit hC in
theorem c_cont {pos : Pos} : PS X (.Continue pos) (lS X.K J XR C T W .cont) := ps_continue.imp fun pins s D σ H I ⟨F, Z, r, k, R, e, h⟩ => by
  unfold stW at h
  exact e.ct r h σ H Z (.refl _) R
end
end G

set_option linter.all false
set_option maxRecDepth 100000
set_option Elab.async false
/-! Sm: further statements; the checker. -/
namespace G
open PySem PySem.Spec PyProof.Rows L2
theorem isOw_of {s : Slot} (h : isOw s = true) : ∃ ds, s = .ow ds := by cases s <;> first | exact ⟨_, rfl⟩ | cases h
section
variable {cf : Cfg} {J : Jar} {XR : XRT} {C : Calls} {lv : Nat} {X : Cx} {S : Sc} {W : WX} {T : Nat → Nat → Bool} (G : Good cf J XR C lv X S) (hC : CMono C)
include G hC
theorem c_app {i : Nat} {e : Ex} {x : Str} {ee : Expr} {p ap cp pos : Pos} (h1 : X.N[i]? = some x) (h2 : visB S x = true) (h3 : okName x = true) (hl : (ap.endLine == cp.line) = true) (hn : notStar ee = true) (ha : PE X ee (lE X.K J XR C W e)) :
    PS X (.Expr (.Call (.Attribute (.Name x p) "append" ap) [ee] [] cp) pos) (lS X.K J XR C T W (.app i e)) := by
  obtain ⟨d1, d2⟩ := okName_of G h3
  refine (ps_expr (pe_bm PySem.F.plainAttrs_list PySem.F.slot_list_append PySem.F.type_list_append mt_append (pe_var h1 (G.vis h2) d1 d2) (pa_cons ha pa_nil (star_of hn)) rfl (by rw [star_of hn]; rfl) hl (star_of hn) rfl)).imp fun pins s D σ H I ⟨F, Z, r, k, R, e, h⟩ => ?_
  unfold stW at h
  obtain ⟨ho, h⟩ := h
  obtain ⟨ds0, ho⟩ := isOw_of ho
  obtain ⟨a, vs, e1, e3, e4, e5, e6⟩ := R.ow i ds0 ho
  refine ⟨_, e1, .inl ⟨rfl, _, .of e3⟩, use_E hC R e.xc h fun x1 r1 h1 v H1 Z1 s1 R1 p1 => ?_⟩
  obtain ⟨d, r2, Z2, s2, R2, hd, h2⟩ := R1.frz p1 h1
  split at h2
  · rename_i ds eo
    obtain ⟨a2, ws, f1, f3, f4, f5, f6⟩ := R2.ow i ds eo
    rw [e1] at f1
    cases f1
    have hlt : ws.length < sizeLine := by rw [f5.length, szl]; exact h2.1
    refine ⟨a, ws, v, rfl, rfl, f3, hlt, ?_⟩
    exact e.nx _ h2.2 σ _ Z2 (s1.trans s2) (R2.mut eo e1 (by rw [List.length_append]; simp; omega) (f5.append (.cons hd .nil)))
  · exact h2.elim
theorem c_ext {i : Nat} {e : Ex} {x : Str} {ee : Expr} {p ap cp pos : Pos} (h1 : X.N[i]? = some x) (h2 : visB S x = true) (h3 : okName x = true) (hl : (ap.endLine == cp.line) = true) (hn : notStar ee = true) (ha : PE X ee (lE X.K J XR C W e)) :
    PS X (.Expr (.Call (.Attribute (.Name x p) "extend" ap) [ee] [] cp) pos) (lS X.K J XR C T W (.ext i e)) := by
  obtain ⟨d1, d2⟩ := okName_of G h3
  refine (ps_expr (pe_bm PySem.F.plainAttrs_list PySem.F.slot_list_extend PySem.F.type_list_extend mt_extend (pe_var h1 (G.vis h2) d1 d2) (pa_cons ha pa_nil (star_of hn)) rfl (by rw [star_of hn]; rfl) hl (star_of hn) rfl)).imp fun pins s D σ H I ⟨F, Z, r, k, R, e, h⟩ => ?_
  unfold stW at h
  obtain ⟨ho, h⟩ := h
  obtain ⟨ds0, ho⟩ := isOw_of ho
  obtain ⟨a, vs, e1, e3, e4, e5, e6⟩ := R.ow i ds0 ho
  refine ⟨_, e1, .inl ⟨rfl, _, .of e3⟩, use_E hC R e.xc h fun x1 r1 h1 v H1 Z1 s1 R1 p1 => ?_⟩
  obtain ⟨d, r2, Z2, s2, R2, hd, h2⟩ := R1.frz p1 h1
  split at h2
  · rename_i xs
    obtain ⟨b, zs, rfl, g1, g2, g3, g4⟩ := rep_lstD hC R2 hd
    split at h2
    · rename_i ds eo
      obtain ⟨a2, ws, f1, f3, f4, f5, f6⟩ := R2.ow i ds eo
      rw [e1] at f1
      cases f1
      have hle : ws.length + zs.length ≤ sizeLine := by rw [f5.length, g3.length, szl]; exact h2.1
      refine ⟨a, b, ws, zs, rfl, rfl, f3, R2.sub _ _ g2, hle, ?_⟩
      exact e.nx _ h2.2 σ _ Z2 (s1.trans s2) (R2.mut eo e1 (by rw [List.length_append]; exact hle) (f5.append g3))
    · exact h2.elim
  · exact h2.elim
theorem c_ins {i : Nat} {a e : Ex} {x : Str} {ea ee : Expr} {p ap cp pos : Pos} (h1 : X.N[i]? = some x) (h2 : visB S x = true) (h3 : okName x = true) (hl : (ap.endLine == cp.line) = true) (hn0 : notStar ea = true) (hn : notStar ee = true) (ha0 : PE X ea (lE X.K J XR C W a)) (ha : PE X ee (lE X.K J XR C W e)) :
    PS X (.Expr (.Call (.Attribute (.Name x p) "insert" ap) [ea, ee] [] cp) pos) (lS X.K J XR C T W (.ins i a e)) := by
  obtain ⟨d1, d2⟩ := okName_of G h3
  refine (ps_expr (pe_bm PySem.F.plainAttrs_list PySem.F.slot_list_insert PySem.F.type_list_insert mt_insert (pe_var h1 (G.vis h2) d1 d2) (pa_cons ha0 (pa_cons ha pa_nil (star_of hn)) (star_of hn0)) rfl (by rw [star_of hn0, star_of hn]; rfl) hl (star_of hn0) (by rw [star_of hn]; rfl))).imp fun pins s D σ H I ⟨F, Z, r, k, R, e, h⟩ => ?_
  unfold stW at h
  obtain ⟨ho, h⟩ := h
  obtain ⟨ds0, ho⟩ := isOw_of ho
  obtain ⟨a, vs, e1, e3, e4, e5, e6⟩ := R.ow i ds0 ho
  refine ⟨_, e1, .inl ⟨rfl, _, .of e3⟩, use_pin hC R e.xc h fun x0 r0 h0 v0 H0 Z0 s0 R0 p0 => ?_⟩
  obtain ⟨d0, hd0, h0⟩ := R0.der p0 h0
  refine use_E hC R0 (e.mono s0).xc h0 fun x1 r1 h1 v H1 Z1 s1 R1 p1 => ?_
  obtain ⟨d, r2, Z2, s2, R2, hd, h2⟩ := R1.frz p1 h1
  split at h2
  · rename_i j
    cases rep_int hd0
    split at h2
    · rename_i ds eo
      obtain ⟨a2, ws, f1, f3, f4, f5, f6⟩ := R2.ow i ds eo
      rw [e1] at f1
      cases f1
      obtain ⟨⟨g1, g2, g3⟩, g4⟩ := h2
      have hlt : ws.length < sizeLine := by rw [f5.length, szl]; exact g3
      have hj : j < 2 ^ 63 := by unfold SZ at g3; omega
      refine ⟨a, ws, j, v, rfl, rfl, f3, hlt, g1, hj, ?_⟩
      refine e.nx _ g4 σ _ Z2 ((s0.trans s1).trans s2) (R2.mut eo e1 ?_ ?_)
      · simp only [List.length_append, List.length_cons, List.length_nil, List.length_take, List.length_drop]; omega
      · rw [List.append_assoc]
        exact (f5.take _).append (.cons hd (f5.drop _))
    · exact h2.elim
  · exact h2.elim
theorem c_put {i : Nat} {a e : Ex} {x : Str} {ea ee : Expr} {p tp pos : Pos} (h1 : X.N[i]? = some x) (h2 : visB S x = true) (h3 : okName x = true) (hs : isSlice ea = false) (hc : noComp ee = true) (ha : PE X ea (lE X.K J XR C W a)) (he : PE X ee (lE X.K J XR C W e)) :
    PS X (.Assign [.Subscript (.Name x p) ea tp] ee pos) (lS X.K J XR C T W (.put i a e)) := by
  obtain ⟨d1, d2⟩ := okName_of G h3
  refine (ps_asg he (pg_sub (pe_var h1 (G.vis h2) d1 d2) ha set_list (by intro v; cases ea <;> first | rfl | cases hs)) (by cases ee <;> first | rfl | cases hc) (by cases ee <;> rfl)).imp fun pins s D σ H I ⟨F, Z, r, k, R, e, h⟩ => ?_
  unfold stW at h
  obtain ⟨ho, h⟩ := h
  obtain ⟨ds0, ho⟩ := isOw_of ho
  obtain ⟨b, vs, e1, e3, e4, e5, e6⟩ := R.ow i ds0 ho
  refine use_E hC R e.xc h fun y r1 h1 v H1 Z1 s1 R1 p1 => ?_
  obtain ⟨d, r2, Z2, s2, R2, hd, h2⟩ := R1.frz p1 h1
  refine ⟨_, e1, use_pin hC R2 (e.mono (s1.trans s2)).xc h2 fun x3 r3 h3 w H3 Z3 s3 R3 p3 => ?_⟩
  obtain ⟨d3, hd3, h3⟩ := R3.der p3 h3
  split at h3
  · rename_i j
    cases rep_int hd3
    split at h3
    · rename_i ds eo
      obtain ⟨a2, ws, f1, f3, f4, f5, f6⟩ := R3.ow i ds eo
      rw [e1] at f1
      cases f1
      split at h3
      · rename_i m em
        refine ⟨b, ws, j, m, rfl, rfl, f3, by rw [f5.length]; exact em, ?_⟩
        exact e.nx _ h3 σ _ Z3 ((s1.trans s2).trans s3) (R3.mut eo e1 (by rw [List.length_set]; exact f4) (f5.set m (hd.mono s3)))
      · exact h3.elim
    · exact h3.elim
  · exact h3.elim
end
end G

set_option linter.all false
set_option maxRecDepth 100000
set_option maxHeartbeats 1000000
set_option Elab.async false
/-! Xb: an own error whose __init__ says super().__init__("..") and keeps one argument. -/
namespace G
open PySem PySem.Spec PyProof.Rows L2 PySem.W PySem.HandSPX
abbrev veB : List Value := [.type "ValueError", .type "Exception", .type "BaseException", .type "object"]
/-- def __init__(self, P): super().__init__("T"); self.F = P -/
def chkInit (ps : Arguments) (b : List Stmt) (sc : Scope) (fld : Str) : Bool :=
  match ps.posonlyargs, ps.args, ps.kwonlyargs, ps.vararg, ps.kwarg, b with
  | [], [x, y], [], none, none, [.Expr (.Call (.Attribute (.Call (.Name su _) [] [] _) ini ip) [.Constant (.str tx) _ _] [] cp) _, .Assign [.Attribute (.Name s2 _) f _] (.Name p2 _) _] =>
    (ip.endLine == cp.line) && (decide (su = ("super" : Str)) && (decide (ini = ("__init__" : Str)) && (decide (s2 = x.arg) && (decide (p2 = y.arg) && (decide (f = fld) && (decide (x.arg ≠ y.arg) && ((match sc.kind with | .function => true | _ => false) && (!sc.isCoroutine && (!sc.isGenerator &&
      (decide (sc.names.lookup x.arg = some .local) && (decide (sc.names.lookup y.arg = some .local) && (decide (sc.names.lookup ("super" : Str) = some .globalImplicit) && (decide (sc.names.lookup ("__class__" : Str) = some .free) && (sc.names.all (fun q => match q.2 with | .cell => false | _ => true) &&
      (!(x.arg == ("__debug__" : Str)) && !(y.arg == ("__debug__" : Str)))))))))))))))))
  | _, _, _, _, _, _ => false
/-- what the written part says of such a class, at C, and of its __init__, at fI -/
structure FldC (P : Program) (K : Frag) (fld : Str) (C : Addr) : Prop where
  ex : ∃ (fI cc cda : Addr) (nm q : Str) (N : Addr) (bs bm : List Value) (sn : List Str) (sub : List Value) (ab : Bool) (col : Option Bool) (dd : Option Addr) (k0 k1 k2 k3 k5 : Option Value) (oc doc pm ct ccl cl : Value) (od an cdd cld : Option Addr) (osl ccs csl : Array (Option Value)) (qual : Str) (ps : Arguments) (b : List Stmt) (sc : Scope) (vs : Array Value) (file : Str) (tf : Tok),
    K.lookup C = some (excClassObj nm q C N bs bm true sn sub ab col dd k0 k1 k2 k3 k5 "ValueError.__new__") ∧ refsVE bm = true ∧
    findIn K (.ref C) "__setattr__" = some (some (.builtin "object.__setattr__")) ∧ findIn K (.ref C) fld = some none ∧ findIn K (.ref C) "__init__" = some (some (.ref fI)) ∧ typeIn K (.ref fI) = some (.type "function") ∧
    ks_superIn K C C "__init__" = some (some (.builtin "ValueError.__init__")) ∧ subIn K (.ref C) (.type "ValueError") = some true ∧ mroIn K C (.ref C) = some true ∧ nsIn K cStatics "thirdparty.any" = some none ∧ nsIn K mainGlobals "super" = some none ∧
    K.lookup cc = some ⟨cl, cld, .cell (some (.ref C)), csl⟩ ∧ K.lookup cda = some ⟨ccl, cdd, .fields vs, ccs⟩ ∧ vs[2]? = some (.str file tf) ∧ ((P.main.file : Str) == file) = true ∧ (P.main.scope.names.lookup ("super" : Str)).isSome = false ∧
    K.lookup fI = some ⟨oc, od, .func (ksFn "__init__" qual ps b sc .none .none doc pm an (.ref cda) ct cc), osl⟩ ∧ codeIn K (.ref cda) qual = true ∧ chkInit ps b sc fld = true
/-- what __init__ leaves of a fresh error at x -/
structure FldI (h h' : Heap) (x C dx t1 : Addr) (fld : Str) (v : Value) : Prop where
  keep : ∀ b o, b ≠ x → h.get? b = some o → h'.get? b = some o
  obj : h'.get? x = some { cls := .ref C, dict := some dx, data := .fields #[.ref t1, .none, .none, .none, .bool false, .none] }
  dbig : h.objs.size ≤ dx
  dne : dx ≠ x
  ns : h'.Ns1 dx (fun y => if y = fld then some v else none)
/-- a made one -/
structure FldM (h h' : Heap) (e C d : Addr) (fld : Str) (v : Value) : Prop where
  keep : ∀ b o, h.get? b = some o → h'.get? b = some o
  new : h.objs.size ≤ e
  obj : ∃ oe vs, h'.get? e = some oe ∧ oe.cls = .ref C ∧ oe.dict = some d ∧ oe.data = .fields vs ∧ vs[1]? = some .none
  dbig : h.objs.size ≤ d
  dne : d ≠ e
  ns : h'.Ns1 d (fun y => if y = fld then some v else none)
section
variable {prog : Program} {w : World} {A : Around} {E : Value → Shared → Prop}
/-- the built-in __init__, bound, is called -/
theorem mw_call {hp : Heap} {g : Array GenState} {dr : Drawn} {tk : Nat} {os : OsState} {nm q : Str} {C N : Addr} {bs bm : List Value} {hd : Bool} {sn : List Str} {sub : List Value} {ab : Bool} {col : Option Bool} {dd : Option Addr} {k0 k1 k2 k3 k5 : Option Value} {mw x t0 : Addr} {as : List Value} {Q : Value → Shared → Prop}
    (cC : hp.get? C = some (excClassObj nm q C N bs bm hd sn sub ab col dd k0 k1 k2 k3 k5 "ValueError.__new__")) (cx : hp.get? x = some (HandSPX.excO C t0)) (cm : hp.get? mw = some (kxs_mw "ValueError.__init__" x)) (ln : as.length ≤ sizeLine)
    (fin : ∀ h' t1, (∀ b o, b ≠ x → hp.get? b = some o → h'.get? b = some o) → h'.get? x = some (HandSPX.excO C t1) → Q .none ⟨h', g, dr, tk, os⟩) : wpAny (model prog w) A (call (.ref mw) as) Q E ⟨hp, g, dr, tk, os⟩ := by
  have m1 : (Value.type "method-wrapper" == Value.type "method" || Value.type "method-wrapper" == Value.type "builtin_function_or_method" || Value.type "method-wrapper" == Value.type "method-wrapper") = true := by decide
  refine wpAny_call (codeAny_of_tree ?_)
  show wpAny _ A.in1 (callAny (.ref mw) ⟨as, []⟩) _ _ _
  simp only [callAny]
  refine wpAny_bind (wpAny_load cm ?_)
  simp only [kxs_mw, m1, if_true]
  refine KFB.if_so (by decide) (wpAny_bind (check_bound_init F.excBase_ValueError.toExcCallFacts cC cx rfl (wpAny_bind (wpAny_pure (wpAny_pure ?_)))))
  exact ⟨plainId_quiet F.excBase_ValueError.init.plain _, codeAny_builtin F.excBase_ValueError.initEntry (exc_init_tree (cls := .ref C) (t0 := t0) (dv := none) (c2 := .none) (c3 := .none) (b4 := .bool false) cx ln fun h' k1 k2 _ => fin h' _ k1 k2)⟩
theorem notCls_exc {o : Obj} {vs : Array Value} (h : o.data = .fields vs) : ∀ c, o.data ≠ .cls c := fun c e => by rw [h] at e; cases e
theorem fld_init {K : Frag} {mg : Str → Option Value} {fld : Str} {C fI t0 x : Addr} {v : Value} {R : Result → Shared → Prop} {s : Shared} {mb : Str → Option Value} (hgn : s.heap.Ns mainGlobals mg) (hbn : s.heap.Ns builtinsNs mb) (hbb : ∀ y : Str, y ≠ "__name__" → mb y = bootBuiltins y)
    {cc cda : Addr} {nm q : Str} {N : Addr} {bs bm : List Value} {sn : List Str} {sub : List Value} {ab : Bool} {col : Option Bool} {dd : Option Addr} {k0 k1 k2 k3 k5 : Option Value} {oc doc pm ct ccl cl : Value} {od an cdd cld : Option Addr} {osl ccs csl : Array (Option Value)} {qual : Str} {ps : Arguments} {b : List Stmt} {sc : Scope} {vs : Array Value} {file : Str} {tf : Tok}
    (e1 : K.lookup C = some (excClassObj nm q C N bs bm true sn sub ab col dd k0 k1 k2 k3 k5 "ValueError.__new__")) (e2 : refsVE bm = true) (e3 : findIn K (.ref C) "__setattr__" = some (some (.builtin "object.__setattr__"))) (e4 : findIn K (.ref C) fld = some none)
    (e7 : ks_superIn K C C "__init__" = some (some (.builtin "ValueError.__init__"))) (e8 : subIn K (.ref C) (.type "ValueError") = some true) (e9 : mroIn K C (.ref C) = some true) (e10 : nsIn K cStatics "thirdparty.any" = some none) (e11 : nsIn K mainGlobals "super" = some none)
    (e12 : K.lookup cc = some ⟨cl, cld, .cell (some (.ref C)), csl⟩) (e13 : K.lookup cda = some ⟨ccl, cdd, .fields vs, ccs⟩) (e14 : vs[2]? = some (.str file tf)) (e15 : ((prog.main.file : Str) == file) = true) (e16 : (prog.main.scope.names.lookup ("super" : Str)).isSome = false)
    (e17 : K.lookup fI = some ⟨oc, od, .func (ksFn "__init__" qual ps b sc .none .none doc pm an (.ref cda) ct cc), osl⟩) (e18 : codeIn K (.ref cda) qual = true) (e19 : chkInit ps b sc fld = true)
    (KX : K.In s.heap) (lim : s.heap.NoLimit) (hx : s.heap.get? x = some (HandSPX.excO C t0)) (hnK : K.lookup x = none) (room : A.depth < recursionLimit)
    (fin : ∀ h' tk dx t1, FldI s.heap h' x C dx t1 fld v → R (.ok (.ret .none)) { s with heap := h', toks := tk }) :
    codeAny (model prog w) A (.call (.ref fI) ⟨[.ref x, v], []⟩) R s := by
  unfold chkInit at e19
  split at e19
  · rename_i x0 y0 su p9 p8 ini p7 tx tk p6 p5 p4 s2 p3 f p2 yv p1 p0 hq1 hq2 hq3 hq4 hq5
    obtain ⟨hline, r0⟩ := and2 e19
    obtain ⟨g1, t1⟩ := and2 r0
    obtain ⟨g2, t2⟩ := and2 t1
    obtain ⟨g3, t3⟩ := and2 t2
    obtain ⟨g4, t4⟩ := and2 t3
    obtain ⟨g5, t5⟩ := and2 t4
    obtain ⟨g6, t6⟩ := and2 t5
    obtain ⟨g7, t7⟩ := and2 t6
    obtain ⟨g8, t8⟩ := and2 t7
    obtain ⟨g9, t9⟩ := and2 t8
    obtain ⟨g10, t10⟩ := and2 t9
    obtain ⟨g11, t11⟩ := and2 t10
    obtain ⟨g12, t12⟩ := and2 t11
    obtain ⟨g13, t13⟩ := and2 t12
    obtain ⟨g14, t14⟩ := and2 t13
    obtain ⟨g15, g16⟩ := and2 t14
    cases of_decide_eq_true g1
    cases of_decide_eq_true g2
    cases of_decide_eq_true g3
    cases of_decide_eq_true g4
    cases of_decide_eq_true g5
    have nxy : x0.arg ≠ y0.arg := of_decide_eq_true g6
    have hk : sc.kind = .function := by split at g7 <;> first | assumption | cases g7
    have hco : sc.isCoroutine = false := by simpa using g8
    have hge : sc.isGenerator = false := by simpa using g9
    have lx : sc.names.lookup x0.arg = some .local := of_decide_eq_true g10
    have ly : sc.names.lookup y0.arg = some .local := of_decide_eq_true g11
    have ls : sc.names.lookup ("super" : Str) = some .globalImplicit := of_decide_eq_true g12
    have lc : sc.names.lookup ("__class__" : Str) = some .free := of_decide_eq_true g13
    have dx0 : (x0.arg == ("__debug__" : Str)) = false := by simpa using g15
    have dy0 : (y0.arg == ("__debug__" : Str)) = false := by simpa using g16
    have cl0 : clsIn K C = some { name := nm, bases := bs, mro := .ref C :: bm, ns := N, qualname := q, hasDict := true, slotNames := sn, subclasses := sub, abstract := ab, collection := col, hasDel := false } := by unfold clsIn; rw [e1] <;> rfl
    have e7' : alongIn K "__init__" (((Value.ref C :: bm).dropWhile (· != .ref C)).drop 1) = some (some (.builtin "ValueError.__init__")) := by
      unfold ks_superIn at e7
      rw [cl0] at e7
      exact e7
    have pl : Plain (ksFn "__init__" qual ps [.Expr (.Call (.Attribute (.Call (.Name "super" p9) [] [] p8) "__init__" p7) [.Constant (.str tx) tk p6] [] p5) p4, .Assign [.Attribute (.Name x0.arg p3) fld p2] (.Name y0.arg p1) p0] sc .none .none doc pm an (.ref cda) ct cc) [x0.arg, y0.arg] :=
      ⟨hq1, hq3, hq4, hq5, rfl, by show ps.args.map (·.arg) = _; rw [hq2]; rfl⟩
    have bd := kbind pl (us := [.ref x, v]) (ws := []) (ks := []) (by unfold kOk; simp [nxy]) rfl
    have mem : ∀ p ∈ [(x0.arg, Value.ref x), (y0.arg, v)], sc.names.lookup p.1 = some .local := fun p hp => by
      simp only [List.mem_cons, List.not_mem_nil, or_false] at hp
      rcases hp with rfl | rfl
      · exact lx
      · exact ly
    refine ks_codeAny_call_defAt (binds := [(x0.arg, .ref x), (y0.arg, v)]) room (KX _ _ e17) rfl lim (codeRec_of KX e18) rfl (BindsTo.of_eq bd) (fun q hq z => ?_) mem (fun h0 hns hk0 => ?_) hco hge hk
    · have := List.all_eq_true.mp g14 q hq
      rw [z] at this
      cases this
    have K0 : K.In h0 := KX.keeps hk0
    have mx : (fun u => List.lookup u ([(x0.arg, Value.ref x), (y0.arg, v)] : List (Str × Value)).reverse) x0.arg = some (.ref x) := by
      show List.lookup x0.arg [(y0.arg, v), (x0.arg, Value.ref x)] = _
      simp [List.lookup, beq_eq_false_iff_ne.mpr nxy]
    have my : (fun u => List.lookup u ([(x0.arg, Value.ref x), (y0.arg, v)] : List (Str × Value)).reverse) y0.arg = some v := by
      show List.lookup y0.arg [(y0.arg, v), (x0.arg, Value.ref x)] = _
      simp [List.lookup]
    have hx0 := hk0 _ _ hx
    have hC0 := K0 _ _ e1
    have ncx : ∀ c, (HandSPX.excO C t0).data ≠ .cls c := fun c z => by cases z
    have hnx : x ≠ C := fun z => by rw [z, hC0] at hx0; cases hx0
    generalize henv : callEnv (ksFn "__init__" qual ps [.Expr (.Call (.Attribute (.Call (.Name "super" p9) [] [] p8) "__init__" p7) [.Constant (.str tx) tk p6] [] p5) p4, .Assign [.Attribute (.Name x0.arg p3) fld p2] (.Name y0.arg p1) p0] sc .none .none doc pm an (.ref cda) ct cc) s.heap.objs.size fI = env
    have he : eval (.Call (.Attribute (.Call (.Name "super" p9) [] [] p8) "__init__" p7) [.Constant (.str tx) tk p6] [] p5) env = (do
        let ov ← attributeBase (.Call (.Name "super" p9) [] [] p8) "__init__" env (eval (.Call (.Name "super" p9) [] [] p8) env)
        standAt p7.atName
        let (f, first) ← holding [ov] (getMethod ov "__init__" (do return (← importBound (.Call (.Name "super" p9) [] [] p8) env).getD true))
        callWith p5 f first (backTo p5 (starEach [.Constant (.str tx) tk p6] env)) []) := by
      have e1 : ∀ ov, methodCall (.Call (.Name "super" p9) [] [] p8) "__init__" p7 p5 env ov 1 (backTo p5 (starEach [.Constant (.str tx) tk p6] env)) [] = (do
          let (f, first) ← holding [ov] (getMethod ov "__init__" (do return (← importBound (.Call (.Name "super" p9) [] [] p8) env).getD true))
          callWith p5 f first (backTo p5 (starEach [.Constant (.str tx) tk p6] env)) []) := fun ov => by
        have e2 : methodCallPos true (.Call (.Name "super" p9) [] [] p8) env p7 p5 = pure p5 := by
          unfold methodCallPos
          rw [if_pos (by rw [hline]; rfl)]
        unfold methodCall
        rw [show methodCallForm 1 (backTo p5 (starEach [.Constant (.str tx) tk p6] env)) [] = true from rfl]
        simp only [e2, pure_bind]
        rfl
      show (do
        let ov ← attributeBase (.Call (.Name "super" p9) [] [] p8) "__init__" env (eval (.Call (.Name "super" p9) [] [] p8) env)
        standAt p7.atName
        methodCall (.Call (.Name "super" p9) [] [] p8) "__init__" p7 p5 env ov 1 (backTo p5 (starEach [.Constant (.str tx) tk p6] env)) []) = _
      simp only [e1]
    refine ks_wpAt_execs_cons (ks_wpAt_Expr_any (ks_wpAt_MethodCall ?_ he) (by subst henv; unfold interactive; simp [callEnv, newEnv, hk]) rfl)
    subst henv
    refine ks_wpAt_super_base (env := callEnv (ksFn "__init__" qual ps _ sc .none .none doc pm an (.ref cda) ct cc) s.heap.objs.size fI) ls lc (by decide) rfl (K0 _ _ e17) rfl (ar := x0) (by show (ps.posonlyargs ++ ps.args).head? = _; rw [hq1, hq2]; rfl) rfl (K0 _ _ e13) rfl e14 e15 e16 ?_
    refine ks_loadName_global hk ls (Calls.loadGlobal_builtin (env := callEnv _ s.heap.objs.size fI) (hgn.keeps hk0) (mg_none_of KX hgn e11) (hbn.keeps hk0) ((hbb _ (by decide +kernel)).trans (by decide +kernel)) ⟨rfl, ?_⟩)
    refine wpAny_loadName_free hk lc rfl ⟨_, K0 _ _ e12, rfl⟩ ?_
    refine wpAny_loadName_local hk lx hns mx ?_
    refine ks_wpAny_isType_cls hC0 rfl ⟨rfl, ?_⟩
    refine ks_wpAny_call_super hC0 rfl hx0 rfl ncx (looks_mroIn K0 e9) (fun h1 es k1 => ?_)
    have K1 : K.In h1 := K0.keeps k1
    have iI : W.Looks (model prog w) h1 (isInstance (.ref x) (.type "ValueError")) true := (show W.Looks (model prog w) h1 (typeOf (.ref x)) (.ref C) from fun A Q E s k q => wpAny_typeOf_ref (k _ _ (k1 _ _ hx0)) q).andThen (looks_subIn K1 e8)
    refine kxs_getMethod kxs_ValueError es (looks_opaque K1 e10) (l₀ := Value.ref C :: bm) (fun A Q E s k q => wpAny_bind ((looks_clsIn K1 cl0) A _ E s k (wpAny_pure q))) rfl K1 e7' iI hnx (by decide) ?_
    have g2 : (h1.push (kxs_mw "ValueError.__init__" x)).get? h1.objs.size = some (kxs_mw "ValueError.__init__" x) := Heap.get?_push_at rfl rfl
    have k2 : ∀ b o, h1.get? b = some o → (h1.push (kxs_mw "ValueError.__init__" x)).get? b = some o := fun b o e => Heap.get?_push_of_some _ e
    refine kxs_callWith (i := "ValueError.__init__") (x := x) (by rfl) (Calls.evalArgs_plain (Calls.spliced_cons (wpAny_Constant_str (x := tx) (k := tk) (pos := p6) (Calls.spliced_nil ?_))))
    refine ⟨g2, ?_⟩
    refine mw_call (k2 _ _ (k1 _ _ hC0)) (k2 _ _ (k1 _ _ hx0)) g2 (by show 1 ≤ sizeLine; decide) fun h3 t1 k3 ox3 => ?_
    have kA : ∀ b o, b ≠ x → s.heap.get? b = some o → h3.get? b = some o := fun b o hb e => k3 b o hb (k2 _ _ (k1 _ _ (hk0 _ _ e)))
    have K3 : K.In h3 := fun b o e => kA b o (fun z => by rw [z, hnK] at e; cases e) (KX b o e)
    have Lx : s.heap.objs.size ≠ x := Nat.ne_of_gt (Heap.lt_size hx)
    have hns3 := Heap.Ns.at' hns fun o e => k3 _ o Lx (k2 _ _ (k1 _ _ e))
    have Llt : s.heap.objs.size < h3.objs.size := by
      obtain ⟨o, _, _, e, _⟩ := id hns3
      exact Heap.lt_size e
    show PySem.wpAt _ _ _ (execs [.Assign [.Attribute (.Name x0.arg p3) fld p2] (.Name y0.arg p1) p0] _) _ _ _
    refine PySem.wpAt_of_wpAny (wpAny_execs_cons (plainObj_wpAny_Assign_Attribute ?_ (by rfl)))
    refine wpAny_Name (wpAny_loadName_local hk ly hns3 my ?_) dy0
    refine wpAny_Name (wpAny_loadName_local hk lx hns3 mx ?_) dx0
    refine set_plain K3 (ox := HandSPX.excO C t1) (od := none) ⟨ox3, rfl, rfl, trivial⟩ e3 ?_
    refine HandSPX.exc_osa K3 ox3 cl0 (show HandSPX.refsVE (.ref C :: bm) = true from e2) rfl e4 (fun h4 tk4 dx k4 dn dne ox4 hn4 => ?_)
    show wpAny _ _ (execs [] _) _ _ _
    exact wpAny_execs_nil (fin h4 tk4 dx t1 ⟨fun b o hb e => k4 b o hb (kA b o hb e), ox4, Nat.le_of_lt (Nat.lt_of_lt_of_le Llt dn), dne, hn4⟩)
  · cases e19
theorem fld_made {K : Frag} {mg mb : Str → Option Value} {fld : Str} {C : Addr} {v : Value} {R : Result → Shared → Prop} {s : Shared} (T : FldC prog K fld C) (hgn : s.heap.Ns mainGlobals mg) (hbn : s.heap.Ns builtinsNs mb) (hbb : ∀ y : Str, y ≠ "__name__" → mb y = bootBuiltins y)
    (KX : K.In s.heap) (lim : s.heap.NoLimit) (room : A.depth + 1 < recursionLimit) (fin : ∀ h' tk e d, FldM s.heap h' e C d fld v → R (.ok (.ret (.ref e))) { s with heap := h', toks := tk }) :
    codeAny (model prog w) A (.call (.ref C) ⟨[v], []⟩) R s := by
  obtain ⟨fI, cc, cda, nm, q, N, bs, bm, sn, sub, ab, col, dd, k0, k1, k2, k3, k5, oc, doc, pm, ct, ccl, cl, od, an, cdd, cld, osl, ccs, csl, qual, ps, b, sc, vs, file, tf, e1, e2, e3, e4, e5, e6, e7, e8, e9, e10, e11, e12, e13, e14, e15, e16, e17, e18, e19⟩ := T.ex
  obtain ⟨hp, g, dr, tk, os⟩ := s
  have kp : ∀ b o, hp.get? b = some o → ((hp.push (kdv_tup [v])).push (HandSPX.excO C hp.objs.size)).get? b = some o := fun b o e => Heap.get?_push_of_some _ (Heap.get?_push_of_some _ e)
  have z1 : (hp.push (kdv_tup [v])).objs.size = hp.objs.size + 1 := Heap.size_push ..
  have z2 : ((hp.push (kdv_tup [v])).push (HandSPX.excO C hp.objs.size)).objs.size = hp.objs.size + 1 + 1 := by rw [Heap.size_push, z1]
  have gx : ((hp.push (kdv_tup [v])).push (HandSPX.excO C hp.objs.size)).get? (hp.objs.size + 1) = some (HandSPX.excO C hp.objs.size) := by rw [← z1]; exact Heap.get?_push_size _ rfl
  have nK : K.lookup (hp.objs.size + 1) = none := by
    cases e : K.lookup (hp.objs.size + 1) with
    | none => rfl
    | some o => exact absurd (Nat.lt_of_succ_lt (Heap.lt_size (show hp.get? (hp.objs.size + 1) = some o from KX _ _ e))) (Nat.lt_irrefl _)
  refine HandSPX.call_own F.excBase_ValueError (fun X => HandSPX.refsVE_contains X bm e2) (KX _ _ e1) (looks_findIn KX e5) (fun self => bind_fn KX self e6) (by show 1 ≤ sizeLine; decide) ?_
  refine fld_init (s := ⟨(hp.push (kdv_tup [v])).push (HandSPX.excO C hp.objs.size), g, dr, tk, os⟩) (hgn.keeps kp) (hbn.keeps kp) hbb e1 e2 e3 e4 e7 e8 e9 e10 e11 e12 e13 e14 e15 e16 e17 e18 e19 (KX.keeps kp) (lim.keeps kp) gx nK ?_ fun h' tk' dx t1 M => ?_
  · show A.depth + 1 < recursionLimit
    exact room
  · have bg := M.dbig
    have bg' : hp.objs.size + 1 + 1 ≤ dx := by rw [← z2]; exact bg
    exact ⟨rfl, fin h' tk' (hp.objs.size + 1) dx ⟨fun b o e => M.keep b o (Nat.ne_of_lt (Nat.lt_succ_of_lt (Heap.lt_size e))) (kp b o e), Nat.le_succ _, ⟨_, _, M.obj, rfl, rfl, rfl, rfl⟩, Nat.le_trans (Nat.le_trans (Nat.le_succ _) (Nat.le_succ _)) bg', M.dne, M.ns⟩⟩
end
section
variable {X : Cx} {C : Addr}
theorem relO_fld {v : V} {v' : Value} {fld : Str} (r : RelV v v') (f : Str) : RelO (List.lookup f [(fld, v)]) (if f = fld then some v' else none) := by
  by_cases q : f = fld
  · subst q
    rw [if_pos rfl, show List.lookup f [(f, v)] = some v by simp [List.lookup]]
    exact r
  · rw [if_neg q, show List.lookup f [(fld, v)] = none by simp [List.lookup, beq_eq_false_iff_ne.mpr q]]
    trivial
/-- X(e), X an own error class with one field -/
theorem pmk_fld {cn fld : Str} {a : Expr} {ta : TA} {p pos : Pos} {k : Nat} (T : FldC X.prog X.K fld C) (gC : X.mg cn = some (.ref C)) (kC : keepIn X.K (.ref C) = true) (r : Raises X (.ref C)) (hr : Room k X.A) (ha : PA X [a] ta) (hg : Gl X cn) (hdb : (cn == ("__debug__" : Str)) = false)
    (he : starEach (a :: []) X.env = (false, eval a X.env) :: starEach [] X.env) : PMk X (.Call (.Name cn p) [a] [] pos) (fun σ H Q => ta σ H fun vs H1 => ∃ v, vs = [v] ∧ ∀ d, H1 d = none → Q (.ref C) (some d) (upd H1 d (.xd [(fld, v)]))) := by
  intro pins s σ H Q I h
  refine wpAny_Call_Name_kw (ld_glob I hg gC ?_ hdb)
  refine PySem.W.callWith_K (h₀ := X.base) I.ok.mod.kin kC (thn (ha.run pos pins s σ H _ I h) fun us s1 hh => ?_) he rfl
  obtain ⟨vs, H1, I1, r1, v, ev, q1⟩ := hh
  subst ev
  refine ⟨I1.kIn, ?_⟩
  cases r1 with
  | cons rv rn =>
    rename_i v' us'
    cases rn
    show wpAny _ _ (call (.ref C) [v']) _ _ _
    have lim := I1.nolimit
    have hgn := I1.ok.mod.glob.keeps I1.bk
    obtain ⟨mb, hb1, hb2⟩ := I1.ok.mod.blt
    have hbn := hb1.keeps I1.bk
    obtain ⟨hp, g, dr, tk, os⟩ := s1
    refine wpAny_call (fld_made T hgn hbn hb2 I1.kIn lim (by have := hr.dp; omega) fun h' tk' e d M => ?_)
    show MkP X pins σ Q (.ref e) ⟨h', g, dr, tk', os⟩
    obtain ⟨oe, fv, o1, o2, o3, o4, o5⟩ := M.obj
    have ns := M.ns
    obtain ⟨G', r1, r2⟩ := restrict h' fun b => decide (b ≠ e)
    have gk : ∀ b, b ≠ e → G'.get? b = h'.get? b := fun b hb => r1 b (decide_eq_true hb)
    have ge : G'.get? e = none := r2 e (by simp)
    have old : ∀ b o, hp.get? b = some o → G'.get? b = some o := fun b o q => (gk b (Nat.ne_of_lt (Nat.lt_of_lt_of_le (Heap.lt_size q) M.new))).trans (M.keep b o q)
    have ob : ObjOk X.prog X.w (upd H1 d (.xd [(fld, v)])) G' d (.xd [(fld, v)]) := ⟨_, ns.at (fun o q => (gk d M.dne).trans q), fun f => relO_fld rv f⟩
    have J : Inv X pins σ (upd H1 d (.xd [(fld, v)])) ⟨G', g, dr, tk', os⟩ := I1.laid (t' := tk') old M.dbig ob
    refine ⟨e, oe, fv, ⟨G', g, dr, tk', os⟩, _, .ref C, some d, rfl, J, fun b o q => ?_, ge, o1, ⟨o2, o3⟩, o4, o5, ?_, rfl, I1.bare, r, q1 d (I1.hok.fresh M.dbig)⟩
    · by_cases hb : b = e
      · have q' : G'.get? b = some o := q
        rw [hb, ge] at q'
        cases q'
      · exact (gk b hb).symm.trans q
    · rw [upd_ne (Ne.symm M.dne)]
      exact I1.hok.fresh M.new
/-- X(), X an own error class without an own __init__ -/
theorem pmk_nul {cn : Str} {p pos : Pos} (q : excIn X.K C veB "ValueError.__new__" = true) (gC : X.mg cn = some (.ref C)) (kC : keepIn X.K (.ref C) = true) (r : Raises X (.ref C)) (hg : Gl X cn) (hdb : (cn == ("__debug__" : Str)) = false) :
    PMk X (.Call (.Name cn p) [] [] pos) (fun σ H Q => Q (.ref C) none H) := by
  intro pins s σ H Q I h
  refine wpAny_Call_Name_kw (ld_glob I hg gC ?_ hdb)
  refine PySem.W.callWith_K0 I.kIn kC ?_
  show wpAny _ _ (call (.ref C) []) _ _ _
  obtain ⟨bm, N, nm, qn, bs, hdct, sn, sub, ab, col, dd, k0, k1, k2, k3, k5, mN, hC, hN, hni, T⟩ := exc_obj I.kIn q
  refine wpAny_call_exc_subT F.excBase_ValueError T hC hN hni (fun h' e hm => ?_) (Nat.zero_le _)
  exact mk_of I hm r h (I.hok.gone hm.new)
/-- e.fld, e the error that the suite holds (at a; its class, its own dict) -/
theorem pe_fldE {a : Addr} {oe : Obj} {cls : Value} {d : Option Addr} {pn : List (Addr × Obj)} {e : Expr} {te : TE} {pos : Pos} {fld : Str} (ga : findIn X.K (.ref C) "__getattribute__" = some (some (.builtin "BaseException.__getattribute__"))) (gg : findIn X.K (.ref C) "__getattr__" = some none)
    (exC : subIn X.K (.ref C) (.type "BaseException") = some true) (hdC : hasDictIn X.K C = true) (noN : findIn X.K (.ref C) fld = some none) (hz : Zc cls d oe) (hf : ∃ vs, oe.data = .fields vs) (he : PE (X.suite a ((a, oe) :: pn)) e te)
    (hb : attributeBase e fld X.env (eval e X.env) = eval e X.env) :
    PE (X.suite a ((a, oe) :: pn)) (.Attribute e fld pos) (fun σ H Q => te σ H fun x H1 => x = .ref a ∧ cls = .ref C ∧ ∃ (dd : Addr) (v : V), d = some dd ∧ H1 dd = some (.xd [(fld, v)]) ∧ Q v H1) := by
  refine ⟨fun pins s σ H Q I h => ?_⟩
  refine attr_of hb (thn (he.run pins s σ H _ I h) fun u s1 hh => ?_)
  obtain ⟨x, H1, I1, rx, ex, ec, dd, v, ed, ea, q⟩ := hh
  subst ex
  cases (show u = Value.ref a from rx)
  subst ec
  subst ed
  obtain ⟨ha, _⟩ := I1.pin (a, oe) (List.mem_append_left _ List.mem_cons_self)
  obtain ⟨vs, hd⟩ := hf
  obtain ⟨mA, hns, hr⟩ : ObjOk X.prog X.w H1 s1.heap dd (.xd [(fld, v)]) := I1.hok dd _ ea
  obtain ⟨od, ho, hl⟩ := lookIn_ns hns
  have l : List.lookup fld [(fld, v)] = some v := by simp [List.lookup]
  obtain ⟨u, hu, ru⟩ := RelO.some_of (v := v) (o := mA fld) (by rw [← l]; exact hr fld)
  have J : PySem.W.InstAt s1.heap a oe C (some od) := ⟨ha, hz.1, by unfold PySem.W.notCls; rw [hd] <;> rfl, by rw [hz.2]; exact ho⟩
  exact HandSPX.exc_get I1.kIn J ga gg exC (PySem.W.findObj_own hdC noN rfl (by rw [hl, hu])) (handed_of ru) ⟨v, H1, I1.tok _, ru, q⟩
end
end G

set_option linter.all false
set_option maxRecDepth 100000
set_option maxHeartbeats 1000000
set_option Elab.async false
/-! Xc: what an except suite makes of the error. -/
namespace G
open PySem PySem.Spec PyProof.Rows L2 PySem.W
/-- what is known of an own error class at C -/
structure ExcAt (P : Program) (K : Frag) (mg : Str → Option Value) (x : Str × Option Str) (C : Addr) : Prop where
  gC : mg x.1 = some (.ref C)
  kC : keepIn K (.ref C) = true
  sub : subIn K (.ref C) (.type "BaseException") = some true
  ty : typeIn K (.ref C) = some (.type "type")
  hd : hasDictIn K C = true
  hga : findIn K (.ref C) "__getattribute__" = some (some (.builtin "BaseException.__getattribute__"))
  hgt : findIn K (.ref C) "__getattr__" = some none
  ha : findIn K (.ref C) "__class__" = some (some (.builtin "object.__class__"))
  hn : specialIn K (.builtin "object.__class__") "__get__" = some (some (.builtin "getset_descriptor.__get__"))
  ht : takesIn K (.builtin "object.__class__") = some true
  hm : mroIn K C (.type "object") = some true
  m0 : x.2 = none → excIn K C veB "ValueError.__new__" = true
  mf : ∀ f, x.2 = some f → FldC P K f C
/-- what is known of all error classes -/
structure ExcF (P : Program) (K : Frag) (mg : Str → Option Value) (exs : List (Str × Option Str)) (T : Nat → Nat → Bool) (ad : Nat → Addr) : Prop where
  at_ : ∀ c x, exs[c]? = some x → ExcAt P K mg x (ad c)
  exm : ∀ c x c' x', exs[c]? = some x → exs[c']? = some x' → exmOne K (.ref (ad c)) (.ref (ad c')) = some (T c c')
  kit : ∀ c x c' x', exs[c]? = some x → exs[c']? = some x' → kitOne K (.ref (ad c)) (.ref (ad c')) = some (T c c')
/-- how an error stands -/
def xrt (K : Frag) (J : Jar) (exs : List (Str × Option Str)) (ad : Nat → Addr) : XRT := fun e H Z cls dd => ∃ x, exs[e.cls]? = some x ∧ cls = .ref (ad e.cls) ∧
  ((x.2 = none ∧ dd = none ∧ e.arg = none) ∨ ∃ f a v d, x.2 = some f ∧ e.arg = some (f, d) ∧ dd = some a ∧ H a = some (.xd [(f, v)]) ∧ Rep K J Z v d)
theorem xrt_grow {K : Frag} {J : Jar} {exs : List (Str × Option Str)} {ad : Nat → Addr} {e : Exn} {H H' Z Z' : Hp} {cls : Value} {dd : Option Addr} (h : xrt K J exs ad e H Z cls dd) (s : Same H H') (z : Same Z Z') : xrt K J exs ad e H' Z' cls dd := by
  obtain ⟨x, h1, h2, h3⟩ := h
  refine ⟨x, h1, h2, ?_⟩
  rcases h3 with h3 | ⟨f, a, v, d, e1, e2, e3, e4, e5⟩
  · exact .inl h3
  · exact .inr ⟨f, a, v, d, e1, e2, e3, s _ _ e4, e5.mono z⟩
def isB : Hx → Bool
  | .b _ => true | .isA _ => true | .nt _ => true | .and a b => isB a && isB b | _ => false
def hxsLen : Hxs → Nat | .nil => 0 | .cons _ es => hxsLen es + 1
section
variable (cf : Cfg) (S : Sc)
def chkCs : List Nat → List Expr → Bool
  | [], [] => true
  | c :: cs, .Name y _ :: ys => decide ((cf.excs[c]?).map (·.1) = some y) && (glB S y && (okName y && chkCs cs ys))
  | _, _ => false
mutual
def chkHx (n : Option Str) : Hx → Expr → Bool
  | .b x, .Constant (.bool y) _ _ => decide (x = y)
  | .s x, .Constant (.str y) _ _ => decide (x = y)
  | .i x, .Constant (.int y) _ _ => decide (x = y)
  | .n, .Constant .none _ _ => true
  | .fld f, .Attribute (.Name x _) g _ => decide (n = some x) && decide (f = g)
  | .isA [c], .Call (.Name i _) [.Name x _, .Name y _] [] _ => bltB cf S i "isinstance" && (decide (n = some x) && chkCs cf S [c] [.Name y ⟨0, 0, 0, 0⟩])
  | .isA (c :: d :: cs), .Call (.Name i _) [.Name x _, .Tuple ys _ _] [] _ => bltB cf S i "isinstance" && (decide (n = some x) && (decide (ys.length ≤ 1000) && chkCs cf S (c :: d :: cs) ys))
  | .nt a, .UnaryOp .Not x _ => isB a && chkHx n a x
  | .and a b, .BoolOp .And [x, y] _ => isB a && (isB b && (chkHx n a x && chkHx n b y))
  | .ite t a b, .IfExp u x y _ => isB t && (chkHx n t u && (chkHx n a x && chkHx n b y))
  | .lst hs, .List xs _ => decide (hxsLen hs ≤ 1000) && chkHxs n hs xs
  | .tup hs, .Tuple xs _ _ => decide (hxsLen hs ≤ 1000) && chkHxs n hs xs
  | _, _ => false
def chkHxs (n : Option Str) : Hxs → List Expr → Bool
  | .nil, [] => true
  | .cons h hs, x :: xs => notStar x && (chkHx n h x && chkHxs n hs xs)
  | _, _ => false
end
def chkHu (n : Option Str) : Hu → List Stmt → Bool
  | .ret h, [.Return (some x) _] => chkHx cf S n h x
  | .ifr t h u, .If c [.Return (some x) _] [] _ :: rest => isB t && (chkHx cf S n t c && (chkHx cf S n h x && chkHu n u rest))
  | _, _ => false
end
/-- where a suite runs -/
structure HSt (K : Frag) (J : Jar) (exs : List (Str × Option Str)) (ad : Nat → Addr) (F : Fm) (σ : L2.St) (H Z : Hp) (r : En) (e : Exn) (a : Addr) (cls : Value) (dd : Option Addr) (n : Option Nat) : Prop where
  rel : Rel K J F σ H Z r
  sl : ∀ i, n = some i → i < σ.length → σ[i]? = some (some (.ref a))
  xr : xrt K J exs ad e H Z cls dd
section
variable {K : Frag} {J : Jar} {exs : List (Str × Option Str)} {ad : Nat → Addr} {T : Nat → Nat → Bool} {a : Addr} {cls : Value} {dd : Option Addr} {n : Option Nat}
theorem HSt.lay {F : Fm} {σ : L2.St} {H Z : Hp} {r : En} {e : Exn} (S : HSt K J exs ad F σ H Z r e a cls dd n) {p : Addr} {o : HO} (h : H p = none) (z : ∀ xs, o = .lst xs ∨ o = .tup xs → xs.length ≤ sizeLine) (zo : (∃ xs, o = .lst xs) ∨ (∃ xs, o = .tup xs) ∨ o = .dK []) : Same Z (upd Z p o) ∧ HSt K J exs ad F σ (upd H p o) (upd Z p o) r e a cls dd n :=
  let ⟨s, R⟩ := S.rel.lay h z zo
  ⟨s, R, S.sl, xrt_grow S.xr (Same.upd h) s⟩
def lHx (K : Frag) (J : Jar) (exs : List (Str × Option Str)) (ad : Nat → Addr) (T : Nat → Nat → Bool) (a : Addr) (cls : Value) (dd : Option Addr) (n : Option Nat) (c : Hx) : TE := fun σ H Q => ∃ F Z r e, HSt K J exs ad F σ H Z r e a cls dd n ∧
  hxW T e c fun d => ∀ v H' Z', Same Z Z' → HSt K J exs ad F σ H' Z' r e a cls dd n → Rep K J Z' v d → Q v H'
def lHt (K : Frag) (J : Jar) (exs : List (Str × Option Str)) (ad : Nat → Addr) (T : Nat → Nat → Bool) (a : Addr) (cls : Value) (dd : Option Addr) (n : Option Nat) (c : Hx) : TT := fun σ H Q => ∃ F Z r e, HSt K J exs ad F σ H Z r e a cls dd n ∧
  hxW T e c fun d => ∀ b, d = .bool b → ∀ H' Z', Same Z Z' → HSt K J exs ad F σ H' Z' r e a cls dd n → Q b H'
def lHs (K : Frag) (J : Jar) (exs : List (Str × Option Str)) (ad : Nat → Addr) (T : Nat → Nat → Bool) (a : Addr) (cls : Value) (dd : Option Addr) (n : Option Nat) (c : Hxs) : TA := fun σ H Q => ∃ F Z r e, HSt K J exs ad F σ H Z r e a cls dd n ∧
  hxsW T e c fun ds => ∀ vs H' Z', Same Z Z' → HSt K J exs ad F σ H' Z' r e a cls dd n → RepL K J Z' vs ds → Q vs H'
theorem hx_bool {e : Exn} : ∀ {c : Hx} {k : D → Prop}, isB c = true → hxW T e c k → hxW T e c fun d => (∃ b, d = .bool b) ∧ k d
  | .b x, k, _, h => by unfold hxW at h ⊢; exact ⟨⟨_, rfl⟩, h⟩
  | .isA cs, k, _, h => by unfold hxW at h ⊢; exact ⟨⟨_, rfl⟩, h⟩
  | .nt x, k, _, h => by
    unfold hxW at h ⊢
    refine hxW_mono x (fun d q => ?_) h
    split at q
    · exact ⟨⟨_, rfl⟩, q⟩
    · exact q.elim
  | .and x y, k, hb, h => by
    unfold hxW at h ⊢
    unfold isB at hb
    refine hxW_mono x (fun d q => ?_) h
    split at q
    · split at q
      · rename_i c
        rw [if_pos c]
        exact hx_bool (and2 hb).2 q
      · rename_i c
        rw [if_neg c]
        exact ⟨⟨_, rfl⟩, q⟩
    · exact q.elim
  | .s _, _, hb, _ => by cases hb
  | .i _, _, hb, _ => by cases hb
  | .n, _, hb, _ => by cases hb
  | .fld _, _, hb, _ => by cases hb
  | .ite _ _ _, _, hb, _ => by cases hb
  | .lst _, _, hb, _ => by cases hb
  | .tup _, _, hb, _ => by cases hb
end
theorem hxs_len {T : Nat → Nat → Bool} {e : Exn} : ∀ {c : Hxs} {k : List D → Prop}, hxsW T e c k → hxsW T e c fun ds => ds.length = hxsLen c ∧ k ds
  | .nil, k, h => by unfold hxsW at h ⊢; exact ⟨rfl, h⟩
  | .cons x xs, k, h => by
    unfold hxsW at h ⊢
    refine hxW_mono x (fun d q => ?_) h
    exact hxsW_mono xs (fun ds q => ⟨by rw [List.length_cons, q.1]; rfl, q.2⟩) (hxs_len q)
section
variable {cf : Cfg} {J : Jar} {ad : Nat → Addr} {T : Nat → Nat → Bool} {X : Cx} {S : Sc} {a : Addr} {oe : Obj} {cls : Value} {dd : Option Addr} {pn : List (Addr × Obj)} {n : Option Nat} {nm : Option Str}
/-- what is fixed where a suite runs -/
structure Sui (cf : Cfg) (J : Jar) (ad : Nat → Addr) (T : Nat → Nat → Bool) (X : Cx) (S : Sc) (a : Addr) (oe : Obj) (cls : Value) (dd : Option Addr) (n : Option Nat) (nm : Option Str) : Prop where
  sc : X.env.scope = S.sc
  free : ∀ x, cf.free.contains x = true → X.mg x = none
  ef : ExcF X.prog X.K X.mg cf.excs T ad
  hz : Zc cls dd oe
  hf : ∃ vs, oe.data = .fields vs
  nm : ∀ x, nm = some x → ∃ i, n = some i ∧ X.N[i]? = some x ∧ X.env.kindOf x = some .local ∧ okName x = true
theorem use_H {c : Hx} {F : Fm} {σ : L2.St} {H Z : Hp} {r : En} {e : Exn} {Q : VK} {k : D → Prop} (st : HSt X.K J cf.excs ad F σ H Z r e a cls dd n) (h : hxW T e c k) (hk : ∀ d, k d → ∀ v H1 Z1, Same Z Z1 → HSt X.K J cf.excs ad F σ H1 Z1 r e a cls dd n → Rep X.K J Z1 v d → Q v H1) : lHx X.K J cf.excs ad T a cls dd n c σ H Q :=
  ⟨F, Z, r, e, st, hxW_mono c (fun d q v H' Z' s st' rp => hk d q v H' Z' s st' rp) h⟩
theorem use_Hs {c : Hxs} {F : Fm} {σ : L2.St} {H Z : Hp} {r : En} {e : Exn} {Q : List V → Hp → Prop} {k : List D → Prop} (st : HSt X.K J cf.excs ad F σ H Z r e a cls dd n) (h : hxsW T e c k) (hk : ∀ d, k d → ∀ v H1 Z1, Same Z Z1 → HSt X.K J cf.excs ad F σ H1 Z1 r e a cls dd n → RepL X.K J Z1 v d → Q v H1) : lHs X.K J cf.excs ad T a cls dd n c σ H Q :=
  ⟨F, Z, r, e, st, hxsW_mono c (fun d q v H' Z' s st' rp => hk d q v H' Z' s st' rp) h⟩
/-- isinstance of the error -/
def rIsX (K : Frag) (cls : Value) (dd : Option Addr) (a : Addr) : List V → Hp → VK → Prop := fun xs H Q => ∃ (D C' : Addr) (b : Bool), xs = [.ref a, .ref C'] ∧ cls = .ref D ∧ (∀ dx, dd = some dx → ∃ fs, H dx = some (.xd fs)) ∧ kitOne K cls (.ref C') = some b ∧ Q (.bl b) H
def rIsXT (K : Frag) (cls : Value) (dd : Option Addr) (a : Addr) : List V → Hp → VK → Prop := fun xs H Q => ∃ (D tp : Addr) (cs : List Addr) (b : Bool), xs = [.ref a, .ref tp] ∧ H tp = some (.tup (cs.map V.ref)) ∧ cls = .ref D ∧ (∀ dx, dd = some dx → ∃ fs, H dx = some (.xd fs)) ∧ kitAny K cls (cs.map Value.ref) = some b ∧ Q (.bl b) H
theorem inst_exc {X : Cx} {pins : List (Addr × Obj)} {σ : L2.St} {H : Hp} {s : Shared} {D : Addr} (I : Inv (X.suite a ((a, oe) :: pn)) pins σ H s) (hz : Zc (.ref D) dd oe) (hf : ∃ vs, oe.data = .fields vs) (hd : ∀ dx, dd = some dx → ∃ fs, H dx = some (.xd fs)) : ∃ od, InstAt s.heap a oe D od := by
  obtain ⟨ha, _⟩ := I.pin (a, oe) (List.mem_append_left _ List.mem_cons_self)
  obtain ⟨vs, hv⟩ := hf
  have nc : PySem.W.notCls oe = true := by unfold PySem.W.notCls; rw [hv] <;> rfl
  cases dd with
  | none => exact ⟨none, ha, hz.1, nc, by rw [hz.2]; trivial⟩
  | some dx =>
    obtain ⟨fs, e⟩ := hd dx rfl
    obtain ⟨mA, hns, _⟩ : ObjOk X.prog X.w H s.heap dx (.xd fs) := I.hok dx _ e
    obtain ⟨od, ho, _⟩ := lookIn_ns hns
    exact ⟨some od, ha, hz.1, nc, by rw [hz.2]; exact ho⟩
theorem call_isX (G : Sui cf J ad T X S a oe cls dd n nm) {c : Nat} {x : Str × Option Str} (hc : cf.excs[c]? = some x) (hcl : cls = .ref (ad c)) : CallR (X.suite a ((a, oe) :: pn)) (.builtin "isinstance") (rIsX X.K cls dd a) := by
  intro pins s σ H xs us Q I r h
  obtain ⟨D, C', b, rfl, e1, e2, e3, q⟩ := h
  have A := G.ef.at_ c x hc
  have hz := G.hz
  subst hcl
  cases r with
  | cons rx rr =>
    cases rr with
    | cons rt rr =>
      cases rr
      cases rx
      cases rt
      obtain ⟨od, J⟩ := inst_exc I hz G.hf e2
      have hcl : (clsIn X.K (ad c)).isSome = true := by obtain ⟨cd, hc, _⟩ := any_some A.hd; rw [hc]; rfl
      exact PySem.W.kia_one (PySem.W.kitx_exc hcl A.hga A.hgt A.sub A.ha A.hn A.ht A.hm) I.kIn J e3 (fun z => nomatch z) fun tk => ⟨.bl b, H, I.kept (t' := tk) fun _ _ z => z, rfl, q⟩
theorem vals_refs {cs : List Addr} {us : List Value} (h : Vals (cs.map V.ref) us) : us = cs.map Value.ref := by
  induction cs generalizing us with
  | nil => cases h; rfl
  | cons c cs ih =>
    cases h with
    | cons h1 h2 =>
      cases h1
      rw [ih h2]
      rfl
theorem call_isXT (G : Sui cf J ad T X S a oe cls dd n nm) {c : Nat} {x : Str × Option Str} (hc : cf.excs[c]? = some x) (hcl : cls = .ref (ad c)) : CallR (X.suite a ((a, oe) :: pn)) (.builtin "isinstance") (rIsXT X.K cls dd a) := by
  intro pins s σ H xs us Q I r h
  obtain ⟨D, tp, cs, b, rfl, ht, e1, e2, e3, q⟩ := h
  have A := G.ef.at_ c x hc
  have hz := G.hz
  subst hcl
  cases r with
  | cons rx rr =>
    cases rr with
    | cons rt rr =>
      cases rr
      cases rx
      cases rt
      obtain ⟨od, J⟩ := inst_exc I hz G.hf e2
      have hcl : (clsIn X.K (ad c)).isSome = true := by obtain ⟨cd, hc, _⟩ := any_some A.hd; rw [hc]; rfl
      obtain ⟨_, its, rv, ⟨oc, od2, odt, osl⟩, g1, g2, g3, g4⟩ := I.hok tp _ ht
      have e4 := vals_refs rv
      dsimp only at g2 g4
      subst g2 g4 e4
      exact PySem.W.kia_tup (PySem.W.kitx_exc hcl A.hga A.hgt A.sub A.ha A.hn A.ht A.hm) I.kIn J g1 e3 (fun z => nomatch z) fun tk => ⟨.bl b, H, I.kept (t' := tk) fun _ _ z => z, rfl, q⟩
theorem xr_dict {K : Frag} {exs : List (Str × Option Str)} {e : Exn} {H Z : Hp} (h : xrt K J exs ad e H Z cls dd) : ∃ x, exs[e.cls]? = some x ∧ cls = .ref (ad e.cls) ∧ ∀ dx, dd = some dx → ∃ fs, H dx = some (.xd fs) := by
  obtain ⟨x, h1, h2, h3⟩ := h
  refine ⟨x, h1, h2, fun dx hd => ?_⟩
  rcases h3 with ⟨_, h3, _⟩ | ⟨f, a, v, d, e1, e2, e3, e4, e5⟩
  · rw [hd] at h3; cases h3
  · rw [hd] at e3; cases e3; exact ⟨_, e4⟩
/-- the classes that a test names -/
theorem cs_of (G : Sui cf J ad T X S a oe cls dd n nm) : ∀ {cs : List Nat} {ys : List Expr}, chkCs cf S cs ys = true → (∀ c ∈ cs, ∃ x, cf.excs[c]? = some x) ∧ PA (X.suite a ((a, oe) :: pn)) ys (cs.foldr (fun c t => tCons (tC (.ref (ad c))) t) tNil)
  | [], [], _ => ⟨fun c hc => by simp at hc, pa_nil⟩
  | c :: cs, .Name y p :: ys, h => by
    unfold chkCs at h
    obtain ⟨h1, h⟩ := and2 h
    obtain ⟨h2, h⟩ := and2 h
    obtain ⟨h3, h4⟩ := and2 h
    obtain ⟨i1, i2⟩ := cs_of G h4
    have h1 := of_decide_eq_true h1
    cases hx : cf.excs[c]? with
    | none => rw [hx] at h1; cases h1
    | some x =>
      rw [hx] at h1
      have hy : x.1 = y := by simpa using h1
      subst hy
      have A := G.ef.at_ c x hx
      have hgl : Gl (X.suite a ((a, oe) :: pn)) x.1 := by
        show X.env.scope.names.lookup x.1 = some .globalImplicit
        rw [G.sc]
        unfold glB lk at h2
        split at h2
        · assumption
        · cases h2
      have hdb : (x.1 == ("__debug__" : Str)) = false := by
        unfold okName at h3
        obtain ⟨q1, _⟩ := and2 h3
        simpa using q1
      refine ⟨fun c' hc' => ?_, pa_cons (pe_glob hgl A.gC rfl hdb) i2 rfl⟩
      rcases List.mem_cons.mp hc' with rfl | hc'
      · exact ⟨x, hx⟩
      · exact i1 c' hc'
theorem cs_len : ∀ {cs : List Nat} {ys : List Expr}, chkCs cf S cs ys = true → cs.length = ys.length
  | [], [], _ => rfl
  | c :: cs, .Name y p :: ys, h => by
    unfold chkCs at h
    rw [List.length_cons, List.length_cons, cs_len (and2 (and2 (and2 h).2).2).2]
theorem cs_run {σ : L2.St} {H : Hp} {Q : List V → Hp → Prop} : ∀ (cs : List Nat), Q (cs.map fun c => V.ref (ad c)) H → (cs.foldr (fun c t => tCons (tC (.ref (ad c))) t) tNil) σ H Q
  | [], h => h
  | c :: cs, h => cs_run cs h
theorem kit_any (G : Sui cf J ad T X S a oe cls dd n nm) {c0 : Nat} {x0 : Str × Option Str} (h0 : cf.excs[c0]? = some x0) : ∀ {cs : List Nat}, (∀ c ∈ cs, ∃ x, cf.excs[c]? = some x) → kitAny X.K (.ref (ad c0)) (cs.map fun c => Value.ref (ad c)) = some (cs.any fun c => T c0 c)
  | [], _ => rfl
  | c :: cs, h => by
    obtain ⟨x, hx⟩ := h c List.mem_cons_self
    have k1 := G.ef.kit c0 x0 c x h0 hx
    have k2 := kit_any G h0 (cs := cs) fun c' hc' => h c' (List.mem_cons_of_mem _ hc')
    rw [List.map_cons, List.any_cons]
    unfold kitAny
    rw [k1]
    cases T c0 c with
    | true => rfl
    | false => exact k2
theorem err_pe (G : Sui cf J ad T X S a oe cls dd n nm) {x : Str} {p : Pos} (h : nm = some x) : ∃ i, n = some i ∧ i < X.N.length ∧ PE (X.suite a ((a, oe) :: pn)) (.Name x p) (tVar i) := by
  obtain ⟨i, h1, h2, h3, h4⟩ := G.nm x h
  unfold okName at h4
  obtain ⟨q1, q2⟩ := and2 h4
  exact ⟨i, h1, (List.getElem?_eq_some_iff.mp h2).1, pe_var h2 (.inl h3) (by simpa using q1) (by simpa using q2)⟩
theorem isB_pt {e : Expr} {c : Hx} (hp : plainT e = true) (hb : isB c = true) (h : PE (X.suite a ((a, oe) :: pn)) e (lHx X.K J cf.excs ad T a cls dd n c)) : PT (X.suite a ((a, oe) :: pn)) e (lHt X.K J cf.excs ad T a cls dd n c) := by
  refine ⟨fun pins s σ H Q I ⟨F, Z, r, e0, st, q⟩ => ?_⟩
  have l : lHx X.K J cf.excs ad T a cls dd n c σ H fun x H1 => ∃ Z d, Same Z H1 ∧ RepS X.K J H1 Z x d ∧ truW d fun b => Q b H1 := by
    refine use_H st (hx_bool hb q) fun d hd v H1 Z1 s1 st1 rp => ?_
    obtain ⟨⟨b, rfl⟩, hd⟩ := hd
    exact ⟨Z1, .bool b, st1.rel.sub, rp, hd b rfl H1 Z1 s1 st1⟩
  refine isTrue_plain (thn (h.run pins s σ H _ I l) fun v s1 ⟨x, H1, I1, r1, q1⟩ => tru_sound pins s1 σ H1 x v Q I1 r1 q1) ?_
  cases e <;> first | rfl | cases hp
theorem isi_pe (G : Sui cf J ad T X S a oe cls dd n nm) {cs : List Nat} {i x : Str} {e2 : Expr} {p p2 pos : Pos} {r : List V → Hp → VK → Prop} {t2 : TE} (hb : bltB cf S i "isinstance" = true) (hx : nm = some x) (ha : PE (X.suite a ((a, oe) :: pn)) e2 t2) (ns : notStar e2 = true)
    (hc : ∀ c0 x0, cf.excs[c0]? = some x0 → cls = .ref (ad c0) → CallR (X.suite a ((a, oe) :: pn)) (.builtin "isinstance") r)
    (ht : ∀ (F : Fm) (σ : L2.St) (H Z : Hp) (rr : En) (e : Exn) (Q : VK), HSt X.K J cf.excs ad F σ H Z rr e a cls dd n → (∀ v H' Z', Same Z Z' → HSt X.K J cf.excs ad F σ H' Z' rr e a cls dd n → Rep X.K J Z' v (.bool (cs.any fun c => T e.cls c)) → Q v H') → t2 σ H fun w H1 => r [.ref a, w] H1 Q) :
    PE (X.suite a ((a, oe) :: pn)) (.Call (.Name i p) [.Name x p2, e2] [] pos) (lHx X.K J cf.excs ad T a cls dd n (.isA cs)) := by
  obtain ⟨j, hj, jN, pv⟩ := err_pe (pn := pn) (oe := oe) (a := a) G hx (p := p2)
  unfold bltB at hb
  obtain ⟨g1, g2⟩ := and2 hb
  obtain ⟨g2, g3⟩ := and2 g2
  cases of_decide_eq_true g1
  have hgl : Gl (X.suite a ((a, oe) :: pn)) "isinstance" := by
    show X.env.scope.names.lookup ("isinstance" : Str) = some .globalImplicit
    rw [G.sc]
    unfold glB lk at g3
    split at g3
    · assumption
    · cases g3
  refine ⟨fun pins s σ H Q I ⟨F, Z, rr, e, st, q⟩ => ?_⟩
  obtain ⟨x0, h0, hcl, _⟩ := xr_dict st.xr
  have C := hc e.cls x0 h0 hcl
  refine (pe_callB C hgl (G.free _ g2) (by decide +kernel) (pa_cons pv (pa_cons ha pa_nil (star_of ns)) rfl) (by decide +kernel) (by decide +kernel) rfl (back_any (star_any (by simp [ns])))).run pins s σ H Q I ?_
  refine ⟨_, st.sl j hj (by rw [I.len]; exact jN), ?_⟩
  unfold hxW at q
  exact ht F σ H Z rr e Q st q
mutual
theorem snd_Hx (G : Sui cf J ad T X S a oe cls dd n nm) : ∀ (c : Hx) {e : Expr}, chkHx cf S nm c e = true → PE (X.suite a ((a, oe) :: pn)) e (lHx X.K J cf.excs ad T a cls dd n c) ∧ (isB c = true → PT (X.suite a ((a, oe) :: pn)) e (lHt X.K J cf.excs ad T a cls dd n c))
  | .b x, e, h => by
    unfold chkHx at h
    split at h
    all_goals first | (exact absurd h Bool.false_ne_true) | (rename_i heq; cases heq; done) | (rename_i heq; cases heq)
    cases of_decide_eq_true h
    rename_i k p0
    have p : PE (X.suite a ((a, oe) :: pn)) (.Constant (.bool x) k p0) (lHx X.K J cf.excs ad T a cls dd n (.b x)) := pe_bl.imp fun pins s σ H Q I ⟨F, Z, r, e0, st, q⟩ => by
      unfold hxW at q
      exact q _ H Z (.refl _) st (.bl _)
    exact ⟨p, fun hb => isB_pt rfl hb p⟩
  | .s x, e, h => by
    unfold chkHx at h
    split at h
    all_goals first | (exact absurd h Bool.false_ne_true) | (rename_i heq; cases heq; done) | (rename_i heq; cases heq)
    cases of_decide_eq_true h
    exact ⟨pe_str.imp fun pins s σ H Q I ⟨F, Z, r, e0, st, q⟩ => by
      unfold hxW at q
      exact q _ H Z (.refl _) st (.str _), fun hb => by cases hb⟩
  | .i x, e, h => by
    unfold chkHx at h
    split at h
    all_goals first | (exact absurd h Bool.false_ne_true) | (rename_i heq; cases heq; done) | (rename_i heq; cases heq)
    cases of_decide_eq_true h
    exact ⟨pe_int.imp fun pins s σ H Q I ⟨F, Z, r, e0, st, q⟩ => by
      unfold hxW at q
      exact q _ H Z (.refl _) st (.int _), fun hb => by cases hb⟩
  | .n, e, h => by
    unfold chkHx at h
    split at h
    all_goals first | (exact absurd h Bool.false_ne_true) | (rename_i heq; cases heq; done) | (rename_i heq; cases heq)
    exact ⟨pe_non.imp fun pins s σ H Q I ⟨F, Z, r, e0, st, q⟩ => by
      unfold hxW at q
      exact q _ H Z (.refl _) st .non, fun hb => by cases hb⟩
  | .fld f, e, h => by
    unfold chkHx at h
    split at h
    all_goals first | (exact absurd h Bool.false_ne_true) | (rename_i heq; cases heq; done) | (rename_i heq; cases heq)
    obtain ⟨h1, h2⟩ := and2 h
    cases of_decide_eq_true h2
    obtain ⟨j, hj, jN, pv⟩ := err_pe (pn := pn) (oe := oe) (a := a) G (of_decide_eq_true h1)
    refine ⟨⟨fun pins s σ H Q I ⟨F, Z, r, e0, st, q⟩ => ?_⟩, fun hb => by cases hb⟩
    unfold hxW at q
    obtain ⟨x, h3, h4, h5⟩ := st.xr
    split at q
    · rename_i d hd
      obtain ⟨rfl, q⟩ := q
      rcases h5 with ⟨g1, g2, g3⟩ | ⟨f, b, v, d2, g1, g2, g3, g4, g5⟩
      · rw [hd] at g3; cases g3
      · rw [hd] at g2
        cases g2
        have A := G.ef.at_ _ _ h3
        obtain ⟨fI, cc, cda, nm', q', N, bs, bm, sn, sub, ab, col, dd', k0, k1, k2, k3, k5, oc, doc, pm, ct, ccl, cl, od, an, cdd, cld, osl, ccs, csl, qual, ps, bb, sc, vs, file, tf, e1, e2, e3, e4, _⟩ := (A.mf _ g1).ex
        refine (pe_fldE (C := ad e0.cls) A.hga A.hgt A.sub A.hd e4 G.hz G.hf pv rfl).run pins s σ H Q I ⟨_, st.sl j hj (by rw [I.len]; exact jN), rfl, h4, b, v, g3, g4, q v H Z (.refl _) st g5⟩
    · exact q.elim
  | .isA [], e, h => by
    unfold chkHx at h
    exact absurd h Bool.false_ne_true
  | .isA [c], e, h => by
    unfold chkHx at h
    split at h
    all_goals first | (exact absurd h Bool.false_ne_true) | (rename_i heq; cases heq; done) | (rename_i heq; cases heq)
    rename_i i p1 x p2 y p3 pos
    obtain ⟨h1, h⟩ := and2 h
    obtain ⟨h2, h3⟩ := and2 h
    have h4 : chkCs cf S [c] [.Name y p3] = true := h3
    obtain ⟨c1, c2⟩ := cs_of (pn := pn) (oe := oe) (a := a) G h4
    obtain ⟨x1, hx1⟩ := c1 c List.mem_cons_self
    have pg : PE (X.suite a ((a, oe) :: pn)) (.Name y p3) (tC (.ref (ad c))) := by
      unfold chkCs at h4
      obtain ⟨k1, k2⟩ := and2 h4
      obtain ⟨k2, k3⟩ := and2 k2
      obtain ⟨k3, _⟩ := and2 k3
      have k1 := of_decide_eq_true k1
      rw [hx1] at k1
      have hy : x1.1 = y := by simpa using k1
      subst hy
      have A := G.ef.at_ c x1 hx1
      refine pe_glob ?_ A.gC rfl ?_
      · show X.env.scope.names.lookup x1.1 = some .globalImplicit
        rw [G.sc]
        unfold glB lk at k2
        split at k2
        · assumption
        · cases k2
      · unfold okName at k3
        obtain ⟨q1, _⟩ := and2 k3
        simpa using q1
    have p : PE (X.suite a ((a, oe) :: pn)) (.Call (.Name i p1) [.Name x p2, .Name y p3] [] pos) (lHx X.K J cf.excs ad T a cls dd n (.isA [c])) :=
      isi_pe G h1 (of_decide_eq_true h2) pg rfl (fun c0 x0 h0 hcl => call_isX (pn := pn) G h0 hcl) fun F σ H Z rr e Q st q => by
        obtain ⟨x0, h0, hcl, hd⟩ := xr_dict st.xr
        refine ⟨ad e.cls, ad c, T e.cls c, rfl, hcl, hd, by rw [hcl]; exact G.ef.kit _ _ _ _ h0 hx1, q _ H Z (.refl _) st ?_⟩
        have : ([c].any fun c => T e.cls c) = T e.cls c := by simp
        rw [this]
        exact .bl _
    exact ⟨p, fun hb => isB_pt rfl hb p⟩
  | .isA (c :: d :: cs), e, h => by
    unfold chkHx at h
    split at h
    all_goals first | (exact absurd h Bool.false_ne_true) | (rename_i heq; cases heq; done) | (rename_i heq; cases heq)
    rename_i i p1 x p2 ys k p3 pos
    obtain ⟨h1, h⟩ := and2 h
    obtain ⟨h2, h⟩ := and2 h
    obtain ⟨h3, h4⟩ := and2 h
    obtain ⟨c1, c2⟩ := cs_of (pn := pn) (oe := oe) (a := a) G h4
    have p : PE (X.suite a ((a, oe) :: pn)) (.Call (.Name i p1) [.Name x p2, .Tuple ys k p3] [] pos) (lHx X.K J cf.excs ad T a cls dd n (.isA (c :: d :: cs))) :=
      isi_pe G h1 (of_decide_eq_true h2) (pe_tup c2) rfl (fun c0 x0 h0 hcl => call_isXT (pn := pn) G h0 hcl) fun F σ H Z rr e Q st q => by
        obtain ⟨x0, h0, hcl, hd⟩ := xr_dict st.xr
        have lc : (c :: d :: cs).length ≤ sizeLine := by rw [cs_len h4, szl]; have := of_decide_eq_true h3; omega
        refine cs_run (c :: d :: cs) ⟨by rw [List.length_map]; exact lc, fun p hp => ?_⟩
        · obtain ⟨s1, st1⟩ := st.lay (o := .tup ((c :: d :: cs).map fun c => V.ref (ad c))) hp (fun xs hxs => by rcases hxs with z | z <;> cases z; rw [List.length_map]; exact lc) (.inr (.inl ⟨_, rfl⟩))
          obtain ⟨_, _, _, hd1⟩ := xr_dict st1.xr
          refine ⟨ad e.cls, p, (c :: d :: cs).map ad, _, rfl, by rw [upd_same, List.map_map]; rfl, hcl, hd1, ?_, q _ _ _ s1 st1 (.bl _)⟩
          rw [hcl, List.map_map]
          exact kit_any G h0 c1
    exact ⟨p, fun hb => isB_pt rfl hb p⟩
  | .nt x, e, h => by
    have ix := @snd_Hx G x
    unfold chkHx at h
    split at h
    all_goals first | (exact absurd h Bool.false_ne_true) | (rename_i heq; cases heq; done) | (rename_i heq; cases heq)
    rename_i ex pos
    obtain ⟨h1, h2⟩ := and2 h
    obtain ⟨px, tx⟩ := ix h2
    have tx := tx h1
    refine ⟨⟨fun pins s σ H Q I ⟨F, Z, r, e0, st, q⟩ => ?_⟩, fun _ => (pt_not tx).imp fun pins s σ H Q I ⟨F, Z, r, e0, st, q⟩ => ?_⟩
    · unfold hxW at q
      have l : lHx X.K J cf.excs ad T a cls dd n x σ H fun x H1 => ∃ Z d, Same Z H1 ∧ RepS X.K J H1 Z x d ∧ truW d fun b => Q (.bl (!b)) H1 := by
        refine use_H st q fun d hd v H1 Z1 s1 st1 rp => ?_
        split at hd
        · exact ⟨Z1, _, st1.rel.sub, st1.rel.repS rp, hd _ H1 Z1 s1 st1 (.bl _)⟩
        · exact hd.elim
      refine UnaryOp_ (thn (px.run pins s σ H _ I l) fun v s1 ⟨x, H1, I1, r1, q1⟩ => ?_)
      refine not_of (thn (tru_sound pins s1 σ H1 x v (fun b H2 => Q (.bl (!b)) H2) I1 r1 q1) fun b s2 ⟨H2, I2, q2⟩ => ?_)
      exact ⟨.bl (!b), H2, I2, rfl, q2⟩
    · unfold hxW at q
      refine ⟨F, Z, r, e0, st, hxW_mono x (fun d hd b eb H' Z' s' st' => ?_) q⟩
      subst eb
      exact hd (!b) rfl H' Z' s' st'
  | .and x y, e, h => by
    have ix := @snd_Hx G x
    have iy := @snd_Hx G y
    unfold chkHx at h
    split at h
    all_goals first | (exact absurd h Bool.false_ne_true) | (rename_i heq; cases heq; done) | (rename_i heq; cases heq)
    rename_i ex ey pos
    obtain ⟨b1, h⟩ := and2 h
    obtain ⟨b2, h⟩ := and2 h
    obtain ⟨h1, h2⟩ := and2 h
    obtain ⟨px, tx⟩ := ix h1
    obtain ⟨py, ty⟩ := iy h2
    have tx := tx b1
    have ty := ty b2
    refine ⟨(pe_and px (pe_one py)).imp fun pins s σ H Q I ⟨F, Z, r, e0, st, q⟩ => ?_, fun _ => (pw_and tx (pw_and1 ty)).pt.imp fun pins s σ H Q I ⟨F, Z, r, e0, st, q⟩ => ?_⟩
    · unfold hxW at q
      refine use_H st q fun d hd v H1 Z1 s1 st1 rp => ?_
      split at hd
      · cases rep_bool rp
        refine ⟨_, rfl, ?_⟩
        split at hd
        · rename_i c
          rw [if_pos c]
          exact use_H st1 hd fun d2 hd2 w H2 Z2 s2 st2 rp2 => hd2 w H2 Z2 (s1.trans s2) st2 rp2
        · rename_i c
          rw [if_neg c]
          exact hd _ H1 Z1 s1 st1 (.bl _)
      · exact hd.elim
    · unfold hxW at q
      refine ⟨F, Z, r, e0, st, hxW_mono x (fun d hd b eb H1 Z1 s1 st1 => ?_) q⟩
      subst eb
      dsimp only at hd
      by_cases c : b = true
      · rw [if_pos c]
        rw [if_pos c] at hd
        exact ⟨F, Z1, r, e0, st1, hxW_mono y (fun d2 hd2 b2 eb2 H2 Z2 s2 st2 => hd2 b2 eb2 H2 Z2 (s1.trans s2) st2) hd⟩
      · rw [if_neg c]
        rw [if_neg c] at hd
        exact hd false rfl H1 Z1 s1 st1
  | .ite t x y, e, h => by
    have it := @snd_Hx G t
    have ix := @snd_Hx G x
    have iy := @snd_Hx G y
    unfold chkHx at h
    split at h
    all_goals first | (exact absurd h Bool.false_ne_true) | (rename_i heq; cases heq; done) | (rename_i heq; cases heq)
    rename_i et ex ey pos
    obtain ⟨b1, h⟩ := and2 h
    obtain ⟨h0, h⟩ := and2 h
    obtain ⟨h1, h2⟩ := and2 h
    refine ⟨(pe_ifExp ((it h0).2 b1) (ix h1).1 (iy h2).1).imp fun pins s σ H Q I ⟨F, Z, r, e0, st, q⟩ => ?_, fun hb => by cases hb⟩
    unfold hxW at q
    refine ⟨F, Z, r, e0, st, hxW_mono t (fun d hd b eb H1 Z1 s1 st1 => ?_) q⟩
    subst eb
    dsimp only at hd
    by_cases c : b = true
    · rw [if_pos c]
      rw [if_pos c] at hd
      exact use_H st1 hd fun d2 hd2 w H2 Z2 s2 st2 rp2 => hd2 w H2 Z2 (s1.trans s2) st2 rp2
    · rw [if_neg c]
      rw [if_neg c] at hd
      exact use_H st1 hd fun d2 hd2 w H2 Z2 s2 st2 rp2 => hd2 w H2 Z2 (s1.trans s2) st2 rp2
  | .lst hs, e, h => by
    have is := @snd_Hxs G hs
    unfold chkHx at h
    split at h
    all_goals first | (exact absurd h Bool.false_ne_true) | (rename_i heq; cases heq; done) | (rename_i heq; cases heq)
    obtain ⟨h1, h2⟩ := and2 h
    have lh := of_decide_eq_true h1
    refine ⟨(pe_lst (is h2)).imp fun pins s σ H Q I ⟨F, Z, r, e0, st, q⟩ => ?_, fun hb => by cases hb⟩
    unfold hxW at q
    refine use_Hs st (hxs_len q) fun ds hd vs H1 Z1 s1 st1 rl => ?_
    obtain ⟨hl, hd⟩ := hd
    have lv : vs.length ≤ sizeLine := by rw [rl.length, hl, szl]; omega
    refine ⟨lv, fun p hp => ?_⟩
    obtain ⟨s2, st2⟩ := st1.lay (o := .lst vs) hp (fun xs hxs => by rcases hxs with z | z <;> cases z; exact lv) (.inl ⟨_, rfl⟩)
    exact hd _ _ _ (s1.trans s2) st2 (.lst upd_same (rl.mono s2))
  | .tup hs, e, h => by
    have is := @snd_Hxs G hs
    unfold chkHx at h
    split at h
    all_goals first | (exact absurd h Bool.false_ne_true) | (rename_i heq; cases heq; done) | (rename_i heq; cases heq)
    obtain ⟨h1, h2⟩ := and2 h
    have lh := of_decide_eq_true h1
    refine ⟨(pe_tup (is h2)).imp fun pins s σ H Q I ⟨F, Z, r, e0, st, q⟩ => ?_, fun hb => by cases hb⟩
    unfold hxW at q
    refine use_Hs st (hxs_len q) fun ds hd vs H1 Z1 s1 st1 rl => ?_
    obtain ⟨hl, hd⟩ := hd
    have lv : vs.length ≤ sizeLine := by rw [rl.length, hl, szl]; omega
    refine ⟨lv, fun p hp => ?_⟩
    obtain ⟨s2, st2⟩ := st1.lay (o := .tup vs) hp (fun xs hxs => by rcases hxs with z | z <;> cases z; exact lv) (.inr (.inl ⟨_, rfl⟩))
    exact hd _ _ _ (s1.trans s2) st2 (.tup (.inl (.inl upd_same)) (rl.mono s2))
theorem snd_Hxs (G : Sui cf J ad T X S a oe cls dd n nm) : ∀ (c : Hxs) {e : List Expr}, chkHxs cf S nm c e = true → PA (X.suite a ((a, oe) :: pn)) e (lHs X.K J cf.excs ad T a cls dd n c)
  | .nil, [], h => pa_nil.imp fun pins s σ H Q I ⟨F, Z, r, e0, st, q⟩ => by
    unfold hxsW at q
    exact q [] H Z (.refl _) st .nil
  | .cons x xs, e :: es, h => by
    have ix := @snd_Hx G x
    have is := @snd_Hxs G xs
    unfold chkHxs at h
    obtain ⟨h1, h⟩ := and2 h
    obtain ⟨h2, h3⟩ := and2 h
    refine (pa_cons (ix h2).1 (is h3) (star_of h1)).imp fun pins s σ H Q I ⟨F, Z, r, e0, st, q⟩ => ?_
    unfold hxsW at q
    refine use_H st q fun d hd v H1 Z1 s1 st1 rp => ?_
    exact use_Hs st1 hd fun ds hds vs H2 Z2 s2 st2 rl => hds (v :: vs) H2 Z2 (s1.trans s2) st2 (.cons (rp.mono s2) rl)
  | .nil, _ :: _, h => by unfold chkHxs at h; cases h
  | .cons _ _, [], h => by unfold chkHxs at h; cases h
end
end
end G

set_option linter.all false
set_option maxRecDepth 100000
set_option maxHeartbeats 1000000
set_option Elab.async false
/-! Xd: try with several clauses, raise. -/
namespace G
open PySem PySem.Spec PyProof.Rows L2
/-- a clause: its class, the slot of its name, what its suite does -/
structure Cl where
  c : Value
  i : Option Nat
  ts : Addr → Value → Option Addr → TS
def setN (σ : L2.St) (n : Option Nat) (v : Option V) : L2.St := match n with | some i => σ.set i v | none => σ
/-- the name goes when the suite ends -/
def offD (n : Option Nat) (D : Ends) : Ends := { nx := fun σ H => D.nx (setN σ n none) H, rt := D.rt, bk := fun σ H => D.bk (setN σ n none) H, ct := fun σ H => D.ct (setN σ n none) H }
/-- what the clauses wish, one behind the other -/
def wCls (K : PySem.W.Frag) (Wo : WX) (D : Ends) : List Cl → WX
  | [] => Wo
  | q :: l => fun cls d σ H => ∃ b, PySem.W.exmOne K cls q.c = some b ∧ (b = true → ∀ a, H a = none → q.ts a cls d (offD q.i D) (setN σ q.i (some (.ref a))) H) ∧ (b = false → wCls K Wo D l cls d σ H)
inductive ClsOk (X : Cx) : List ExceptHandler → List Cl → Prop
  | nil : ClsOk X [] []
  | cons {x n : Str} {q : Cl} {j : Nat} {s0 : Stmt} {su : List Stmt} {p1 p2 : Pos} {hds : List ExceptHandler} {l : List Cl} (hc : Names X x q.c) (hj : q.i = some j) (hi : X.N[j]? = some n) (hl : X.env.kindOf n = some .local)
      (hsu : ∀ (a : Addr) (oe : Obj) (cls : Value) (d : Option Addr) (pn : List (Addr × Obj)), Zc cls d oe → (∃ vs, oe.data = .fields vs) → PSs (X.suite a ((a, oe) :: pn)) (s0 :: su) (q.ts a cls d)) (r : ClsOk X hds l) :
      ClsOk X (.ExceptHandler (some (.Name x p1)) (some n) (s0 :: su) p2 :: hds) (q :: l)
  | bare {x : Str} {q : Cl} {s0 : Stmt} {su : List Stmt} {p1 p2 : Pos} {hds : List ExceptHandler} {l : List Cl} (hc : Names X x q.c) (hj : q.i = none)
      (hsu : ∀ (a : Addr) (oe : Obj) (cls : Value) (d : Option Addr) (pn : List (Addr × Obj)), Zc cls d oe → (∃ vs, oe.data = .fields vs) → PSs (X.suite a ((a, oe) :: pn)) (s0 :: su) (q.ts a cls d)) (r : ClsOk X hds l) :
      ClsOk X (.ExceptHandler (some (.Name x p1)) none (s0 :: su) p2 :: hds) (q :: l)
theorem ps_try_cls {X : Cx} {body : List Stmt} {h0 : ExceptHandler} {hds : List ExceptHandler} {l : List Cl} {pos : Pos} {tb : WX → TS} {Wo : WX} (hs : X.stack = X.env :: X.outer) (hf : X.env.frame = some X.env.locals) (hN : X.N.Nodup) (tk : Takes X Wo)
    (hb : ∀ (W : WX) (pn : List (Addr × Obj)) (xe : Value → Shared → Prop), Takes (X.tr pn xe) W → PassesOwn (model X.prog X.w) X.A X.env xe → PSs (X.tr pn xe) body (tb W))
    (hh : ClsOk X (h0 :: hds) l) : PS X (.Try body (h0 :: hds) [] [] pos) (fun D σ H => tb (wCls X.K Wo D l) D σ H) := by
  refine ⟨fun pins s σ H D I h => ?_⟩
  have ok := I.ok
  have frm : X.A.frames = some (X.env :: X.outer) := by rw [ok.frames, hs]
  refine wpAny_Try_except ?_
  have run := (hb (wCls X.K Wo D l) (X.pn ++ pins) (fun e sa => wpAny (model X.prog X.w) X.A (noteFrame e X.env) (fun _ sb => wpAny (model X.prog X.w) X.A (setFlight e none) (fun _ sc =>
    wpAny (model X.prog X.w) X.A (handleBy e X.env (h0 :: hds)) (SP X pins D) X.xe sc) X.xe sb) X.xe sa) ?takes PassesOwn.looking).run [] s σ H D (I.toTry _) h
  · refine wpAny_mono run (fun f s1 hsp => ?_) (fun e s1 he => he)
    cases f with
    | next => obtain ⟨σ', H', J', q⟩ := hsp; exact wpAny_execs_nil ⟨σ', H', J'.ofTry ok, q⟩
    | brk => obtain ⟨σ', H', J', q⟩ := hsp; exact ⟨σ', H', J'.ofTry ok, q⟩
    | cont => obtain ⟨σ', H', J', q⟩ := hsp; exact ⟨σ', H', J'.ofTry ok, q⟩
    | ret u => obtain ⟨v, σ', H', J', r, q⟩ := hsp; exact ⟨v, σ', H', J'.ofTry ok, r, q⟩
  · intro u s' xx
    obtain ⟨a, B, sI, pins', σ', H', cls, d, rfl, J', nb, upto, sky, na, os, ag, w⟩ := xx
    have J : Inv X pins σ' H' sI := J'.ofTry ok
    rw [show (X.tr (X.pn ++ pins) _).stack = X.env :: X.outer from hs] at sky
    show wpAny (model X.prog X.w) X.A (noteFrame (.ref a) X.env) _ _ _
    refine Sky.land Zc.steady frm hf sky fun h3 fl3 up3 => ?_
    have J3 : Inv X pins σ' H' { s' with heap := h3 } := J.landed nb fl3.1 (upto.trans up3) os ag
    obtain ⟨oe3, vs3, he3, hz3, hd3⟩ := fl3.there
    have out : a ∉ frs (X.env :: X.outer) := fun hm => by
      obtain ⟨_, o', e', hnf⟩ := fl3.2.2.1.mem hm
      rw [he3] at e'
      cases e'
      exact hnf _ hd3
    have nL : a ≠ X.env.locals := fun z => out (List.mem_filterMap.mpr ⟨X.env, List.mem_cons_self, by rw [hf, z]⟩)
    have nF : a ∉ X.fs := fun hm => by
      obtain ⟨e, he, q⟩ := List.mem_filterMap.mp hm
      exact out (List.mem_filterMap.mpr ⟨e, List.mem_cons_of_mem _ he, q⟩)
    have S3 := J3.suite he3 hd3 na nL nF
    have test : ∀ {x : Str} {c : Value} {p1 : Pos}, Names X x c → ∀ {Q : Value → Shared → Prop} {E : Value → Shared → Prop}, Q c { s' with heap := h3 } → wpAny (model X.prog X.w) (X.A.mark (some (.ref a))) (eval (.Name x p1) X.env) Q E { s' with heap := h3 } := fun {x c p1} hc {Q E} z => by
      rcases hc with ⟨hg, hdb, hm | ⟨hm, hv, hn⟩⟩
      · exact ld_glob (X := X.suite a ((a, oe3) :: (X.pn ++ pins))) S3 hg hm z hdb
      · exact ld_blt (X := X.suite a ((a, oe3) :: (X.pn ++ pins))) S3 hg hm hv z hn hdb
    have LT : PySem.W.Looks (model X.prog X.w) h3 (typeOf (.ref a)) cls := fun A Q E s k q => wpAny_typeOf_ref (k _ _ he3) (by rw [hz3.1]; exact q)
    have go : ∀ {hs' : List ExceptHandler} {l' : List Cl}, ClsOk X hs' l' → wCls X.K Wo D l' cls d σ' H' → wpAny (model X.prog X.w) X.A (handleBy (.ref a) X.env hs') (SP X pins D) X.xe { s' with heap := h3 } := by
      intro hs' l' hk
      induction hk with
      | nil =>
        intro w
        refine wpAny_handleBy_nil ?_
        obtain ⟨_, _, _, oe, vs, T, _, _, he, _, hd, h1, _⟩ := id fl3
        have last : wpAny (model X.prog X.w) X.A (setFlight (.ref a) X.env.frame) (fun _ s4 => wpAny (model X.prog X.w) X.A (throw (.ref a) : Sem Flow) (SP X pins D) X.xe s4) X.xe { s' with heap := h3 } := by
          rw [hf]
          refine HandSPX.setFlight_upZ fl3 fun h4 k4 up4 => wpAny_throw (tk _ _ ⟨a, B, sI, pins, σ', H', cls, d, rfl, J, nb, (upto.trans up3).trans up4, .inr (.inr ?_), na, os, ag, w⟩)
          rw [hs]
          exact k4
        unfold PySem.passOn
        refine wpAny_bind (wpAny_field he hd h1 ?_)
        rw [if_neg (show ¬ ((Value.ref T == Value.none) = true) from by simp)]
        first
          | exact wpAny_bind (wpAny_pure (wpAny_bind last))
          | exact wpAny_bind last
      | @cons x n q j s0 su p1 p2 hds2 l2 hc hj hi hl hsu r ih =>
        rintro ⟨b, hb1, yes, no⟩
        refine wpAny_handleBy_cons (codeAny_handlers_test ?_) (by intro q; cases q)
        have LM := PySem.W.exm_one (M := model X.prog X.w) J3.kIn LT hb1
        refine test hc (LM.here ?_)
        cases b with
        | false =>
          show wpAny _ X.A (handleBy (.ref a) X.env hds2) _ _ _
          exact ih (no rfl)
        | true =>
          refine codeAny_handlers_suite_as ?_
          refine HandSPX.lands_againZ fl3 fun h4 fl4 up4 => ?_
          have J4 : Inv X pins σ' H' { s' with heap := h4 } := J.landed nb fl4.1 ((upto.trans up3).trans up4) os ag
          obtain ⟨oe4, vs4, he4, hz4, hd4⟩ := fl4.there
          have S4 := J4.suite he4 hd4 na nL nF
          have yes := yes rfl a na
          rw [hj] at yes
          refine store_ok (X := X.suite a ((a, oe4) :: (X.pn ++ pins))) (v := .ref a) S4 hN hi (.inl hl) rfl (fun s5 S5 => ?_) (.inr hl)
          refine wpAny_mono ((hsu a oe4 cls d (X.pn ++ pins) hz4 ⟨_, hd4⟩).run [] s5 _ H' _ S5 yes) (fun f s6 hsp => ?_) (fun _ _ z => False.elim z)
          have fin : ∀ {σ6 : L2.St} {H6 : Hp} {Q : Shared → Prop}, Inv (X.suite a ((a, oe4) :: (X.pn ++ pins))) [] σ6 H6 s6 → (∀ s7, Inv X pins (σ6.set j none) H6 s7 → Q s7) →
              wpAny (model X.prog X.w) X.A (do bindName X.env n .none; unbindBehindTheSuite X.env n p2) (fun _ s7 => Q s7) X.xe s6 := fun S6 hq => gone_ok (S6.unsuite ok) hN hi hl hq
          cases f with
          | next => obtain ⟨σ6, H6, S6, q6⟩ := hsp; exact fin S6 fun s7 J7 => ⟨_, _, J7, q6⟩
          | brk => obtain ⟨σ6, H6, S6, q6⟩ := hsp; exact fin S6 fun s7 J7 => ⟨_, _, J7, q6⟩
          | cont => obtain ⟨σ6, H6, S6, q6⟩ := hsp; exact fin S6 fun s7 J7 => ⟨_, _, J7, q6⟩
          | ret u => obtain ⟨v6, σ6, H6, S6, r6, q6⟩ := hsp; exact fin S6 fun s7 J7 => ⟨_, _, _, J7, r6, q6⟩
      | @bare x q s0 su p1 p2 hds2 l2 hc hj hsu r ih =>
        rintro ⟨b, hb1, yes, no⟩
        refine wpAny_handleBy_cons (codeAny_handlers_test ?_) (by intro q; cases q)
        have LM := PySem.W.exm_one (M := model X.prog X.w) J3.kIn LT hb1
        refine test hc (LM.here ?_)
        cases b with
        | false =>
          show wpAny _ X.A (handleBy (.ref a) X.env hds2) _ _ _
          exact ih (no rfl)
        | true =>
          refine codeAny_handlers_suite ?_
          refine HandSPX.lands_againZ fl3 fun h4 fl4 up4 => ?_
          have J4 : Inv X pins σ' H' { s' with heap := h4 } := J.landed nb fl4.1 ((upto.trans up3).trans up4) os ag
          obtain ⟨oe4, vs4, he4, hz4, hd4⟩ := fl4.there
          have S4 := J4.suite he4 hd4 na nL nF
          have yes := yes rfl a na
          rw [hj] at yes
          refine wpAny_mono ((hsu a oe4 cls d (X.pn ++ pins) hz4 ⟨_, hd4⟩).run [] _ _ H' _ S4 yes) (fun f s6 hsp => ?_) (fun _ _ z => False.elim z)
          cases f with
          | next => obtain ⟨σ6, H6, S6, q6⟩ := hsp; exact ⟨_, _, S6.unsuite ok, q6⟩
          | brk => obtain ⟨σ6, H6, S6, q6⟩ := hsp; exact ⟨_, _, S6.unsuite ok, q6⟩
          | cont => obtain ⟨σ6, H6, S6, q6⟩ := hsp; exact ⟨_, _, S6.unsuite ok, q6⟩
          | ret u => obtain ⟨v6, σ6, H6, S6, r6, q6⟩ := hsp; exact ⟨_, _, _, S6.unsuite ok, r6, q6⟩
    exact go hh w
section
variable {K : PySem.W.Frag} {J : Jar} {F : Fm} {σ : L2.St} {H Z : Hp} {r : En}
theorem Rel.setUn (R : Rel K J F σ H Z r) {i : Nat} {v : Option V} : Rel K J F (σ.set i v) H Z (r.set i .un) := by
  have out : ∀ {j : Nat} {s : Slot}, rd (r.set i .un) j = s → s ≠ .un → i ≠ j ∧ rd r j = s := fun {j s} e n => by
    by_cases ij : i = j
    · subst ij
      by_cases il : i < r.length
      · rw [rd_same il] at e; exact absurd e.symm n
      · have := rd_lt (r := r.set i .un) (i := i) (by rw [e]; exact n)
        rw [En.length_set] at this
        exact absurd this il
    · rw [rd_ne ij] at e
      exact ⟨ij, e⟩
  refine ⟨R.sub, R.frame, R.jar, R.jz, by rw [En.length_set, List.length_set]; exact R.len, fun j d e => ?_, fun j ds e => ?_, fun j k ds es a e e2 h1 h2 => ?_, R.zs, R.zo, R.ng, R.gf, fun j k e => ?_⟩
  · obtain ⟨q, e⟩ := out e (fun z => by cases z)
    rw [List.getElem?_set_ne q]
    exact R.fz j d e
  · obtain ⟨q, e⟩ := out e (fun z => by cases z)
    rw [List.getElem?_set_ne q]
    exact R.ow j ds e
  · obtain ⟨q, e⟩ := out e (fun z => by cases z)
    obtain ⟨q2, e2⟩ := out e2 (fun z => by cases z)
    rw [List.getElem?_set_ne q] at h1
    rw [List.getElem?_set_ne q2] at h2
    exact R.sep j k ds es a e e2 h1 h2
  · obtain ⟨q, e⟩ := out e (fun z => by cases z)
    rw [List.getElem?_set_ne q]
    exact R.al j k e
end
/-- the except clauses -/
def chkHds (cf : Cfg) (N : List Str) (S : Sc) : Hds → List ExceptHandler → Bool
  | .nil, [] => true
  | .cons c n u hs, .ExceptHandler (some (.Name x _)) m (s0 :: su) _ :: rest => decide ((cf.excs[c]?).map (·.1) = some x) && (glB S x && (okName x && ((match n, m with
      | some i, some y => decide (N[i]? = some y) && (decide (lk S y = some .local) && okName y)
      | none, none => true
      | _, _ => false) && (chkHu cf S m u (s0 :: su) && chkHds cf N S hs rest))))
  | _, _ => false
section
variable {cf : Cfg} {J : Jar} {ad : Nat → Addr} {T : Nat → Nat → Bool} {X : Cx} {S : Sc}
def lHu (K : PySem.W.Frag) (J : Jar) (exs : List (Str × Option Str)) (ad : Nat → Addr) (T : Nat → Nat → Bool) (n : Option Nat) (u : Hu) : Addr → Value → Option Addr → TS := fun a cls dd D σ H => ∃ F Z r e k, HSt K J exs ad F σ H Z r e a cls dd n ∧
  (∀ d r', k.rt d r' → ∀ v σ' H' Z', Same Z Z' → Rel K J F σ' H' Z' r' → Rep K J Z' v d → D.rt v H') ∧ huW T k e r u
theorem snd_Hu {a : Addr} {oe : Obj} {cls : Value} {dd : Option Addr} {pn : List (Addr × Obj)} {n : Option Nat} {nm : Option Str} (G : Sui cf J ad T X S a oe cls dd n nm) : ∀ (u : Hu) {su : List Stmt}, chkHu cf S nm u su = true → PSs (X.suite a ((a, oe) :: pn)) su (lHu X.K J cf.excs ad T n u a cls dd)
  | .ret x, su, h => by
    unfold chkHu at h
    split at h
    all_goals first | (exact absurd h Bool.false_ne_true) | (rename_i heq; cases heq; done) | (rename_i heq; cases heq)
    refine (pss_one (ps_ret (snd_Hx G x h).1)).imp fun pins s D σ H I ⟨F, Z, r, e, k, st, rt, q⟩ => ?_
    unfold huW at q
    exact use_H st q fun d hd v H1 Z1 s1 st1 rp => rt d r hd v σ H1 Z1 s1 st1.rel rp
  | .app i x, su, h => by
    unfold chkHu at h
    exact absurd h Bool.false_ne_true
  | .ifr t x u, su, h => by
    have iu := fun {su : List Stmt} (q : chkHu cf S nm u su = true) => snd_Hu (pn := pn) G u q
    unfold chkHu at h
    split at h
    all_goals first | (exact absurd h Bool.false_ne_true) | (rename_i heq; cases heq; done) | (rename_i heq; cases heq)
    obtain ⟨h1, h⟩ := and2 h
    obtain ⟨h2, h⟩ := and2 h
    obtain ⟨h3, h4⟩ := and2 h
    refine (pss_cons (ps_if ((snd_Hx G t h2).2 h1) (pss_one (ps_ret (snd_Hx G x h3).1)) pss_nil) (iu h4)).imp fun pins s D σ H I ⟨F, Z, r, e, k, st, rt, q⟩ => ?_
    unfold huW at q
    refine ⟨F, Z, r, e, st, hxW_mono t (fun d hd b eb H1 Z1 s1 st1 => ?_) q⟩
    subst eb
    dsimp only at hd
    by_cases c : b = true
    · rw [if_pos c]
      rw [if_pos c] at hd
      exact use_H st1 hd fun d2 hd2 v H2 Z2 s2 st2 rp2 => rt d2 r hd2 v σ H2 Z2 (s1.trans s2) st2.rel rp2
    · rw [if_neg c]
      rw [if_neg c] at hd
      exact ⟨F, Z1, r, e, k, st1, fun d2 r' q' v σ' H' Z' s' R' rp' => rt d2 r' q' v σ' H' Z' (s1.trans s') R' rp', hd⟩
/-- the clauses of a core term -/
def clsOf (K : PySem.W.Frag) (J : Jar) (exs : List (Str × Option Str)) (ad : Nat → Addr) (T : Nat → Nat → Bool) : Hds → List Cl
  | .nil => []
  | .cons c n u hs => ⟨.ref (ad c), n, fun a cls dd => lHu K J exs ad T n u a cls dd⟩ :: clsOf K J exs ad T hs
/-- what is fixed in a def's body -/
structure Bod (cf : Cfg) (J : Jar) (XR : XRT) (ad : Nat → Addr) (T : Nat → Nat → Bool) (X : Cx) (S : Sc) : Prop where
  st : X.stack = X.env :: X.outer
  fr : X.env.frame = some X.env.locals
  ef : ExcF X.prog X.K X.mg cf.excs T ad
  xr : XR = xrt X.K J cf.excs ad
theorem cls_ok {XR : XRT} {C : Calls} {lv : Nat} (G : Good cf J XR C lv X S) (B : Bod cf J XR ad T X S) : ∀ (hs : Hds) {es : List ExceptHandler}, chkHds cf X.N S hs es = true → ClsOk X es (clsOf X.K J cf.excs ad T hs) ∧ (∀ e H Z cls dd r k W F σ D, hdW T k e r hs → Rel X.K J F σ H Z r → XR e H Z cls dd → EndsOk X.K J XR F D Z W k → wCls X.K W D (clsOf X.K J cf.excs ad T hs) cls dd σ H)
  | .nil, [], h => ⟨.nil, fun e H Z cls dd r k W F σ D q R xr eo => by
      unfold hdW at q
      exact eo.ex e r q σ H Z cls dd (.refl _) R xr⟩
  | .cons c n u hs, .ExceptHandler (some (.Name x p1)) m (s0 :: su) p2 :: rest, h => by
    have ih := @cls_ok _ _ _ G B hs rest
    unfold chkHds at h
    obtain ⟨h1, h⟩ := and2 h
    obtain ⟨h2, h⟩ := and2 h
    obtain ⟨h3, h⟩ := and2 h
    obtain ⟨h4, h⟩ := and2 h
    obtain ⟨h5, h6⟩ := and2 h
    obtain ⟨i1, i2⟩ := ih h6
    have h1 := of_decide_eq_true h1
    cases hx : cf.excs[c]? with
    | none => rw [hx] at h1; cases h1
    | some xc =>
      rw [hx] at h1
      have hy : xc.1 = x := by simpa using h1
      subst hy
      have A := B.ef.at_ c xc hx
      have hdb : (xc.1 == ("__debug__" : Str)) = false := (okName_of G h3).1
      have nmh : Names X xc.1 (.ref (ad c)) := ⟨G.gl h2, hdb, .inl A.gC⟩
      have nms : ∀ y, m = some y → ∃ i, n = some i ∧ X.N[i]? = some y ∧ X.env.kindOf y = some .local ∧ okName y = true := fun y hy => by
        subst hy
        cases n with
        | none => cases h4
        | some i =>
          obtain ⟨g1, g2⟩ := and2 h4
          obtain ⟨g2, g3⟩ := and2 g2
          exact ⟨i, rfl, of_decide_eq_true g1, by show X.env.scope.names.lookup y = some .local; rw [G.sc]; exact of_decide_eq_true g2, g3⟩
      have sui : ∀ (a : Addr) (oe : Obj) (cls : Value) (d : Option Addr) (pn : List (Addr × Obj)), Zc cls d oe → (∃ vs, oe.data = .fields vs) → PSs (X.suite a ((a, oe) :: pn)) (s0 :: su) (lHu X.K J cf.excs ad T n u a cls d) := fun a oe cls d pn hz hf =>
        snd_Hu (nm := m) ⟨G.sc, G.facts.free, B.ef, hz, hf, nms⟩ u h5
      refine ⟨?_, fun e H Z cls dd r k W F σ D q R xr eo => ?_⟩
      · cases m with
        | none =>
          have hn : n = none := by cases n with | none => rfl | some i => cases h4
          exact .bare nmh hn sui i1
        | some y =>
          obtain ⟨i, g1, g2, g3, g4⟩ := nms y rfl
          exact .cons nmh g1 g2 g3 sui i1
      · have xr' := xr
        rw [B.xr] at xr'
        obtain ⟨x0, h0, hcl, _⟩ := xr_dict xr'
        unfold hdW at q
        refine ⟨T e.cls c, by rw [hcl]; exact B.ef.exm _ _ _ _ h0 hx, fun hb a na => ?_, fun hb => ?_⟩
        · rw [if_pos hb] at q
          refine ⟨F, Z, unN r n, e, k, ⟨?_, fun i hi il => ?_, xr'⟩, fun d r' q' v σ' H' Z' s' R' rp' => eo.rt d r' q' v σ' H' Z' s' R' rp', q⟩
          · cases n with
            | none => exact R
            | some i => exact R.setUn
          · subst hi
            show (σ.set i (some (.ref a)))[i]? = _
            have il' : i < (σ.set i (some (V.ref a))).length := il
            rw [List.length_set] at il'
            exact List.getElem?_set_self il'
        · rw [if_neg (by rw [hb]; exact Bool.false_ne_true)] at q
          exact i2 e H Z cls dd r k W F σ D q R xr eo
  | .nil, _ :: _, h => by unfold chkHds at h; cases h
  | .cons c n u hs, [], h => by unfold chkHds at h; cases h
  | .cons c n u hs, .ExceptHandler none _ _ _ :: _, h => by unfold chkHds at h; cases h
  | .cons c n u hs, .ExceptHandler (some (.Name x p1)) m [] p2 :: rest, h => by unfold chkHds at h; cases h
end
end G

set_option linter.all false
set_option maxRecDepth 100000
set_option Elab.async false
/-! Sn: several names at once; name = [..]; the checker of statements. -/
namespace G
open PySem PySem.Spec PyProof.Rows L2
/-- how the stores of a display to a display go: none is not followed -/
def swP (kf : Bool) (lk : Str → Option NameKind) (ts vs : List Expr) : Option (Option (List Str)) :=
  if (!(ts.length == 2 || ts.length == 3) || vs.length != ts.length || !kf) = true then some none else
  if (vs.any fun | .Starred .. => true | _ => false) = true then some none else
  let names := ts.filterMap fun
    | .Name id pos => if (lk id == some .local && pos.line == (ts.head?.map (·.pos.line)).getD 0) = true then some id else none
    | _ => none
  if (names.length != ts.length || names.eraseDups.length != names.length) = true then some none else
  if (vs.all (foldedForSure 8)) = true then some none else
  if (vs.all (constantsAlone 8)) = true then none else some (some names)
theorem swP_of {env : Env} {ts vs : List Expr} {k k2 : Nat} {p p2 : Pos} {r : Option (List Str)} (hk : env.scope.kind = .function) (h : swP true (fun x => env.scope.names.lookup x) ts vs = some r) : swappedStores [.Tuple ts k p] (.Tuple vs k2 p2) env = pure r := by
  have hb : (env.blockKind != .function) = !true := by unfold Env.blockKind; rw [hk]; rfl
  unfold swP at h
  unfold swappedStores
  dsimp only
  rw [hb]
  by_cases c1 : (!(ts.length == 2 || ts.length == 3) || vs.length != ts.length || !true) = true
  · rw [if_pos c1] at h ⊢
    cases h
    rfl
  rw [if_neg c1] at h ⊢
  by_cases c2 : (vs.any fun | .Starred .. => true | _ => false) = true
  · rw [if_pos c2] at h
    cases h
    exact if_pos c2
  rw [if_neg c2] at h
  refine (if_neg c2).trans ?_
  dsimp only at h ⊢
  have en : (List.filterMap (fun x => match x with | Expr.Name id pos => if (env.kindOf id == some NameKind.local && pos.line == (Option.map (fun x => x.pos.line) ts.head?).getD 0) = true then some id else none | _ => none) ts) =
      (ts.filterMap fun x => match x with
    | .Name id pos => if (env.scope.names.lookup id == some .local && pos.line == (ts.head?.map (·.pos.line)).getD 0) = true then some id else none
    | _ => none) := rfl
  generalize hn : (ts.filterMap fun x => match x with
    | .Name id pos => if (env.scope.names.lookup id == some .local && pos.line == (ts.head?.map (·.pos.line)).getD 0) = true then some id else none
    | _ => none) = names at en
  have h' : (if (names.length != ts.length || names.eraseDups.length != names.length) = true then some none else if (vs.all (foldedForSure 8)) = true then some none else if (vs.all (constantsAlone 8)) = true then none else some (some names)) = some r := by rw [← hn]; exact h
  have goal : (if (names.length != ts.length || names.eraseDups.length != names.length) = true then pure none else if (vs.all (foldedForSure 8)) = true then pure none else if (vs.all (constantsAlone 8)) = true then (do unsupported "assign.tuple-of-constant-expressions:order-of-the-stores"; pure (some names)) else pure (some names)) = (pure r : Sem (Option (List Str))) := by
    split at h'
    · rename_i c; rw [if_pos c]; cases h'; rfl
    · rename_i c; rw [if_neg c]
      split at h'
      · rename_i c; rw [if_pos c]; cases h'; rfl
      · rename_i c; rw [if_neg c]
        split at h'
        · cases h'
        · rename_i c; rw [if_neg c]; cases h'; rfl
  rw [← hn] at goal
  exact goal
theorem swN_of {env : Env} {tg e : Expr} (h : isTup e = false) : swappedStores [tg] e env = pure none := by
  cases e <;> first | (cases h; done) | (cases tg <;> rfl)

section
variable (cf : Cfg) (N : List Str)
mutual
def chkS (S : Sc) : St → Stmt → Bool
  | .set i e, .Assign [.Name x _] v _ => decide (N[i]? = some x) && (S.st x && chkE cf N S e v)
  | .par [i, j] es, .Assign [.Tuple [.Name x px, .Name y py] _ _] (.Tuple [a, b] _ _) _ => decide (N[i]? = some x) && (decide (N[j]? = some y) && (decide (i ≠ j) && (((decide (lk S x = some .local) && (decide (lk S y = some .local) && decide (swP true (lk S) [.Name x px, .Name y py] [a, b] = some (some [x, y])))) ||
      (S.st x && (S.st y && decide (swP true (lk S) [.Name x px, .Name y py] [a, b] = some none)))) && chkEs cf N S es [a, b])))
  | .par [i, j, l] es, .Assign [.Tuple [.Name x px, .Name y py, .Name z pz] _ _] (.Tuple [a, b, c] _ _) _ => decide (N[i]? = some x) && (decide (N[j]? = some y) && (decide (N[l]? = some z) && (decide (i ≠ j ∧ i ≠ l ∧ j ≠ l) && (decide (lk S x = some .local) && (decide (lk S y = some .local) && (decide (lk S z = some .local) &&
      (decide (swP true (lk S) [.Name x px, .Name y py, .Name z pz] [a, b, c] = some (some [x, y, z])) && chkEs cf N S es [a, b, c])))))))
  | .unp t e, .Assign [.Tuple ts k p] v _ => chkTg N S t (.Tuple ts k p) && (chkE cf N S e v && (match v with | .Tuple vs _ _ => decide (swP true (lk S) ts vs = some none) | _ => true))
  | .ret e, .Return (some v) _ => chkE cf N S e v
  | .retN, .Return none _ => true
  | .drop e, .Expr v _ => noComp v && chkE cf N S e v
  | .ifs t a b, .If c x y _ => chkT cf N S t c && (chkSs S a x && chkSs S b y)
  | .whl t b, .While c x [] _ => chkT cf N S t c && chkSs S b x
  | .fr t w b, .For tg it x [] _ => notSet it && (chkTg N S t tg && (chkW cf N S w it tg && chkSs S b x))
  | .app i e, .Expr (.Call (.Attribute (.Name x _) m ap) [v] [] cp) _ => decide (m = ("append" : Str)) && ((ap.endLine == cp.line) && (decide (N[i]? = some x) && (visB S x && (okName x && (notStar v && chkE cf N S e v)))))
  | .ext i e, .Expr (.Call (.Attribute (.Name x _) m ap) [v] [] cp) _ => decide (m = ("extend" : Str)) && ((ap.endLine == cp.line) && (decide (N[i]? = some x) && (visB S x && (okName x && (notStar v && chkE cf N S e v)))))
  | .ins i a e, .Expr (.Call (.Attribute (.Name x _) m ap) [u, v] [] cp) _ => decide (m = ("insert" : Str)) && ((ap.endLine == cp.line) && (decide (N[i]? = some x) && (visB S x && (okName x && (notStar u && (notStar v && (chkE cf N S a u && chkE cf N S e v)))))))
  | .put i a e, .Assign [.Subscript (.Name x _) u _] v _ => decide (N[i]? = some x) && (visB S x && (okName x && (!isSlice u && (noComp v && (chkE cf N S a u && chkE cf N S e v)))))
  | .ja s e, .Expr (.Call (.Attribute x m ap) [v] [] cp) _ => decide (m = ("append" : Str)) && ((ap.endLine == cp.line) && (chkSrc cf N S s x && (notStar v && chkE cf N S e v)))
  | .ji s e, .Expr (.Call (.Attribute x m ap) [.Constant (.int 0) _ _, v] [] cp) _ => decide (m = ("insert" : Str)) && ((ap.endLine == cp.line) && (chkSrc cf N S s x && (notStar v && chkE cf N S e v)))
  | .js i k e, .Assign [.Subscript (.Name x _) c _] v _ => decide (N[i]? = some x) && (visB S x && (okName x && (chkKey k c && (decide (cf.jk = some (isStrK k)) && (noComp v && chkE cf N S e v)))))
  | .jl j i k, .Assign [.Name y _] (.Subscript (.Name x _) c _) _ => decide (N[j]? = some y) && (S.st y && (decide (N[i]? = some x) && (visB S x && (okName x && (chkKey k c && decide (cf.jk = some (isStrK k)))))))
  | .pass, .Pass _ => true
  | .brk, .Break _ => true
  | .cont, .Continue _ => true
  | .bomb, _ => true
  | .rais c none .nil, .Raise (some (.Call (.Name x _) [] [] _)) none _ => decide (cf.excs[c]? = some (x, none)) && (glB S x && okName x)
  | .rais c (some f) (.cons a .nil), .Raise (some (.Call (.Name x _) [v] [] _)) none _ => decide (cf.excs[c]? = some (x, some f)) && (glB S x && (okName x && (notStar v && chkE cf N S a v)))
  | .tri b hs, .Try body (h :: hds) [] [] _ => chkSs S b body && chkHds cf N S hs (h :: hds)
  | _, _ => false
def chkSs (S : Sc) : Sts → List Stmt → Bool
  | .nil, [] => true
  | .cons s ss, x :: xs => chkS S s x && chkSs S ss xs
  | _, _ => false
end
end
section
variable {cf : Cfg} {J : Jar} {XR : XRT} {C : Calls} {lv : Nat} {X : Cx} {S : Sc} {W : WX} {T : Nat → Nat → Bool} (G : Good cf J XR C lv X S) (hC : CMono C)
include hC
theorem comp_parts (G : Good cf J XR C lv X S) (tk : Takes X W) {c : Ex} {elt : Expr} {gens : List Comprehension} {scope : Scope} {pos : Pos} (h : chkE cf X.N S c (.ListComp elt gens scope pos) = true) :
    ∃ x t w cc own tg iter ifs, c = .comp x t w cc own ∧ gens = [⟨tg, iter, ifs, 0⟩] ∧ BlkOk X.N X.env.scope scope own ∧ notSet iter = true ∧ inOwn own t = true ∧ PI X tg iter (lW X.K J XR C W w) ∧
    (∀ (s : Shared) (H : Hp) (D : Addr) (cl : List (Str × Addr)) (fp : List Addr), PG (X.blk s H scope (compEnvC scope cl D X.env) fp) tg (lG X.K J t)) ∧
    (∀ (s : Shared) (H : Hp) (D : Addr) (cl : List (Str × Addr)) (fp : List Addr), PTs (X.blk s H scope (compEnvC scope cl D X.env) fp) ifs (lT X.K J XR C noW cc)) ∧
    (∀ (s : Shared) (H : Hp) (D : Addr) (cl : List (Str × Addr)) (fp : List Addr), PE (X.blk s H scope (compEnvC scope cl D X.env) fp) elt (lE X.K J XR C noW x)) := by
  cases c with
  | comp x t w cc own =>
    unfold chkE at h
    split at h
    all_goals first | (exact absurd h Bool.false_ne_true) | (rename_i heq; cases heq; done) | (rename_i heq heq2; cases heq; cases heq2; done) | skip
    rename_i heq heq2
    cases heq
    cases heq2
    obtain ⟨h1, g1⟩ := and2 h
    obtain ⟨h2, g2⟩ := and2 g1
    obtain ⟨h3, g3⟩ := and2 g2
    obtain ⟨h4, g4⟩ := and2 g3
    obtain ⟨h5, g5⟩ := and2 g4
    obtain ⟨h6, g6⟩ := and2 g5
    obtain ⟨h7, h8⟩ := and2 g6
    cases of_decide_eq_true h1
    have ok := blkOk_by h2
    rw [← G.sc] at ok
    refine ⟨_, _, _, _, _, _, _, _, rfl, rfl, ok, h3, h4, snd_W hC _ G tk h5, fun s H D cl fp => s_tg (G.blk ok.kind s H D cl fp) h6, fun s H D cl fp => ?_, fun s H D cl fp => (snd_E hC _ (G.blk ok.kind s H D cl fp) noTakes h8).1⟩
    split at h7
    · refine pts_nil.imp fun pins s σ H Q I ⟨F, Z, r, Y, R, hx, q⟩ => ?_
      unfold tsW at q
      exact q H Z (.refl _) R
    · exact pts_one (snd_T hC _ (G.blk ok.kind s H D cl fp) noTakes h7).1
    · cases h7
  | jp s b => cases b <;> (unfold chkE at h; exact absurd h Bool.false_ne_true)
  | lw w => cases w <;> (unfold chkE at h; exact absurd h Bool.false_ne_true)
  | _ =>
    unfold chkE at h
    exact absurd h Bool.false_ne_true
include G
theorem c_setA (tk : Takes X W) {i : Nat} {e : Ex} {x : Str} {ee : Expr} {p pos : Pos} (h1 : X.N[i]? = some x) (h2 : S.st x = true) (h : chkE cf X.N S e ee = true) : PS X (.Assign [.Name x p] ee pos) (lS X.K J XR C T W (.set i e)) := by
  by_cases hn : noComp ee = true
  · exact c_set G hC h1 h2 (snd_E hC e G tk h).1 (by cases ee <;> first | rfl | cases hn)
  · have hl : ∃ elt gens scope cp, ee = .ListComp elt gens scope cp := by
      cases ee <;> first | exact ⟨_, _, _, _, rfl⟩ | (exact absurd rfl hn) | skip
      all_goals (exfalso; cases e <;> first | (unfold chkE at h; exact absurd h Bool.false_ne_true) | (rename_i s b; cases b <;> (unfold chkE at h; exact absurd h Bool.false_ne_true)) | (rename_i w; cases w <;> (unfold chkE at h; exact absurd h Bool.false_ne_true)))
    obtain ⟨elt, gens, scope, cp, rfl⟩ := hl
    have hb : (X.env.blockKind == .function) = true := by unfold Env.blockKind; rw [G.sc, G.kd]; rfl
    have hsw : swapsWith (.ListComp elt gens scope cp) (some (.Name x p)) pos.line X.env = pure ((X.env.kindOf x == some .local) && (p.line == cp.line) && !(scope.names.any fun (n, k) => n == x && (k == .local || k == .cell))) := by
      show (pure (X.env.blockKind == .function && X.env.kindOf x == some .local && p.line == cp.line && !(scope.names.any fun (n, k) => n == x && (k == .local || k == .cell))) : Sem Bool) = _
      rw [hb, Bool.true_and]
    generalize hv : ((X.env.kindOf x == some .local) && (p.line == cp.line) && !(scope.names.any fun (n, k) => n == x && (k == .local || k == .cell))) = bv at hsw
    cases bv with
    | false => exact c_set G hC h1 h2 (snd_E hC e G tk h).1 hsw
    | true =>
      obtain ⟨y, t, w, cc, own, tg, iter, ifs, rfl, rfl, ok, ns, ho, hi, hg, ht, he⟩ := comp_parts hC G tk h
      have hyl : X.env.scope.names.lookup x = some .local := by
        rw [Bool.and_eq_true, Bool.and_eq_true] at hv
        exact eq_of_beq hv.1.1
      have key := (s_comp (pos := cp) G hC ok ho ns hi hg ht he).1
      exact (ps_setLc G.calm G.nd h1 hyl hsw hi ok hg ht he (by intro z; cases iter <;> first | rfl | cases ns)).imp fun pins s D σ H I q => key pins s σ H _ I (c_asg (te := lE X.K J XR C W (.comp y t w cc own)) hC q)
end
end G

set_option linter.all false
set_option maxRecDepth 100000
set_option Elab.async false
/-! So: every statement that is checked does what its core term says. -/
namespace G
open PySem PySem.Spec PyProof.Rows L2
theorem Rel.setAl {K : PySem.W.Frag} {J : Jar} {F : Fm} {σ : L2.St} {H Z : Hp} {r : En} (R : Rel K J F σ H Z r) {j : Nat} {k : Sum Int Str} {l : Addr} (hl : J.L k = some l) (ha : J.A l) : Rel K J F (σ.set j (some (.ref l))) H Z (r.set j (.al k)) := by
  have out : ∀ {m : Nat} {s : Slot}, rd (r.set j (.al k)) m = s → (∀ k2, s ≠ .al k2) → s ≠ .un → j ≠ m ∧ rd r m = s := fun {m s} e n n2 => by
    by_cases q : j = m
    · subst q
      by_cases il : j < r.length
      · rw [rd_same il] at e
        exact absurd e.symm (n k)
      · have := rd_lt (r := r.set j (.al k)) (i := j) (by rw [e]; exact n2)
        rw [En.length_set] at this
        exact absurd this il
    · rw [rd_ne q] at e
      exact ⟨q, e⟩
  refine ⟨R.sub, R.frame, R.jar, R.jz, by rw [List.length_set, En.length_set]; exact R.len, fun m d e => ?_, fun m ds e => ?_, fun m m2 ds es a e e2 h1 h2 => ?_, R.zs, R.zo, R.ng, R.gf, fun m k2 e => ?_⟩
  · obtain ⟨q, e⟩ := out e (fun _ z => by cases z) (fun z => by cases z)
    rw [List.getElem?_set_ne q]
    exact R.fz m d e
  · obtain ⟨q, e⟩ := out e (fun _ z => by cases z) (fun z => by cases z)
    rw [List.getElem?_set_ne q]
    exact R.ow m ds e
  · obtain ⟨q, e⟩ := out e (fun _ z => by cases z) (fun z => by cases z)
    obtain ⟨q2, e2⟩ := out e2 (fun _ z => by cases z) (fun z => by cases z)
    rw [List.getElem?_set_ne q] at h1
    rw [List.getElem?_set_ne q2] at h2
    exact R.sep m m2 ds es a e e2 h1 h2
  · by_cases q : j = m
    · subst q
      have il : j < r.length := by
        have := rd_lt (r := r.set j (.al k)) (i := j) (by rw [e]; exact fun z => by cases z)
        rwa [En.length_set] at this
      rw [rd_same il] at e
      cases e
      exact ⟨l, hl, ha, by rw [List.getElem?_set_self (by rw [R.len]; exact il)]⟩
    · rw [rd_ne q] at e
      rw [List.getElem?_set_ne q]
      exact R.al m k2 e
theorem asg_ex {i : Nat} {r : En} {x : Rz} {k : En → Prop} (h : asg i r x k) : ∃ r1, k r1 := by
  unfold asg at h
  (repeat' split at h) <;> first | exact ⟨_, h⟩ | exact h.elim
theorem RsOk.grow {K : PySem.W.Frag} {J : Jar} {σ : L2.St} {H Z : Hp} {r : En} {F : Fm} {xs : List Rz} {vs : List V} {p : Addr} {o : HO} (h : RsOk K J σ H Z r F xs vs) (hp : H p = none) : RsOk K J σ (upd H p o) Z r F xs vs := by
  induction h with
  | nil => exact .nil
  | val h1 h2 ih => exact .val h1 ih
  | @new F1 ds a ws xs vs h1 h2 h3 h4 h5 h6 h7 h8 ih => exact .new (by rw [upd_ne]; exact h1; rintro rfl; rw [hp] at h1; cases h1) h2 h3 h4 h5 h6 h7 ih
theorem asgs_len : ∀ {is : List Nat} {xs : List Rz} {r : En} {k : En → Prop}, asgs is xs r k → xs.length = is.length
  | [], [], _, _, _ => rfl
  | i :: is, x :: xs, r, k, h => by
    unfold asgs at h
    obtain ⟨r1, h1⟩ := asg_ex h
    rw [List.length_cons, List.length_cons, asgs_len h1]
  | [], _ :: _, _, _, h => (show False from h).elim
  | _ :: _, [], _, _, h => (show False from h).elim
section
variable {cf : Cfg} {J : Jar} {XR : XRT} {C : Calls} {lv : Nat} {X : Cx} {S : Sc} {W : WX} {T : Nat → Nat → Bool} (G : Good cf J XR C lv X S) (hC : CMono C)
include G hC
theorem c_par2 {i j : Nat} {es : Exs} {x y : Str} {a b : Expr} {px py pt pt2 pos : Pos} {kt k2 : Nat} (h1 : X.N[i]? = some x) (h2 : X.N[j]? = some y) (ne : i ≠ j) (hx : lk S x = some .local) (hy : lk S y = some .local)
    (hw : swP true (lk S) [.Name x px, .Name y py] [a, b] = some (some [x, y])) (ha : PA X [a, b] (lRs X.K J XR C W es)) : PS X (.Assign [.Tuple [.Name x px, .Name y py] kt pt] (.Tuple [a, b] k2 pt2) pos) (lS X.K J XR C T W (.par [i, j] es)) := by
  have gx : X.env.scope.names.lookup x = some .local := by rw [G.sc]; exact hx
  have gy : X.env.scope.names.lookup y = some .local := by rw [G.sc]; exact hy
  refine (ps_par G.calm G.nd h1 h2 ne gx gy ha (swP_of (by rw [G.sc]; exact G.kd) (by rw [G.sc]; exact hw)) rfl).imp fun pins s D σ H I ⟨F, Z, r, k, R, e, h⟩ => ?_
  unfold stW at h
  refine use_Rs hC R e.xc h fun xs r1 q1 vs H1 Z1 s1 R1 ok => ?_
  have hv := ok.len
  rw [asgs_len q1] at hv
  match vs, hv, ok with
  | [u, w], _, ok =>
    obtain ⟨r2, R2, q2⟩ := R1.asgs ok q1
    exact ⟨u, w, rfl, e.nx r2 q2 _ H1 Z1 s1 R2⟩
theorem c_parT {i j : Nat} {es : Exs} {x y : Str} {a b : Expr} {px py pt pt2 pos : Pos} {kt k2 : Nat} (h1 : X.N[i]? = some x) (h2 : X.N[j]? = some y) (hx : S.st x = true) (hy : S.st y = true)
    (hw : swP true (lk S) [.Name x px, .Name y py] [a, b] = some none) (ha : PA X [a, b] (lRs X.K J XR C W es)) : PS X (.Assign [.Tuple [.Name x px, .Name y py] kt pt] (.Tuple [a, b] k2 pt2) pos) (lS X.K J XR C T W (.par [i, j] es)) := by
  obtain ⟨g3, g4⟩ := G.st x hx
  obtain ⟨g5, g6⟩ := G.st y hy
  refine (ps_asg (pe_tup ha) (pg_tup G.calm (pgs_cons (pg_name G.nd h1 g3 g4) (pgs_cons (pg_name G.nd h2 g5 g6) pgs_nil)) rfl rfl) rfl (swP_of (by rw [G.sc]; exact G.kd) (by rw [G.sc]; exact hw)) rfl).imp fun pins s D σ H I ⟨F, Z, r, k, R, e, h⟩ => ?_
  unfold stW at h
  refine use_Rs hC R e.xc h fun xs r1 q1 vs H1 Z1 s1 R1 ok => ?_
  have hv := ok.len
  rw [asgs_len q1] at hv
  match vs, hv, ok with
  | [u, w], _, ok =>
    refine ⟨by show 2 ≤ sizeLine; decide, fun p hp => ?_⟩
    obtain ⟨r2, R2, q2⟩ := (R1.grow (o := .tup [u, w]) hp).asgs (ok.grow hp) q1
    exact ⟨p, [u, w], rfl, .inl (.inl upd_same), rfl, u, [w], rfl, w, [], rfl, rfl, e.nx r2 q2 _ _ Z1 s1 R2⟩
theorem c_par3 {i j l : Nat} {es : Exs} {x y z : Str} {a b c : Expr} {px py pz pt pt2 pos : Pos} {kt k2 : Nat} (h1 : X.N[i]? = some x) (h2 : X.N[j]? = some y) (h3 : X.N[l]? = some z) (ne : i ≠ j ∧ i ≠ l ∧ j ≠ l) (hx : lk S x = some .local) (hy : lk S y = some .local) (hz : lk S z = some .local)
    (hw : swP true (lk S) [.Name x px, .Name y py, .Name z pz] [a, b, c] = some (some [x, y, z])) (ha : PA X [a, b, c] (lRs X.K J XR C W es)) : PS X (.Assign [.Tuple [.Name x px, .Name y py, .Name z pz] kt pt] (.Tuple [a, b, c] k2 pt2) pos) (lS X.K J XR C T W (.par [i, j, l] es)) := by
  have gx : X.env.scope.names.lookup x = some .local := by rw [G.sc]; exact hx
  have gy : X.env.scope.names.lookup y = some .local := by rw [G.sc]; exact hy
  have gz : X.env.scope.names.lookup z = some .local := by rw [G.sc]; exact hz
  refine (ps_par3 G.calm G.nd h1 h2 h3 ne.1 ne.2.1 ne.2.2 gx gy gz ha (swP_of (by rw [G.sc]; exact G.kd) (by rw [G.sc]; exact hw)) rfl).imp fun pins s D σ H I ⟨F, Z, r, k, R, e, h⟩ => ?_
  unfold stW at h
  refine use_Rs hC R e.xc h fun xs r1 q1 vs H1 Z1 s1 R1 ok => ?_
  have hv := ok.len
  rw [asgs_len q1] at hv
  match vs, hv, ok with
  | [u, w, v], _, ok =>
    obtain ⟨r2, R2, q2⟩ := R1.asgs ok q1
    exact ⟨u, w, v, rfl, e.nx r2 q2 _ H1 Z1 s1 R2⟩
end
section
variable {cf : Cfg} {J : Jar} {XR : XRT} {C : Calls} {lv : Nat} {X : Cx} {S : Sc} {W : WX} {T : Nat → Nat → Bool} (G : Good cf J XR C lv X S) (hC : CMono C)
include G
theorem src_dk {s : Src} {e : Expr} (h : chkSrc cf X.N S s e = true) : ∃ dk a, JFacts J a dk := by
  obtain ⟨dk, hdk⟩ : ∃ dk, cf.jk = some dk := by
    unfold chkSrc at h
    split at h
    · exact ⟨_, of_decide_eq_true (and2 (and2 (and2 (and2 h).2).2).2).2⟩
    · exact Option.isSome_iff_exists.mp (and2 (and2 (and2 h).2).2).2
    · cases h
  obtain ⟨a, jf⟩ := G.jf dk hdk
  exact ⟨dk, a, jf⟩
/-- a list of the random state stands when its name is read -/
theorem src_ty {s : Src} {K : PySem.W.Frag} {F : Fm} {Z : Hp} {r : En} {σ : L2.St} {H : Hp} {Q : VK} (R : Rel K J F σ H Z r) {dk : Bool} {a : Addr} (jf : JFacts J a dk) {k : Sum Int Str} {ds : List D} (e1 : srcK r s = some k) (e2 : gget r.g k = some (.list ds))
    (q : ∀ l, J.L k = some l → J.A l → (∃ xs, H l = some (.lst xs)) → Q (.ref l) H) : lSrc K J s σ H Q :=
  ⟨F, Z, r, k, ds, R, e1, e2, fun ns l _ f1 f2 f3 _ => q l f1 f2 ⟨_, f3⟩⟩
omit G in
theorem srcL_of {r : En} {s : Src} (h : srcL r s = true) : ∃ k ds, srcK r s = some k ∧ gget r.g k = some (.list ds) := by
  unfold srcL at h
  split at h
  · rename_i k e
    split at h
    · rename_i ds e2
      exact ⟨k, ds, e, e2⟩
    · cases h
  · cases h
omit G in
theorem src_same {K : PySem.W.Frag} {F F1 : Fm} {Z Z1 : Hp} {r r1 : En} {σ : L2.St} {H H1 : Hp} (R : Rel K J F σ H Z r) (R1 : Rel K J F1 σ H1 Z1 r1) {s : Src} {k k1 : Sum Int Str} {l : Addr} (e : srcK r s = some k) (e1 : srcK r1 s = some k1) (hl : J.L k = some l) : J.L k1 = some l := by
  cases s with
  | fld i k2 =>
    unfold srcK at e e1
    dsimp only at e e1
    split at e
    · split at e1
      · cases e
        cases e1
        exact hl
      · cases e1
    · cases e
  | al i =>
    unfold srcK at e e1
    dsimp only at e e1
    split at e
    · rename_i k2 ea
      split at e1
      · rename_i k3 eb
        cases e
        cases e1
        obtain ⟨l1, f1, f2, f3⟩ := R.al _ _ ea
        obtain ⟨l2, g1, g2, g3⟩ := R1.al _ _ eb
        rw [hl] at f1
        cases f1
        rw [f3] at g3
        cases g3
        exact g1
      · cases e1
    · cases e
omit G in
/-- the list itself, at a later state -/
theorem jf_list {a : Addr} {dk : Bool} (jf : JFacts J a dk) {g : Gh} {H : Hp} {k : Sum Int Str} {ds : List D} {l : Addr} (hp : J.P g H) (e : gget g k = some (.list ds)) (hl : J.L k = some l) : ∃ ns : List Int, ds = ns.map .int ∧ J.A l ∧ H l = some (.lst (ns.map V.int)) ∧ ns.length ≤ sizeLine := by
  obtain ⟨v, _, hv⟩ := jf.get _ _ _ _ hp e
  rcases hv with ⟨n, z, _⟩ | ⟨ns, l2, z, _, y1, y2, y3, y4⟩
  · cases z
  · cases z
    rw [hl] at y1
    cases y1
    exact ⟨ns, rfl, y2, y3, y4⟩
include hC
theorem c_ja {s : Src} {e : Ex} {x ee : Expr} {ap cp pos : Pos} (hs : chkSrc cf X.N S s x = true) (hl : (ap.endLine == cp.line) = true) (hn : notStar ee = true) (ha : PE X ee (lE X.K J XR C W e)) :
    PS X (.Expr (.Call (.Attribute x "append" ap) [ee] [] cp) pos) (lS X.K J XR C T W (.ja s e)) := by
  obtain ⟨dk, a, jf⟩ := src_dk G hs
  refine (ps_expr (pe_bm PySem.F.plainAttrs_list PySem.F.slot_list_append PySem.F.type_list_append mt_append (j_src (J := J) G hs) (pa_cons ha pa_nil (star_of hn)) (src_base G hs) (by rw [star_of hn]; rfl) hl (star_of hn) rfl)).imp fun pins s2 D σ H I ⟨F, Z, r, k, R, e, h⟩ => ?_
  unfold stW at h
  obtain ⟨h0, h⟩ := h
  obtain ⟨k0, ds0, e1, e2⟩ := srcL_of h0
  refine ⟨F, Z, r, k0, ds0, R, e1, e2, fun ns0 l _ f1 f2 f3 _ => ⟨.inl ⟨rfl, _, .of f3⟩, use_pin hC R e.xc h fun x1 r1 h1 v H1 Z1 s1 R1 p1 => ?_⟩⟩
  obtain ⟨d, hd, h2⟩ := R1.der p1 h1
  split at h2
  · rename_i n
    cases rep_int hd
    split at h2
    · rename_i k1 g1
      split at h2
      · rename_i ds g2
        have hl1 := src_same R R1 e1 g1 f1
        obtain ⟨ns, rfl, y2, y3, y4⟩ := jf_list jf R1.jar g2 hl1
        obtain ⟨lt, h2⟩ := h2
        have lt' : ns.length < sizeLine := by rw [szl]; rw [List.length_map] at lt; exact lt
        have hp := jf.putL _ _ _ _ l (ns ++ [n]) R1.jar g2 hl1 (by rw [List.length_append]; exact lt')
        rw [List.map_append, List.map_append] at hp
        refine ⟨l, _, _, rfl, rfl, y3, by rw [List.length_map]; exact lt', e.nx _ h2 σ _ Z1 s1 (R1.jput (upd_off y2) hp)⟩
      · exact h2.elim
    · exact h2.elim
  · exact h2.elim
theorem c_ji {s : Src} {e : Ex} {x ee : Expr} {ap cp pos pk : Pos} {kk : Nat} (hs : chkSrc cf X.N S s x = true) (hl : (ap.endLine == cp.line) = true) (hn : notStar ee = true) (ha : PE X ee (lE X.K J XR C W e)) :
    PS X (.Expr (.Call (.Attribute x "insert" ap) [.Constant (.int 0) kk pk, ee] [] cp) pos) (lS X.K J XR C T W (.ji s e)) := by
  obtain ⟨dk, a, jf⟩ := src_dk G hs
  refine (ps_expr (pe_bm PySem.F.plainAttrs_list PySem.F.slot_list_insert PySem.F.type_list_insert mt_insert (j_src (J := J) G hs) (pa_cons pe_int (pa_cons ha pa_nil (star_of hn)) rfl) (src_base G hs) (by rw [star_of (e := .Constant (.int 0) kk pk) rfl, star_of hn]; rfl) hl rfl (by rw [star_of hn]; rfl))).imp fun pins s2 D σ H I ⟨F, Z, r, k, R, e, h⟩ => ?_
  unfold stW at h
  obtain ⟨h0, h⟩ := h
  obtain ⟨k0, ds0, e1, e2⟩ := srcL_of h0
  refine ⟨F, Z, r, k0, ds0, R, e1, e2, fun ns0 l _ f1 f2 f3 _ => ⟨.inl ⟨rfl, _, .of f3⟩, use_pin hC R e.xc h fun x1 r1 h1 v H1 Z1 s1 R1 p1 => ?_⟩⟩
  obtain ⟨d, hd, h2⟩ := R1.der p1 h1
  split at h2
  · rename_i n
    cases rep_int hd
    split at h2
    · rename_i k1 g1
      split at h2
      · rename_i ds g2
        have hl1 := src_same R R1 e1 g1 f1
        obtain ⟨ns, rfl, y2, y3, y4⟩ := jf_list jf R1.jar g2 hl1
        obtain ⟨lt, h2⟩ := h2
        have lt' : ns.length < sizeLine := by rw [szl]; rw [List.length_map] at lt; exact lt
        have hp := jf.putL _ _ _ _ l (n :: ns) R1.jar g2 hl1 (by rw [List.length_cons]; exact lt')
        refine ⟨l, _, 0, _, rfl, rfl, y3, by rw [List.length_map]; exact lt', by omega, by omega, e.nx _ h2 σ _ Z1 s1 (R1.jput (upd_off y2) hp)⟩
      · exact h2.elim
    · exact h2.elim
  · exact h2.elim
theorem c_js {i : Nat} {k : Sum Int Str} {e : Ex} {x : Str} {c ee : Expr} {p tp pos : Pos} (h1 : X.N[i]? = some x) (h2 : visB S x = true) (h3 : okName x = true) (hk : chkKey k c = true) (hj : cf.jk = some (isStrK k)) (hc : noComp ee = true) (ha : PE X ee (lE X.K J XR C W e)) :
    PS X (.Assign [.Subscript (.Name x p) c tp] ee pos) (lS X.K J XR C T W (.js i k e)) := by
  obtain ⟨d1, d2⟩ := okName_of G h3
  obtain ⟨a, jf⟩ := G.jf _ hj
  have hu : X.A.units + 1 < cLine := by have := G.room.un; omega
  have core : ∀ {F : Fm} {Z : Hp} {r : En} {σ : L2.St} {H : Hp} {kk : Ks} {D : Ends}, Rel X.K J F σ H Z r → EndsOk X.K J XR F D Z W kk → stW C T (.js i k e) r kk →
      lE X.K J XR C W e σ H fun v H1 => σ[i]? = some (some (.ref a)) ∧ ∃ o, JPut (isStrK k) H1 a k v o ∧ D.nx σ (upd H1 a o) := by
    intro F Z r σ H kk D R e0 h
    unfold stW at h
    refine use_pin hC R e0.xc h fun x1 r1 q1 v H1 Z1 s1 R1 p1 => ?_
    obtain ⟨d, hd, q2⟩ := R1.der p1 q1
    split at q2
    · rename_i n
      cases rep_int hd
      obtain ⟨ej, q2⟩ := q2
      split at q2
      · rename_i m g2
        obtain ⟨a', y1, y2⟩ := R1.jarAt ej
        rw [jf.at_] at y1
        cases y1
        obtain ⟨o, y3, y4⟩ := jf.putI _ _ _ _ n R1.jar g2
        exact ⟨y2, o, y3, e0.nx _ q2 σ _ Z1 s1 (R1.jput (upd_off jf.ja) y4)⟩
      · exact q2.elim
    · exact q2.elim
  rcases key_of hk with ⟨y, n, q, rfl, rfl⟩ | ⟨y, n, q, rfl, rfl⟩
  · refine (ps_dput hu (pe_var h1 (G.vis h2) d1 d2) pe_str ha (by cases ee <;> first | rfl | cases hc)).imp fun pins s D σ H I ⟨F, Z, r, kk, R, e0, h⟩ => ?_
    obtain ⟨F1, Z1, r1, Y1, R1, x1, w1⟩ := core R e0 h
    refine ⟨F1, Z1, r1, Y1, R1, x1, exW_mono hC e (fun xx rr qq v H' Z' s' R' p' => ?_) (fun _ _ z => z) w1⟩
    obtain ⟨g1, o, g2, g3⟩ := qq v H' Z' s' R' p'
    have g2' : ∃ kvs x, (Sum.inr y : Sum Int Str) = .inr x ∧ H' a = some (.dK kvs) ∧ kvs.length < sizeLine ∧ o = .dK (putK kvs (.inr y) v) := g2
    obtain ⟨kvs, _, _, g4, g5, rfl⟩ := g2'
    exact ⟨_, g1, a, _, rfl, DPut.k (k := Sum.inr y) g4 g5, g3⟩
  · refine (ps_asg ha (pg_sub (pe_var h1 (G.vis h2) d1 d2) pe_int set_list (by intro v; rfl)) (by cases ee <;> first | rfl | cases hc) (by cases ee <;> rfl)).imp fun pins s D σ H I ⟨F, Z, r, kk, R, e0, h⟩ => ?_
    obtain ⟨F1, Z1, r1, Y1, R1, x1, w1⟩ := core R e0 h
    refine ⟨F1, Z1, r1, Y1, R1, x1, exW_mono hC e (fun xx rr qq v H' Z' s' R' p' => ?_) (fun _ _ z => z) w1⟩
    obtain ⟨g1, o, g2, g3⟩ := qq v H' Z' s' R' p'
    have g2' : ∃ vs i j, (Sum.inl y : Sum Int Str) = .inl i ∧ H' a = some (.lst vs) ∧ ixN vs.length i = some j ∧ o = .lst (vs.set j v) := g2
    obtain ⟨vs, i2, j, e3, g4, g5, rfl⟩ := g2'
    cases e3
    exact ⟨_, g1, a, vs, y, j, rfl, rfl, g4, g5, g3⟩
omit hC in
theorem c_jl {j i : Nat} {k : Sum Int Str} {x y : Str} {c : Expr} {p py tp pos : Pos} (hj1 : X.N[j]? = some y) (hj2 : S.st y = true) (h1 : X.N[i]? = some x) (h2 : visB S x = true) (h3 : okName x = true) (hk : chkKey k c = true) (hj : cf.jk = some (isStrK k)) :
    PS X (.Assign [.Name y py] (.Subscript (.Name x p) c tp) pos) (lS X.K J XR C T W (.jl j i k)) := by
  obtain ⟨g3, g4⟩ := G.st y hj2
  refine (ps_set G.nd hj1 g3 (j_fld (J := J) G h1 h2 h3 hk hj) rfl g4).imp fun pins s D σ H I ⟨F, Z, r, kk, R, e0, h⟩ => ?_
  unfold stW at h
  obtain ⟨ej, h⟩ := h
  split at h
  · rename_i ds e2
    refine ⟨F, Z, r, _, R, ej, e2, fun v hv => ?_⟩
    rcases hv with ⟨n, z, _⟩ | ⟨ns, l, z, rfl, f1, f2, f3, f4⟩
    · cases z
    · refine e0.nx _ h _ H Z (.refl _) ?_
      exact R.setAl f1 f2
  · exact h.elim
end
section
variable {cf : Cfg} {J : Jar} {XR : XRT} {C : Calls} {lv : Nat} {X : Cx} {S : Sc} {W : WX} {T : Nat → Nat → Bool} {ad : Nat → Addr} (G : Good cf J XR C lv X S) (hC : CMono C) (B : Bod cf J XR ad T X S)
include G B
theorem c_rais0 (tk : Takes X W) {c : Nat} {x : Str} {p p2 pos : Pos} (hc : cf.excs[c]? = some (x, none)) (hg : glB S x = true) (ok : okName x = true) : PS X (.Raise (some (.Call (.Name x p) [] [] p2)) none pos) (lS X.K J XR C T W (.rais c none .nil)) := by
  have A := B.ef.at_ c _ hc
  refine (ps_raise G.calm tk (pmk_nul (A.m0 rfl) A.gC A.kC (raises_own A.sub A.ty) (G.gl hg) (okName_of G ok).1)).imp fun pins s D σ H I ⟨F, Z, r, k, R, e, h⟩ => ?_
  unfold stW exsW at h
  refine e.ex _ r h σ H Z _ _ (.refl _) R ?_
  rw [B.xr]
  exact ⟨_, hc, rfl, .inl ⟨rfl, rfl, rfl⟩⟩
include hC
theorem c_raisF (tk : Takes X W) {c : Nat} {x f : Str} {a : Ex} {v : Expr} {p p2 pos : Pos} (hc : cf.excs[c]? = some (x, some f)) (hg : glB S x = true) (ok : okName x = true) (ns : notStar v = true) (ha : PE X v (lE X.K J XR C W a)) :
    PS X (.Raise (some (.Call (.Name x p) [v] [] p2)) none pos) (lS X.K J XR C T W (.rais c (some f) (.cons a .nil))) := by
  have A := B.ef.at_ c _ hc
  refine (ps_raise G.calm tk (pmk_fld (A.mf f rfl) A.gC A.kC (raises_own A.sub A.ty) G.room (pa_cons ha pa_nil (star_of ns)) (G.gl hg) (okName_of G ok).1 (star1 hC ns))).imp fun pins s D σ H I ⟨F, Z, r, k, R, e, h⟩ => ?_
  unfold stW exsW at h
  refine use_E hC R e.xc h fun x r1 h1 v H1 Z1 s1 R1 p1 => ?_
  obtain ⟨d, r2, Z2, s2, R2, hd, h2⟩ := R1.frz p1 h1
  unfold exsW at h2
  refine ⟨v, rfl, fun dd hdd => ?_⟩
  refine e.ex _ r2 h2 σ _ Z2 _ _ (s1.trans s2) (R2.grow hdd) ?_
  rw [B.xr]
  exact ⟨_, hc, rfl, .inr ⟨f, dd, v, d, rfl, rfl, rfl, upd_same, hd⟩⟩
end
section
variable {cf : Cfg} {J : Jar} {XR : XRT} {C : Calls} {lv : Nat} {T : Nat → Nat → Bool} {ad : Nat → Addr} (hC : CMono C)
theorem Good.tr {X : Cx} {S : Sc} (G : Good cf J XR C lv X S) (pn : List (Addr × Obj)) (xe : Value → Shared → Prop) : Good cf J XR C lv (X.tr pn xe) S := ⟨G.calm, G.room, G.gd, G.nd, G.sc, G.kd, G.st, G.facts, G.jf, G.sf, G.fns⟩
theorem Bod.tr {X : Cx} {S : Sc} (B : Bod cf J XR ad T X S) (pn : List (Addr × Obj)) (xe : Value → Shared → Prop) : Bod cf J XR ad T (X.tr pn xe) S := ⟨B.st, B.fr, B.ef, B.xr⟩
include hC
mutual
theorem snd_S : ∀ (c : St) {X : Cx} {S : Sc} {W : WX} (G : Good cf J XR C lv X S) (tk : Takes X W) (po : PassesOwn (model X.prog X.w) X.A X.env X.xe) (B : Bod cf J XR ad T X S) {e : Stmt}, chkS cf X.N S c e = true → PS X e (lS X.K J XR C T W c)
  | .set i x, X, S, W, G, tk, po, B, e, h => by
    unfold chkS at h
    split at h
    all_goals first | (exact absurd h Bool.false_ne_true) | (rename_i heq; cases heq; done) | (rename_i heq; cases heq)
    exact c_setA G hC tk (of_decide_eq_true (and2 h).1) (and2 (and2 h).2).1 (and2 (and2 h).2).2
  | .par is es, X, S, W, G, tk, po, B, e, h => by
    unfold chkS at h
    split at h
    all_goals first | (exact absurd h Bool.false_ne_true) | (rename_i heq; cases heq; done) | (rename_i heq; cases heq)
    · obtain ⟨h1, g1⟩ := and2 h
      obtain ⟨h2, g2⟩ := and2 g1
      obtain ⟨h3, g3⟩ := and2 g2
      obtain ⟨h4, h7⟩ := and2 g3
      rcases Bool.or_eq_true _ _ ▸ h4 with h4 | h4
      · obtain ⟨h4, h5⟩ := and2 h4
        obtain ⟨h5, h6⟩ := and2 h5
        exact c_par2 G hC (of_decide_eq_true h1) (of_decide_eq_true h2) (of_decide_eq_true h3) (of_decide_eq_true h4) (of_decide_eq_true h5) (of_decide_eq_true h6) (snd_Rs hC _ G tk h7)
      · obtain ⟨h4, h5⟩ := and2 h4
        obtain ⟨h5, h6⟩ := and2 h5
        exact c_parT G hC (of_decide_eq_true h1) (of_decide_eq_true h2) h4 h5 (of_decide_eq_true h6) (snd_Rs hC _ G tk h7)
    · obtain ⟨h1, g1⟩ := and2 h
      obtain ⟨h2, g2⟩ := and2 g1
      obtain ⟨h3, g3⟩ := and2 g2
      obtain ⟨h4, g4⟩ := and2 g3
      obtain ⟨h5, g5⟩ := and2 g4
      obtain ⟨h6, g6⟩ := and2 g5
      obtain ⟨h7, g7⟩ := and2 g6
      obtain ⟨h8, h9⟩ := and2 g7
      exact c_par3 G hC (of_decide_eq_true h1) (of_decide_eq_true h2) (of_decide_eq_true h3) (of_decide_eq_true h4) (of_decide_eq_true h5) (of_decide_eq_true h6) (of_decide_eq_true h7) (of_decide_eq_true h8) (snd_Rs hC _ G tk h9)
  | .unp t x, X, S, W, G, tk, po, B, e, h => by
    unfold chkS at h
    split at h
    all_goals first | (exact absurd h Bool.false_ne_true) | (rename_i heq; cases heq; done) | (rename_i heq; cases heq)
    obtain ⟨h1, g1⟩ := and2 h
    obtain ⟨h2, h3⟩ := and2 g1
    rename_i ts kk pp v pos
    have hw : swappedStores [.Tuple ts kk pp] v X.env = pure none := by
      cases v <;> first
        | exact swP_of (by rw [G.sc]; exact G.kd) (by rw [G.sc]; exact of_decide_eq_true h3)
        | rfl
    exact c_unp hC (snd_E hC x G tk h2).1 (s_tg G h1) (by cases v <;> rfl) hw rfl
  | .ret x, X, S, W, G, tk, po, B, e, h => by
    unfold chkS at h
    split at h
    all_goals first | (exact absurd h Bool.false_ne_true) | (rename_i heq; cases heq; done) | (rename_i heq; cases heq)
    exact c_ret hC (snd_E hC x G tk h).1
  | .retN, X, S, W, G, tk, po, B, e, h => by
    unfold chkS at h
    split at h
    all_goals first | (exact absurd h Bool.false_ne_true) | (rename_i heq; cases heq; done) | (rename_i heq; cases heq)
    exact c_retN
  | .drop x, X, S, W, G, tk, po, B, e, h => by
    unfold chkS at h
    split at h
    all_goals first | (exact absurd h Bool.false_ne_true) | (rename_i heq; cases heq; done) | (rename_i heq; cases heq)
    rename_i v pos
    exact c_drop hC (snd_E hC x G tk (and2 h).2).1 (by have := (and2 h).1; cases v <;> first | rfl | cases this)
  | .ifs t a b, X, S, W, G, tk, po, B, e, h => by
    have ia := @snd_Ss a
    have ib := @snd_Ss b
    unfold chkS at h
    split at h
    all_goals first | (exact absurd h Bool.false_ne_true) | (rename_i heq; cases heq; done) | (rename_i heq; cases heq)
    exact c_if hC (snd_T hC t G tk (and2 h).1).1 (ia G tk po B (and2 (and2 h).2).1) (ib G tk po B (and2 (and2 h).2).2)
  | .whl t b, X, S, W, G, tk, po, B, e, h => by
    have ib := @snd_Ss b
    unfold chkS at h
    split at h
    all_goals first | (exact absurd h Bool.false_ne_true) | (rename_i heq; cases heq; done) | (rename_i heq; cases heq)
    exact c_while hC po (snd_T hC t G tk (and2 h).1).1 (ib G tk po B (and2 h).2)
  | .fr t w b, X, S, W, G, tk, po, B, e, h => by
    have ib := @snd_Ss b
    unfold chkS at h
    split at h
    all_goals first | (exact absurd h Bool.false_ne_true) | (rename_i heq; cases heq; done) | (rename_i heq; cases heq)
    obtain ⟨h1, g1⟩ := and2 h
    obtain ⟨h2, g2⟩ := and2 g1
    obtain ⟨h3, h4⟩ := and2 g2
    exact c_for hC po G.calm h1 (snd_W hC w G tk h3) (s_tg G h2) (ib G tk po B h4)
  | .app i x, X, S, W, G, tk, po, B, e, h => by
    unfold chkS at h
    split at h
    all_goals first | (exact absurd h Bool.false_ne_true) | (rename_i heq; cases heq; done) | (rename_i heq; cases heq)
    obtain ⟨h1, g1⟩ := and2 h
    obtain ⟨h2, g2⟩ := and2 g1
    obtain ⟨h3, g3⟩ := and2 g2
    obtain ⟨h4, g4⟩ := and2 g3
    obtain ⟨h5, g5⟩ := and2 g4
    obtain ⟨h6, h7⟩ := and2 g5
    cases of_decide_eq_true h1
    exact c_app G hC (of_decide_eq_true h3) h4 h5 h2 h6 (snd_E hC x G tk h7).1
  | .ext i x, X, S, W, G, tk, po, B, e, h => by
    unfold chkS at h
    split at h
    all_goals first | (exact absurd h Bool.false_ne_true) | (rename_i heq; cases heq; done) | (rename_i heq; cases heq)
    obtain ⟨h1, g1⟩ := and2 h
    obtain ⟨h2, g2⟩ := and2 g1
    obtain ⟨h3, g3⟩ := and2 g2
    obtain ⟨h4, g4⟩ := and2 g3
    obtain ⟨h5, g5⟩ := and2 g4
    obtain ⟨h6, h7⟩ := and2 g5
    cases of_decide_eq_true h1
    exact c_ext G hC (of_decide_eq_true h3) h4 h5 h2 h6 (snd_E hC x G tk h7).1
  | .ins i a x, X, S, W, G, tk, po, B, e, h => by
    unfold chkS at h
    split at h
    all_goals first | (exact absurd h Bool.false_ne_true) | (rename_i heq; cases heq; done) | (rename_i heq; cases heq)
    obtain ⟨h1, g1⟩ := and2 h
    obtain ⟨h2, g2⟩ := and2 g1
    obtain ⟨h3, g3⟩ := and2 g2
    obtain ⟨h4, g4⟩ := and2 g3
    obtain ⟨h5, g5⟩ := and2 g4
    obtain ⟨h6, g6⟩ := and2 g5
    obtain ⟨h7, g7⟩ := and2 g6
    obtain ⟨h8, h9⟩ := and2 g7
    cases of_decide_eq_true h1
    exact c_ins G hC (of_decide_eq_true h3) h4 h5 h2 h6 h7 (snd_E hC a G tk h8).1 (snd_E hC x G tk h9).1
  | .put i a x, X, S, W, G, tk, po, B, e, h => by
    unfold chkS at h
    split at h
    all_goals first | (exact absurd h Bool.false_ne_true) | (rename_i heq; cases heq; done) | (rename_i heq; cases heq)
    obtain ⟨h1, g1⟩ := and2 h
    obtain ⟨h2, g2⟩ := and2 g1
    obtain ⟨h3, g3⟩ := and2 g2
    obtain ⟨h4, g4⟩ := and2 g3
    obtain ⟨h5, g5⟩ := and2 g4
    obtain ⟨h6, h7⟩ := and2 g5
    exact c_put G hC (of_decide_eq_true h1) h2 h3 (by simpa using h4) h5 (snd_E hC a G tk h6).1 (snd_E hC x G tk h7).1
  | .ja s x, X, S, W, G, tk, po, B, e, h => by
    unfold chkS at h
    split at h
    all_goals first | (exact absurd h Bool.false_ne_true) | (rename_i heq; cases heq; done) | (rename_i heq; cases heq)
    obtain ⟨h1, g1⟩ := and2 h
    obtain ⟨h2, g2⟩ := and2 g1
    obtain ⟨h3, g3⟩ := and2 g2
    obtain ⟨h4, h5⟩ := and2 g3
    cases of_decide_eq_true h1
    exact c_ja G hC h3 h2 h4 (snd_E hC x G tk h5).1
  | .ji s x, X, S, W, G, tk, po, B, e, h => by
    unfold chkS at h
    split at h
    all_goals first | (exact absurd h Bool.false_ne_true) | (rename_i heq; cases heq; done) | (rename_i heq; cases heq)
    obtain ⟨h1, g1⟩ := and2 h
    obtain ⟨h2, g2⟩ := and2 g1
    obtain ⟨h3, g3⟩ := and2 g2
    obtain ⟨h4, h5⟩ := and2 g3
    cases of_decide_eq_true h1
    exact c_ji G hC h3 h2 h4 (snd_E hC x G tk h5).1
  | .js i k x, X, S, W, G, tk, po, B, e, h => by
    unfold chkS at h
    split at h
    all_goals first | (exact absurd h Bool.false_ne_true) | (rename_i heq; cases heq; done) | (rename_i heq; cases heq)
    obtain ⟨h1, g1⟩ := and2 h
    obtain ⟨h2, g2⟩ := and2 g1
    obtain ⟨h3, g3⟩ := and2 g2
    obtain ⟨h4, g4⟩ := and2 g3
    obtain ⟨h5, g5⟩ := and2 g4
    obtain ⟨h6, h7⟩ := and2 g5
    exact c_js G hC (of_decide_eq_true h1) h2 h3 h4 (of_decide_eq_true h5) h6 (snd_E hC x G tk h7).1
  | .jl j i k, X, S, W, G, tk, po, B, e, h => by
    unfold chkS at h
    split at h
    all_goals first | (exact absurd h Bool.false_ne_true) | (rename_i heq; cases heq; done) | (rename_i heq; cases heq)
    obtain ⟨h1, g1⟩ := and2 h
    obtain ⟨h2, g2⟩ := and2 g1
    obtain ⟨h3, g3⟩ := and2 g2
    obtain ⟨h4, g4⟩ := and2 g3
    obtain ⟨h5, g5⟩ := and2 g4
    obtain ⟨h6, h7⟩ := and2 g5
    exact c_jl G (of_decide_eq_true h1) h2 (of_decide_eq_true h3) h4 h5 h6 (of_decide_eq_true h7)
  | .pass, X, S, W, G, tk, po, B, e, h => by
    unfold chkS at h
    split at h
    all_goals first | (exact absurd h Bool.false_ne_true) | (rename_i heq; cases heq; done) | (rename_i heq; cases heq)
    exact c_pass
  | .brk, X, S, W, G, tk, po, B, e, h => by
    unfold chkS at h
    split at h
    all_goals first | (exact absurd h Bool.false_ne_true) | (rename_i heq; cases heq; done) | (rename_i heq; cases heq)
    exact c_brk
  | .cont, X, S, W, G, tk, po, B, e, h => by
    unfold chkS at h
    split at h
    all_goals first | (exact absurd h Bool.false_ne_true) | (rename_i heq; cases heq; done) | (rename_i heq; cases heq)
    exact c_cont
  | .bomb, X, S, W, G, tk, po, B, e, h => ⟨fun pins s σ H D I q => by
    obtain ⟨F, Z, r, k, R, e0, q⟩ := q
    unfold stW at q
    exact q.elim⟩
  | .rais c none .nil, X, S, W, G, tk, po, B, e, h => by
    unfold chkS at h
    split at h
    all_goals first | (exact absurd h Bool.false_ne_true) | (rename_i heq; cases heq; done) | (rename_i heq; cases heq)
    obtain ⟨h1, h⟩ := and2 h
    obtain ⟨h2, h3⟩ := and2 h
    exact c_rais0 G B tk (of_decide_eq_true h1) h2 h3
  | .rais c (some f) (.cons a .nil), X, S, W, G, tk, po, B, e, h => by
    unfold chkS at h
    split at h
    all_goals first | (exact absurd h Bool.false_ne_true) | (rename_i heq; cases heq; done) | (rename_i heq; cases heq)
    obtain ⟨h1, h⟩ := and2 h
    obtain ⟨h2, h⟩ := and2 h
    obtain ⟨h3, h⟩ := and2 h
    obtain ⟨h4, h5⟩ := and2 h
    exact c_raisF G hC B tk (of_decide_eq_true h1) h2 h3 h4 (snd_E hC a G tk h5).1
  | .rais c none (.cons a as), X, S, W, G, tk, po, B, e, h => by
    unfold chkS at h
    exact absurd h Bool.false_ne_true
  | .rais c (some f) .nil, X, S, W, G, tk, po, B, e, h => by
    unfold chkS at h
    exact absurd h Bool.false_ne_true
  | .rais c (some f) (.cons a (.cons b as)), X, S, W, G, tk, po, B, e, h => by
    unfold chkS at h
    exact absurd h Bool.false_ne_true
  | .tri b hs, X, S, W, G, tk, po, B, e, h => by
    have ib := @snd_Ss b
    unfold chkS at h
    split at h
    all_goals first | (exact absurd h Bool.false_ne_true) | (rename_i heq; cases heq; done) | (rename_i heq; cases heq)
    obtain ⟨h1, h2⟩ := and2 h
    obtain ⟨i1, i2⟩ := cls_ok G B hs h2
    refine (ps_try_cls (tb := fun W => lSs X.K J XR C T W b) B.st B.fr G.nd tk (fun W pn xe tk' po' => ib (G.tr pn xe) tk' po' (B.tr pn xe) h1) i1).imp fun pins s D σ H I ⟨F, Z, r, k, R, e, q⟩ => ?_
    unfold stW at q
    exact ⟨F, Z, r, { k with ex := fun e0 r1 => hdW T k e0 r1 hs }, R, ⟨e.nx, e.rt, e.bk, e.ct, fun e0 r1 q1 σ' H' Z' cls dd s' R' xr => i2 e0 H' Z' cls dd r1 k W F σ' D q1 R' xr (e.mono s')⟩, q⟩
theorem snd_Ss : ∀ (c : Sts) {X : Cx} {S : Sc} {W : WX} (G : Good cf J XR C lv X S) (tk : Takes X W) (po : PassesOwn (model X.prog X.w) X.A X.env X.xe) (B : Bod cf J XR ad T X S) {e : List Stmt}, chkSs cf X.N S c e = true → PSs X e (lSs X.K J XR C T W c)
  | .nil, X, S, W, G, tk, po, B, [], h => c_nil hC
  | .cons a as, X, S, W, G, tk, po, B, e :: es, h => by
    have ia := @snd_S a
    have is := @snd_Ss as
    unfold chkSs at h
    exact c_cons hC (ia G tk po B (and2 h).1) (is G tk po B (and2 h).2)
  | .nil, X, S, W, G, tk, po, B, _ :: _, h => by unfold chkSs at h; cases h
  | .cons _ _, X, S, W, G, tk, po, B, [], h => by unfold chkSs at h; cases h
end
end
end G

set_option linter.all false
set_option maxRecDepth 100000
set_option Elab.async false
/-! Sp: a def of the text keeps its promise. -/
namespace G
open PySem PySem.Spec PyProof.Rows L2
/-- the names that a def stores -/
def defSt (scope : Scope) : Str → Bool := fun x => match scope.names.lookup x with | some .local => true | some .cell => true | _ => false
/-- the whole heap at the entry -/
def fmOf (H Z : Hp) : Fm := ⟨H, fun b => H b ≠ none ∧ Z b = none⟩
theorem rd_start {ns : Nat} {g : Gh} {ds : List D} {i : Nat} {s : Slot} (h : rd (startE ns ds g) i = s) (n : s ≠ .un) : ∃ d, ds[i]? = some d ∧ s = .fz d := by
  unfold rd startE at h
  dsimp only at h
  rw [List.getD_eq_getElem?_getD] at h
  by_cases hi : i < ds.length
  · rw [List.getElem?_append_left (by simpa using hi), List.getElem?_map, List.getElem?_eq_getElem hi] at h
    exact ⟨ds[i], List.getElem?_eq_getElem hi, h.symm⟩
  · rw [List.getElem?_append_right (by simpa using hi), List.getElem?_replicate] at h
    split at h <;> exact absurd h.symm n
theorem rel_start {K : PySem.W.Frag} {J : Jar} {H Z : Hp} {N : List Str} {vs : List V} {ds : List D} {g : Gh} (I : Inn J g H Z) (l : RepL K J Z vs ds) (hl : vs.length ≤ N.length) : Rel K J (fmOf H Z) (L2.start N vs) H Z (startE N.length ds g) := by
  refine ⟨I.sub, fun b o e _ => e, I.jar, I.jz, ?_, fun i d e => ?_, fun i es e => ?_, fun i j es fs a e => ?_, I.zs, I.zo, fun b hb => hb.2, fun b hb => hb.1, fun i k e => ?_⟩
  · unfold L2.start startE En.length
    dsimp only
    rw [List.length_append, List.length_append, List.length_map, List.length_map, List.length_replicate, List.length_replicate, l.length]
  · obtain ⟨d', e1, e2⟩ := rd_start e (fun z => by cases z)
    cases e2
    obtain ⟨v, h1, h2⟩ := l.get e1
    refine ⟨v, ?_, h2⟩
    unfold L2.start
    have : i < vs.length := (List.getElem?_eq_some_iff.mp h1).1
    rw [List.getElem?_append_left (by simpa using this), List.getElem?_map, h1]
    rfl
  · obtain ⟨_, _, e2⟩ := rd_start e (fun z => by cases z)
    cases e2
  · obtain ⟨_, _, e2⟩ := rd_start e (fun z => by cases z)
    cases e2
  · obtain ⟨_, _, e2⟩ := rd_start e (fun z => by cases z)
    cases e2
theorem out_of {K : PySem.W.Frag} {J : Jar} {H Z H' Z' : Hp} {σ : L2.St} {r : En} (s : Same Z Z') (R : Rel K J (fmOf H Z) σ H' Z' r) : Out J H Z r.g H' Z' :=
  ⟨s, R.inn, fun b o e n => R.frame b o e n, fun b h1 h2 => R.ng b ⟨h1, h2⟩⟩
section
variable {P : Program} {w : World} {K : PySem.W.Frag} {mg : Str → Option Value} {base : Heap} {cf : Cfg} {J : Jar} {XR : XRT} {T : Tb} {ad : Nat → Addr} {lv n f : Nat}
theorem fn_df {fa : Addr} {name qual : Str} {params : Arguments} {body : List Stmt} {scope : Scope} {dV kV doc pm cdv ct oc : Value} {an od : Option Addr} {osl : Array (Option Value)} {N ps : List Str} {b : Sts}
    (ok : T.Ok) (lk : K.lookup fa = some ⟨oc, od, .func (PySem.W.fnOf name qual params body scope dV kV doc pm an cdv ct), osl⟩) (hcd : PySem.W.codeIn K cdv qual = true) (FS : FnScope N ps scope)
    (ht : T.fn f = some (.df ps.length N.length b)) (hb : chkSs cf N ⟨scope, defSt scope⟩ b body = true) (facts : Facts cf mg) (jf : ∀ dk, cf.jk = some dk → ∃ a, JFacts J a dk) (sf : cf.js = true → ∃ a, SFacts K J a)
    (EF : ExcF P K mg cf.excs T.sub ad) (hXR : XR = xrt K J cf.excs ad) (fns : ∀ g p, cf.fns[g]? = some p → FnAt P w K mg base J XR (callW T n) lv g p.1 p.2 (cf.dfl.getD g [])) :
    FnG P w K mg base J XR (callW T (n + 1)) (lv + 1) f fa (PySem.W.fnOf name qual params body scope dV kV doc pm an cdv ct) ps := by
  constructor
  intro A outer s H args us vs Q E hr gd e0 bt rv hl ⟨Z, ds, g, inn, rl, hc⟩
  unfold callW at hc
  rw [ht] at hc
  obtain ⟨dl, hc⟩ := hc
  have KX : K.In s.heap := e0.mod.kin.keeps fun b o e => (e0.bs b o e).1
  have lim : s.heap.NoLimit := e0.mod.nolimit.keeps fun b o e => (e0.bs b o e).1
  have hkind : ∀ y ∈ ps.zip us, scope.names.lookup y.1 = some .local ∨ (scope.names.lookup y.1 = some .cell ∧ ((cellsFrom (s.heap.objs.size + 1) scope.names []).lookup y.1).isSome = true) := by
    rintro ⟨m, v⟩ hy
    rcases FS.par m (List.of_mem_zip hy).1 with q | q
    · exact .inl q
    · exact .inr ⟨q, PySem.W.cellsFrom_some _ _ _ (.inl q)⟩
  refine codeAny_call_function hr.depth (KX _ _ lk) rfl FS.co FS.gen rfl (PySem.W.codeRec_of KX hcd) (bt _ _ _ _ ?_)
  refine wpAny_newFunctionEnv_cells FS.kind hkind fun env he s1 x => ?_
  subst he
  refine ⟨lim.keeps x.toInCall.keep, codeAny_func ?_⟩
  have hpl : ps.length ≤ N.length := by
    have := congrArg List.length FS.pre
    rw [List.length_take] at this
    omega
  generalize hX : cxOf (L2.CX P w) P w K mg base N qual scope fa cdv A outer s H E = X
  have I : Inv X [] (L2.start N vs) H s1 := by rw [← hX]; exact inv_start FS hr.hd e0 hl rv x
  have GX : Good cf J XR (callW T n) lv X ⟨scope, defSt scope⟩ := by
    subst hX
    refine ⟨rfl, hr.deeper _, gd, FS.nd, rfl, FS.kind, fun y hy => ⟨?_, .inl rfl⟩, facts, jf, sf, fns⟩
    have hy' : (match scope.names.lookup y with | some .local => true | some .cell => true | _ => false) = true := hy
    show scope.names.lookup y = some .local ∨ scope.names.lookup y = some .cell
    split at hy'
    · exact .inl (by assumption)
    · exact .inr (by assumption)
    · cases hy'
  have tk : Takes X (fun cls d _ H => E cls d H) := by subst hX; exact takes_of rfl rfl rfl rfl
  have po : PassesOwn (model X.prog X.w) X.A X.env X.xe := by subst hX; exact passes_of rfl
  have B : Bod cf J XR ad T.sub X ⟨scope, defSt scope⟩ := by subst hX; exact ⟨rfl, rfl, EF, hXR⟩
  have hN : X.N = N := by subst hX; rfl
  have hprog : X.prog = P ∧ X.w = w ∧ X.A = A.deeper (envOfC qual scope s.heap.objs.size fa cdv) ∧ X.env = envOfC qual scope s.heap.objs.size fa cdv ∧ X.K = K := by subst hX; exact ⟨rfl, rfl, rfl, rfl, rfl⟩
  have hS := snd_Ss (T := T.sub) (callW_mono ok n) b GX tk po B (e := body) (by rw [hN]; exact hb)
  have hq : lSs X.K J XR (callW T n) T.sub (fun cls d _ H => E cls d H) b { nx := fun _ H' => Q .non H', rt := Q } (L2.start N vs) H := by
    rw [hprog.2.2.2.2]
    refine ⟨fmOf H Z, Z, startE N.length ds g, _, rel_start inn rl (by omega), ?_, hc⟩
    refine ⟨fun r q σ H' Z' s2 R => ?_, fun d r q v σ H' Z' s2 R hv => ?_, fun r q => q.elim, fun r q => q.elim, fun e r q σ H' Z' cls dd s2 R xr => ?_⟩
    · exact q .non H' Z' (out_of s2 R) .non
    · exact q v H' Z' (out_of s2 R) hv
    · exact q cls dd H' Z' (out_of s2 R) xr
  have run := hS.run [] s1 (L2.start N vs) H _ I hq
  rw [hprog.1, hprog.2.1, hprog.2.2.1, hprog.2.2.2.1] at run
  refine wpAny_mono run (fun fl s' hs => ?_) fun e s' hs => by subst hX; exact hs
  have fin : ∀ {σ' : L2.St} {H' : Hp} {v : V} {u : Value}, Inv X [] σ' H' s' → RelV v u → Q v H' → CE outer P w H s Q u s' := fun {σ' H' v u} Jv rv q => by
    subst hX
    exact ⟨v, H', Jv.os, Jv.bare, Jv.base, Jv.hok, rv, q⟩
  cases fl with
  | ret u =>
    obtain ⟨v, σ', H', Jv, rv, q⟩ := hs
    exact fin Jv rv q
  | next =>
    obtain ⟨σ', H', Jv, q⟩ := hs
    exact fin (v := V.non) (u := Value.none) Jv rfl q
  | brk =>
    obtain ⟨_, _, _, q⟩ := hs
    exact q.elim
  | cont =>
    obtain ⟨_, _, _, q⟩ := hs
    exact q.elim
end
end G

set_option linter.all false
set_option maxRecDepth 100000
set_option Elab.async false
/-! Sq: all defs of a text at once. -/
namespace G
open PySem PySem.Spec PyProof.Rows L2

/-- a def: its name, its parameters, its slots' names, its core body -/
structure Df where
  nm : Str
  ps : List Str
  N : List Str
  b : Sts
  dv : List Int := []
def scB (N P : List Str) (sc : Scope) : Bool :=
  (match sc.kind with | .function => true | _ => false) && (!sc.isCoroutine && (!sc.isGenerator && (decide N.Nodup && (decide (N.take P.length = P) && (P.all (fun x => match sc.names.lookup x with | some .local => true | some .cell => true | _ => false) && sc.names.all (fun y => match y.2 with | .free => false | _ => true))))))
theorem scB_of {N P : List Str} {sc : Scope} (h : scB N P sc = true) : FnScope N P sc := by
  unfold scB at h
  obtain ⟨h1, h⟩ := and2 h
  obtain ⟨h2, h⟩ := and2 h
  obtain ⟨h3, h⟩ := and2 h
  obtain ⟨h4, h⟩ := and2 h
  obtain ⟨h5, h⟩ := and2 h
  obtain ⟨h6, h7⟩ := and2 h
  refine ⟨?_, by simpa using h2, by simpa using h3, of_decide_eq_true h4, of_decide_eq_true h5, fun x hx => ?_, fun y hy e => ?_⟩
  · split at h1 <;> first | assumption | cases h1
  · have q := List.all_eq_true.mp h6 x hx
    split at q
    · exact .inl (by assumption)
    · exact .inr (by assumption)
    · cases q
  · have q := List.all_eq_true.mp h7 y hy
    rw [e] at q
    cases q
def plainB (a : Arguments) (ps : List Str) : Bool :=
  a.posonlyargs.isEmpty && (a.kwonlyargs.isEmpty && (a.vararg.isNone && (a.kwarg.isNone && decide (a.args.map (·.arg) = ps))))
/-- a def of the text is what its core term says -/
def chkDf (cf : Cfg) (d : Df) (st : Stmt) : Bool := (decide (d.dv = []) || (decide (d.dv.length = 1) && decide (d.ps.length = 2))) && (scB d.N d.ps (defScope st) && (plainB (defArgs st) d.ps && chkSs cf d.N ⟨defScope st, defSt (defScope st)⟩ d.b (defBody st)))
/-- the default of a def's last parameter -/
def DfV (K : PySem.W.Frag) (dV : Value) (dv : List Int) : Prop := (dv = [] ∧ dV = .none) ∨ ∃ (n : Int) (T : Addr) (o : Obj) (k : Nat) (t : Tok), dv = [n] ∧ dV = .ref T ∧ K.lookup T = some o ∧ o.data = .seq #[.int n t] k
/-- where the top has put a def -/
structure DefAt (K : PySem.W.Frag) (nm : Str) (st : Stmt) (dv : List Int) (f : Addr) : Prop where
  ex : ∃ (oc : Value) (od : Option Addr) (dV kV doc pm : Value) (an : Option Addr) (cdv ct : Value) (osl : Array (Option Value)), PySem.W.nsIn K mainGlobals nm = some (some (.ref f)) ∧
    K.lookup f = some ⟨oc, od, .func (PySem.W.fnOf nm nm (defArgs st) (defBody st) (defScope st) dV kV doc pm an cdv ct), osl⟩ ∧ PySem.W.codeIn K cdv nm = true ∧ PySem.W.keepIn K (.ref f) = true ∧ DfV K dV dv
/-- two parameters, the last one with a default -/
theorem bind_two {fd : FuncData} {a b : Str} (h1 : fd.params.posonlyargs = []) (h2 : fd.params.kwonlyargs = []) (h3 : fd.params.vararg = none) (h4 : fd.params.kwarg = none) (h6 : fd.params.args.map (·.arg) = [a, b]) (ne : a ≠ b) (us : List Value) (d : Value) (hu : us.length = 1 ∨ us.length = 2) :
    ∃ k, bindArgs fd ⟨us, []⟩ = seqItems? fd.defaults >>= k ∧ k (some #[d]) = pure ([a, b].zip (us ++ if us.length = 1 then [d] else [])) := by
  have nab : (b == a) = false := beq_eq_false_iff_ne.mpr (Ne.symm ne)
  unfold bindArgs
  dsimp only
  rw [h1, h2, h3, h4, h6]
  refine ⟨_, rfl, ?_⟩
  rcases hu with hu | hu
  · obtain ⟨u, rfl⟩ := List.length_eq_one_iff.mp hu
    simp [List.lookup, nab, List.filter]
  · match us, hu with
    | [u, v], _ => simp [List.lookup, nab, List.filter]
theorem binds_two {K : PySem.W.Frag} {fd : FuncData} {a b : Str} {T : Addr} {o : Obj} {d : Value} {k : Nat} (h1 : fd.params.posonlyargs = []) (h2 : fd.params.kwonlyargs = []) (h3 : fd.params.vararg = none) (h4 : fd.params.kwarg = none) (h6 : fd.params.args.map (·.arg) = [a, b]) (ne : a ≠ b) (h5 : fd.defaults = .ref T) (lT : K.lookup T = some o) (oT : o.data = .seq #[d] k) :
    Binds K fd [a, b] [] ∧ Binds K fd [a, b] [d] := by
  refine ⟨fun s us X hl => ?_, fun s us X hl => ?_⟩
  · have hu : us.length = 2 := by simpa using hl
    obtain ⟨q, e1, e2⟩ := bind_two h1 h2 h3 h4 h6 ne us d (.inr hu)
    refine BindsTo.of_looks fun M => ?_
    rw [e1, h5]
    refine looks_items X lT oT (.of_pure ?_)
    rw [e2, if_neg (by omega)]
  · have hu : us.length = 1 := by simpa using hl
    obtain ⟨q, e1, e2⟩ := bind_two h1 h2 h3 h4 h6 ne us d (.inl hu)
    refine BindsTo.of_looks fun M => ?_
    rw [e1, h5]
    refine looks_items X lT oT (.of_pure ?_)
    rw [e2, if_pos hu]
theorem plain_of {nm qual : Str} {a : Arguments} {ps : List Str} {body : List Stmt} {scope : Scope} {kV doc pm cdv ct : Value} {an : Option Addr} (h : plainB a ps = true) : Plain (PySem.W.fnOf nm qual a body scope .none kV doc pm an cdv ct) ps := by
  unfold plainB at h
  obtain ⟨h1, h⟩ := and2 h
  obtain ⟨h2, h⟩ := and2 h
  obtain ⟨h3, h⟩ := and2 h
  obtain ⟨h4, h5⟩ := and2 h
  exact ⟨List.isEmpty_iff.mp h1, List.isEmpty_iff.mp h2, Option.isNone_iff_eq_none.mp h3, Option.isNone_iff_eq_none.mp h4, rfl, of_decide_eq_true h5⟩
theorem kperm_nil {ps : List Str} {n : Nat} (h : ps.length ≤ n) (us : List Value) (hu : us.length = ps.length) : (kperm ps n []).map (fun p => (us ++ ([] : List Value)).getD p .none) = us := by
  apply List.ext_getElem?
  intro i
  unfold kperm
  rw [List.getElem?_map, List.getElem?_mapIdx, List.append_nil]
  by_cases hi : i < ps.length
  · rw [List.getElem?_eq_getElem hi]
    have hu' : i < us.length := by omega
    simp [show i < n by omega, List.getD_eq_getElem?_getD, List.getElem?_eq_getElem hu']
  · rw [List.getElem?_eq_none (by omega), List.getElem?_eq_none (by omega)]
    rfl
theorem binds_of {K : PySem.W.Frag} {fd : FuncData} {ps : List Str} (h : Plain fd ps) (nd : ps.Nodup) : Binds K fd ps [] := .all fun us hu => by
  have hk : kOk ps us.length [] = true := by
    unfold kOk
    rw [hu, List.drop_length]
    simp [nd]
  have := kbind h (us := us) (ws := []) hk rfl
  rw [kperm_nil (by omega) us hu] at this
  exact this
section
variable {P : Program} {w : World} {K : PySem.W.Frag} {mg : Str → Option Value} {base : Heap} {cf : Cfg} {J : Jar} {XR : XRT} {T : Tb} {ad : Nat → Addr}
/-- every def of the text, at every room -/
theorem fn_at {C : Calls} {lv : Nat} (KX : K.In base) (Gm : base.Ns mainGlobals mg) {d : Df} {st : Stmt} {f g : Nat} (at_ : DefAt K d.nm st d.dv f) (hc : chkDf cf d st = true)
    (hF : ∀ (oc : Value) (od : Option Addr) (dV kV doc pm : Value) (an : Option Addr) (cdv ct : Value) (osl : Array (Option Value)), K.lookup f = some ⟨oc, od, .func (PySem.W.fnOf d.nm d.nm (defArgs st) (defBody st) (defScope st) dV kV doc pm an cdv ct), osl⟩ → PySem.W.codeIn K cdv d.nm = true →
      FnG P w K mg base J XR C lv g f (PySem.W.fnOf d.nm d.nm (defArgs st) (defBody st) (defScope st) dV kV doc pm an cdv ct) d.ps) : FnAt P w K mg base J XR C lv g d.nm d.ps d.dv := by
  obtain ⟨oc, od, dV, kV, doc, pm, an, cdv, ct, osl, a1, l1, c1, k1, v1⟩ := at_
  have F := hF _ _ _ _ _ _ _ _ _ _ l1 c1
  unfold chkDf at hc
  obtain ⟨h0, hc⟩ := and2 hc
  obtain ⟨h1, hc⟩ := and2 hc
  obtain ⟨h2, h3⟩ := and2 hc
  have nd : d.ps.Nodup := by rw [← (scB_of h1).pre]; exact (scB_of h1).nd.sublist (List.take_sublist _ _)
  rcases v1 with ⟨e1, e2⟩ | ⟨n, T, o, k, t, e1, e2, lT, oT⟩
  · subst e2
    have pl := plain_of (nm := d.nm) (qual := d.nm) (body := defBody st) (scope := defScope st) (kV := kV) (doc := doc) (pm := pm) (cdv := cdv) (ct := ct) (an := an) h2
    exact ⟨f, _, PySem.W.mg_of KX Gm a1, k1, binds_of pl nd, F, fun _ => pl, fun z => absurd e1 z⟩
  · subst e2
    have p2 : d.ps.length = 2 := by
      rcases Bool.or_eq_true _ _ ▸ h0 with z | z
      · rw [e1] at z; cases of_decide_eq_true z
      · exact of_decide_eq_true (and2 z).2
    generalize hps : d.ps = ps at *
    match ps, p2 with
    | [a, b], _ =>
      have ne : a ≠ b := by
        intro z
        subst z
        simp at nd
      unfold plainB at h2
      obtain ⟨q1, h2⟩ := and2 h2
      obtain ⟨q2, h2⟩ := and2 h2
      obtain ⟨q3, h2⟩ := and2 h2
      obtain ⟨q4, q5⟩ := and2 h2
      obtain ⟨b1, b2⟩ := binds_two (K := K) (fd := PySem.W.fnOf d.nm d.nm (defArgs st) (defBody st) (defScope st) (.ref T) kV doc pm an cdv ct) (List.isEmpty_iff.mp q1) (List.isEmpty_iff.mp q2) (Option.isNone_iff_eq_none.mp q3) (Option.isNone_iff_eq_none.mp q4) (of_decide_eq_true q5) ne rfl lT oT
      exact ⟨f, _, PySem.W.mg_of KX Gm a1, k1, b1, F, fun z => (by rw [e1] at z; cases z), fun _ => ⟨[.int n t], by rw [e1]; exact .cons ⟨t, rfl⟩ .nil, b2⟩⟩
/-- every def of the text, at every room -/
theorem all_fns (ok : T.Ok) (KX : K.In base) (Gm : base.Ns mainGlobals mg) (facts : Facts cf mg) (jf : ∀ dk, cf.jk = some dk → ∃ a, JFacts J a dk) (sf : cf.js = true → ∃ a, SFacts K J a) (EF : ExcF P K mg cf.excs T.sub ad) (hXR : XR = xrt K J cf.excs ad)
    (ds : Nat → Option (Df × Stmt × Addr)) (hd : ∀ g p, cf.fns[g]? = some p → ∃ d st f, ds g = some (d, st, f) ∧ p = (d.nm, d.ps) ∧ cf.dfl.getD g [] = d.dv ∧ T.fn g = some (.df d.ps.length d.N.length d.b) ∧ DefAt K d.nm st d.dv f ∧ chkDf cf d st = true) :
    ∀ n g p, cf.fns[g]? = some p → FnAt P w K mg base J XR (callW T n) n g p.1 p.2 (cf.dfl.getD g [])
  | 0, g, p, hp => by
    obtain ⟨d, st, f, _, rfl, hv, ht, at_, hc⟩ := hd g p hp
    rw [hv]
    exact fn_at KX Gm at_ hc fun oc od dV kV doc pm an cdv ct osl l1 c1 => ⟨fun A outer s H args us vs Q E hr gd e0 bt rv hl ⟨Z, es, g, inn, rl, q⟩ => (show False from q).elim⟩
  | n + 1, g, p, hp => by
    obtain ⟨d, st, f, _, rfl, hv, ht, at_, hc⟩ := hd g p hp
    rw [hv]
    have hc' := hc
    unfold chkDf at hc'
    obtain ⟨h0, hc'⟩ := and2 hc'
    obtain ⟨h1, hc'⟩ := and2 hc'
    obtain ⟨h2, h3⟩ := and2 hc'
    exact fn_at KX Gm at_ hc fun oc od dV kV doc pm an cdv ct osl l1 c1 => fn_df ok l1 c1 (scB_of h1) ht h3 facts jf sf EF hXR (all_fns ok KX Gm facts jf sf EF hXR ds hd n)
end
end G

set_option linter.all false
set_option maxRecDepth 100000
set_option Elab.async false
/-! Sr: the law's random state as a dict, as a list. -/
namespace G
open PySem PySem.Spec PyProof.Rows L2

/-- a field: what stands in the object, what it holds -/
def jv (L : Sum Int Str → Option Addr) (H : Hp) (k : Sum Int Str) (v : V) (d : D) : Prop :=
  (∃ n, d = .int n ∧ v = .int n) ∨ ∃ (ns : List Int) (l : Addr), d = .list (ns.map .int) ∧ v = .ref l ∧ L k = some l ∧ H l = some (.lst (ns.map V.int)) ∧ ns.length ≤ sizeLine
inductive JRel (L : Sum Int Str → Option Addr) (H : Hp) : List (Sum Int Str × V) → Gh → Prop
  | nil : JRel L H [] []
  | cons {k : Sum Int Str} {v : V} {d : D} {vs : List (Sum Int Str × V)} {g : Gh} : jv L H k v d → JRel L H vs g → JRel L H ((k, v) :: vs) ((k, d) :: g)
section
variable {L : Sum Int Str → Option Addr} {H H' : Hp}
theorem JRel.mono {vs : List (Sum Int Str × V)} {g : Gh} (h : JRel L H vs g) (e : ∀ k l, L k = some l → H' l = H l) : JRel L H' vs g := by
  induction h with
  | nil => exact .nil
  | cons h1 _ ih =>
    refine .cons ?_ ih
    rcases h1 with h1 | ⟨ns, l, e1, e2, e3, e4, e5⟩
    · exact .inl h1
    · exact .inr ⟨ns, l, e1, e2, e3, by rw [e _ _ e3]; exact e4, e5⟩
theorem JRel.get {vs : List (Sum Int Str × V)} {g : Gh} (h : JRel L H vs g) {k : Sum Int Str} {d : D} (e : gget g k = some d) : ∃ (v : V) (i : Nat), vs[i]? = some (k, v) ∧ valV vs k = some v ∧ jv L H k v d := by
  induction h with
  | nil => cases e
  | @cons k0 v0 d0 vs g h1 h2 ih =>
    unfold gget at e
    by_cases q : k0 = k
    · subst q
      rw [List.find?_cons_of_pos (by simp)] at e
      cases e
      exact ⟨v0, 0, rfl, valV_pos rfl, h1⟩
    · rw [List.find?_cons_of_neg (by simpa using q)] at e
      obtain ⟨v, i, e1, e2, e3⟩ := ih e
      exact ⟨v, i + 1, by simpa using e1, by rw [valV_neg q]; exact e2, e3⟩
theorem JRel.keys {vs : List (Sum Int Str × V)} {g : Gh} (h : JRel L H vs g) : vs.map (·.1) = g.map (·.1) := by
  induction h with
  | nil => rfl
  | cons _ _ ih => rw [List.map_cons, List.map_cons, ih]
/-- one list of it is changed -/
theorem JRel.putL {vs : List (Sum Int Str × V)} {g : Gh} (h : JRel L H vs g) {k : Sum Int Str} {l : Addr} {ns : List Int} (inj : ∀ k1 k2 l, L k1 = some l → L k2 = some l → k1 = k2) (hl : L k = some l) (hz : ns.length ≤ sizeLine) (ty : ∀ d, (k, d) ∈ g → ∃ ds, d = .list ds) :
    JRel L (upd H l (.lst (ns.map V.int))) vs (gput g k (.list (ns.map .int))) := by
  induction h with
  | nil => exact .nil
  | @cons k0 v0 d0 vs g h1 h2 ih =>
    have ih := ih fun d hd => ty d (List.mem_cons_of_mem _ hd)
    unfold gput
    rw [List.map_cons]
    by_cases q : k0 = k
    · subst q
      rw [if_pos rfl]
      refine .cons (.inr ⟨ns, l, rfl, ?_, hl, upd_same, hz⟩) ih
      obtain ⟨ds, e⟩ := ty d0 List.mem_cons_self
      subst e
      rcases h1 with ⟨n, e, _⟩ | ⟨ms, l2, e1, e2, e3, _⟩
      · cases e
      · rw [hl] at e3
        cases e3
        exact e2
    · rw [if_neg q]
      refine .cons ?_ ih
      rcases h1 with h1 | ⟨ms, l2, e1, e2, e3, e4, e5⟩
      · exact .inl h1
      · have nl : l2 ≠ l := by
          rintro rfl
          exact q (inj _ _ _ e3 hl)
        exact .inr ⟨ms, l2, e1, e2, e3, by rw [upd_ne nl]; exact e4, e5⟩
theorem JRel.putI {vs : List (Sum Int Str × V)} {g : Gh} (h : JRel L H vs g) {k : Sum Int Str} {n : Int} : JRel L H (vs.map fun kv => if kv.1 = k then (kv.1, V.int n) else kv) (gput g k (.int n)) := by
  induction h with
  | nil => exact .nil
  | @cons k0 v0 d0 vs g h1 h2 ih =>
    unfold gput
    rw [List.map_cons, List.map_cons]
    by_cases q : k0 = k
    · subst q
      rw [if_pos rfl, if_pos rfl]
      exact .cons (.inl ⟨n, rfl, rfl⟩) ih
    · rw [if_neg q, if_neg q]
      exact .cons h1 ih
end
theorem gget_mem {g : Gh} {k : Sum Int Str} {d : D} (e : gget g k = some d) : (k, d) ∈ g := by
  unfold gget at e
  cases q : g.find? fun p => decide (p.1 = k) with
  | none => rw [q] at e; cases e
  | some p =>
    rw [q] at e
    cases e
    have h1 := List.find?_some q
    have h2 := List.mem_of_find?_eq_some q
    have h3 : p.1 = k := by simpa using h1
    subst h3
    exact h2
/-- distinct keys -/
def KeysOk (g : Gh) : Prop := (g.map (·.1)).Nodup
theorem keys_one {g : Gh} (h : KeysOk g) {k : Sum Int Str} {d d' : D} (h1 : (k, d) ∈ g) (h2 : (k, d') ∈ g) : d = d' := by
  unfold KeysOk at h
  induction g with
  | nil => cases h1
  | cons p g ih =>
    rw [List.map_cons, List.nodup_cons] at h
    rcases List.mem_cons.mp h1 with e1 | e1 <;> rcases List.mem_cons.mp h2 with e2 | e2
    · rw [← e1] at e2; cases e2; rfl
    · have q := List.mem_map_of_mem (f := (·.1)) e2
      rw [← e1] at h
      exact absurd q h.1
    · have q := List.mem_map_of_mem (f := (·.1)) e1
      rw [← e2] at h
      exact absurd q h.1
    · exact ih h.2 e1 e2
theorem keys_put {g : Gh} {k : Sum Int Str} {d : D} (h : KeysOk g) : KeysOk (gput g k d) := by
  unfold KeysOk gput at *
  rw [List.map_map]
  have : ((fun p : Sum Int Str × D => p.1) ∘ fun p => if p.1 = k then (p.1, d) else p) = (·.1) := by
    funext p
    show (if p.1 = k then (p.1, d) else p).1 = p.1
    split <;> rfl
  rw [this]
  exact h
/-- the random state: a dict at a -/
def jarD (a : Addr) (L : Sum Int Str → Option Addr) : Jar where
  at_ := some a
  sc := none
  L := L
  A := fun b => b = a ∨ ∃ k, L k = some b
  P := fun g H => KeysOk g ∧ (∃ kvs, H a = some (.dK kvs) ∧ kvs.length < sizeLine ∧ JRel L H kvs g ∧ ∀ p ∈ kvs, ∃ x, p.1 = Sum.inr x) ∧ (∀ k l, L k = some l → H l ≠ none) ∧ (∀ k1 k2 l, L k1 = some l → L k2 = some l → k1 = k2) ∧ ∀ k, L k ≠ some a
  there := fun g H b ⟨_, ⟨kvs, e, _⟩, h, _⟩ hb => by
    rcases hb with rfl | ⟨k, hk⟩
    · rw [e]; exact fun z => by cases z
    · exact h k b hk
  stable := fun g H H' ⟨h0, ⟨kvs, e, e2, r, t⟩, h, i, n⟩ s => by
    refine ⟨h0, ⟨kvs, by rw [s a (.inl rfl)]; exact e, e2, r.mono fun k l hl => s l (.inr ⟨k, hl⟩), t⟩, fun k l hl => ?_, i, n⟩
    rw [s l (.inr ⟨k, hl⟩)]
    exact h k l hl
theorem jarD_ok (a : Addr) (L : Sum Int Str → Option Addr) : JFacts (jarD a L) a true where
  at_ := rfl
  ja := .inl rfl
  get := fun g H k d ⟨_, ⟨kvs, e, _, r, t⟩, _⟩ hg => by
    obtain ⟨v, i, h1, h2, h3⟩ := r.get hg
    obtain ⟨x, hx⟩ := t _ (List.mem_of_getElem? h1)
    refine ⟨v, ⟨kvs, x, hx, e, h2⟩, ?_⟩
    rcases h3 with h3 | ⟨ns, l, e1, e2, e3, e4, e5⟩
    · exact .inl h3
    · exact .inr ⟨ns, l, e1, e2, e3, .inr ⟨k, e3⟩, e4, e5⟩
  putL := fun g H k ds l ns ⟨h0, ⟨kvs, e, e2, r, t⟩, h, i, n⟩ hg hl hz => by
    have na : a ≠ l := fun q => n k (q ▸ hl)
    refine ⟨keys_put h0, ⟨kvs, by rw [upd_ne na]; exact e, e2, r.putL i hl hz fun d hd => ⟨ds, keys_one h0 hd (gget_mem hg)⟩, t⟩, fun k2 l2 hl2 => ?_, i, n⟩
    by_cases q : l2 = l
    · subst q; rw [upd_same]; exact fun z => by cases z
    · rw [upd_ne q]; exact h k2 l2 hl2
  putI := fun g H k m n ⟨h0, ⟨kvs, e, e2, r, t⟩, h, i, na⟩ hg => by
    obtain ⟨v, j, h1, h2, h3⟩ := r.get hg
    obtain ⟨x, hx⟩ := t _ (List.mem_of_getElem? h1)
    have hx' : k = Sum.inr x := hx
    have ex : putK kvs k (V.int n) = kvs.map fun kv => if kv.1 = k then (kv.1, V.int n) else kv := by
      unfold putK
      rw [if_pos]
      rw [List.any_eq_true]
      exact ⟨_, List.mem_of_getElem? h1, by simp⟩
    have nl : ∀ k2 l, L k2 = some l → l ≠ a := fun k2 l hl q => na k2 (q ▸ hl)
    refine ⟨.dK (putK kvs k (.int n)), ⟨kvs, x, hx', e, e2, rfl⟩, keys_put h0, ⟨_, upd_same, by rw [ex, List.length_map]; exact e2, ?_, ?_⟩, fun k2 l2 hl2 => ?_, i, na⟩
    · rw [ex]
      exact (r.putI).mono fun k2 l hl => upd_ne (nl k2 l hl)
    · rw [ex]
      intro p hp
      obtain ⟨p0, hp0, rfl⟩ := List.mem_map.mp hp
      obtain ⟨y, hy⟩ := t p0 hp0
      split
      · exact ⟨y, hy⟩
      · exact ⟨y, hy⟩
    · rw [upd_ne (nl k2 l2 hl2)]; exact h k2 l2 hl2
end G

set_option linter.all false
set_option maxRecDepth 100000
set_option Elab.async false
/-! Srl: the law's random state as a list. -/
namespace G
open PySem PySem.Spec PyProof.Rows L2
/-- the places of a list, as keys -/
def keysL (n : Nat) : List (Sum Int Str) := (List.range n).map fun (i : Nat) => Sum.inl (i : Int)
theorem keysL_at {kvs : List (Sum Int Str × V)} (h : kvs.map (·.1) = keysL kvs.length) {i : Nat} {kv : Sum Int Str × V} (e : kvs[i]? = some kv) : kv.1 = .inl (i : Int) := by
  have h1 : (kvs.map (·.1))[i]? = some kv.1 := by rw [List.getElem?_map, e]; rfl
  rw [h] at h1
  unfold keysL at h1
  rw [List.getElem?_map, List.getElem?_range (List.getElem?_eq_some_iff.mp e).1] at h1
  exact (Option.some.inj h1).symm
theorem put_set {kvs : List (Sum Int Str × V)} (h : kvs.map (·.1) = keysL kvs.length) {i : Nat} {n : Int} :
    (kvs.map fun kv => if kv.1 = Sum.inl (i : Int) then (kv.1, V.int n) else kv).map (·.2) = (kvs.map (·.2)).set i (.int n) := by
  apply List.ext_getElem?
  intro j
  rw [List.getElem?_map, List.getElem?_map, List.getElem?_set, List.getElem?_map, List.length_map]
  cases e : kvs[j]? with
  | none =>
    have : kvs.length ≤ j := List.getElem?_eq_none_iff.mp e
    show none = _
    by_cases q : i = j
    · rw [if_pos q, if_neg (by omega)]
    · rw [if_neg q]; rfl
  | some kv =>
    have hk := keysL_at h e
    have hj := (List.getElem?_eq_some_iff.mp e).1
    show some (if kv.1 = Sum.inl (i : Int) then (kv.1, V.int n) else kv).2 = _
    by_cases q : i = j
    · subst q
      rw [if_pos hk, if_pos rfl, if_pos hj]
    · rw [if_neg (by rw [hk]; intro z; cases z; exact q rfl), if_neg q]
      rfl
/-- the random state: a list at a -/
def jarL (a : Addr) (L : Sum Int Str → Option Addr) : Jar where
  at_ := some a
  sc := none
  L := L
  A := fun b => b = a ∨ ∃ k, L k = some b
  P := fun g H => KeysOk g ∧ (∃ kvs : List (Sum Int Str × V), H a = some (.lst (kvs.map (·.2))) ∧ JRel L H kvs g ∧ kvs.map (·.1) = keysL kvs.length) ∧ (∀ k l, L k = some l → H l ≠ none) ∧ (∀ k1 k2 l, L k1 = some l → L k2 = some l → k1 = k2) ∧ ∀ k, L k ≠ some a
  there := fun g H b ⟨_, ⟨kvs, e, _⟩, h, _⟩ hb => by
    rcases hb with rfl | ⟨k, hk⟩
    · rw [e]; exact fun z => by cases z
    · exact h k b hk
  stable := fun g H H' ⟨h0, ⟨kvs, e, r, t⟩, h, i, n⟩ s => by
    refine ⟨h0, ⟨kvs, by rw [s a (.inl rfl)]; exact e, r.mono fun k l hl => s l (.inr ⟨k, hl⟩), t⟩, fun k l hl => ?_, i, n⟩
    rw [s l (.inr ⟨k, hl⟩)]
    exact h k l hl
theorem jarL_ok (a : Addr) (L : Sum Int Str → Option Addr) : JFacts (jarL a L) a false where
  at_ := rfl
  ja := .inl rfl
  get := fun g H k d ⟨_, ⟨kvs, e, r, t⟩, _⟩ hg => by
    obtain ⟨v, i, h1, h2, h3⟩ := r.get hg
    have hk : k = .inl (i : Int) := keysL_at t h1
    refine ⟨v, ⟨kvs.map (·.2), (i : Int), hk, e, L2.atI_nat (by rw [List.getElem?_map, h1]; rfl)⟩, ?_⟩
    rcases h3 with h3 | ⟨ns, l, e1, e2, e3, e4, e5⟩
    · exact .inl h3
    · exact .inr ⟨ns, l, e1, e2, e3, .inr ⟨k, e3⟩, e4, e5⟩
  putL := fun g H k ds l ns ⟨h0, ⟨kvs, e, r, t⟩, h, i, n⟩ hg hl hz => by
    have na : a ≠ l := fun q => n k (q ▸ hl)
    refine ⟨keys_put h0, ⟨kvs, by rw [upd_ne na]; exact e, r.putL i hl hz fun d hd => ⟨ds, keys_one h0 hd (gget_mem hg)⟩, t⟩, fun k2 l2 hl2 => ?_, i, n⟩
    by_cases q : l2 = l
    · subst q; rw [upd_same]; exact fun z => by cases z
    · rw [upd_ne q]; exact h k2 l2 hl2
  putI := fun g H k m n ⟨h0, ⟨kvs, e, r, t⟩, h, i, na⟩ hg => by
    obtain ⟨v, j, h1, h2, h3⟩ := r.get hg
    have hk : k = .inl (j : Int) := keysL_at t h1
    have hj := (List.getElem?_eq_some_iff.mp h1).1
    have nl : ∀ k2 l, L k2 = some l → l ≠ a := fun k2 l hl q => na k2 (q ▸ hl)
    have ix : L2.ixN (kvs.map (·.2)).length (j : Int) = some j := by
      rw [List.length_map]
      unfold L2.ixN
      rw [if_pos (by omega), if_pos (by omega), Int.toNat_natCast]
    refine ⟨.lst ((kvs.map (·.2)).set j (.int n)), ⟨kvs.map (·.2), (j : Int), j, hk, e, ix, rfl⟩, keys_put h0, ⟨kvs.map fun kv => if kv.1 = k then (kv.1, V.int n) else kv, ?_, ?_, ?_⟩, fun k2 l2 hl2 => ?_, i, na⟩
    · rw [upd_same, hk, put_set t]
    · exact (r.putI).mono fun k2 l hl => upd_ne (nl k2 l hl)
    · rw [List.length_map, List.map_map, ← t]
      congr 1
      funext kv
      show (if kv.1 = k then (kv.1, V.int n) else kv).1 = kv.1
      split <;> rfl
    · rw [upd_ne (nl k2 l2 hl2)]; exact h k2 l2 hl2
end G

set_option linter.all false
set_option maxRecDepth 100000
set_option Elab.async false
/-! Ss: the def that makes the law's random state, a dict. -/
namespace G
open PySem PySem.Spec PyProof.Rows L2

def jarE (C : Calls) : List (Sum Int Str × Ex) → En → (Gh → En → Prop) → Prop
  | [], r, K => K [] r
  | (k, e) :: es, r, K => exW C e r (fun x r1 => match x with
      | .val (.int n) => jarE C es r1 fun g r2 => K ((k, .int n) :: g) r2
      | .new ds => (asInts ds).isSome = true ∧ jarE C es r1 fun g r2 => K ((k, .list ds) :: g) r2
      | .sl i => (match rd r1 i with
        | .ow ds => (asInts ds).isSome = true ∧ jarE C es (r1.set i .un) fun g r2 => K ((k, .list ds) :: g) r2
        | _ => False)
      | _ => False) noX
def jarW (C : Calls) (es : List (Sum Int Str × Ex)) (r : En) (K : Gh → Prop) : Prop := jarE C es r fun g _ => K g
theorem jarE_mono {C C' : Calls} (hC : CLe C C') : ∀ (es : List (Sum Int Str × Ex)) {r : En} {K K' : Gh → En → Prop}, (∀ g r, K g r → K' g r) → jarE C es r K → jarE C' es r K'
  | [], r, K, K', h => h _ _
  | (k, e) :: es, r, K, K', h => by
    unfold jarE
    refine exW_mono hC e (fun x r1 => ?_) fun _ _ z => z
    split
    · exact jarE_mono hC es fun g r2 => h _ _
    · exact fun q => ⟨q.1, jarE_mono hC es (fun g r2 => h _ _) q.2⟩
    · split
      · exact fun q => ⟨q.1, jarE_mono hC es (fun g r2 => h _ _) q.2⟩
      · exact id
    · exact id
theorem jarW_mono {C C' : Calls} (hC : CLe C C') (es : List (Sum Int Str × Ex)) {r : En} {K K' : Gh → Prop} (h : ∀ g, K g → K' g) : jarW C es r K → jarW C' es r K' := jarE_mono hC es fun g _ => h g
theorem asInts_of {ds : List D} (h : (asInts ds).isSome = true) : ∃ ns : List Int, asInts ds = some ns ∧ ds = ns.map .int := by
  induction ds with
  | nil => exact ⟨[], rfl, rfl⟩
  | cons d ds ih =>
    cases d with
    | int n =>
      unfold asInts at h ⊢
      rw [Option.isSome_map] at h
      obtain ⟨ns, e1, e2⟩ := ih h
      exact ⟨n :: ns, by rw [e1]; rfl, by rw [e2]; rfl⟩
    | _ => cases h
section
variable {K : PySem.W.Frag} {J : Jar} {F : Fm} {σ : L2.St} {H Z : Hp} {r : En}
theorem Rel.drop (R : Rel K J F σ H Z r) {i : Nat} : Rel K J F σ H Z (r.set i .un) := by
  have out : ∀ {j : Nat} {s : Slot}, rd (r.set i .un) j = s → s ≠ .un → rd r j = s := fun {j s} e n => by
    by_cases ij : i = j
    · subst ij
      by_cases il : i < r.length
      · rw [rd_same il] at e; exact absurd e.symm n
      · have := rd_lt (r := r.set i .un) (i := i) (by rw [e]; exact n)
        rw [En.length_set] at this
        exact absurd this il
    · rwa [rd_ne ij] at e
  exact ⟨R.sub, R.frame, R.jar, R.jz, by rw [En.length_set]; exact R.len, fun j d e => R.fz j d (out e fun z => by cases z), fun j ds e => R.ow j ds (out e fun z => by cases z), fun j k ds es a e e2 => R.sep j k ds es a (out e fun z => by cases z) (out e2 fun z => by cases z), R.zs, R.zo, R.ng, R.gf, fun j k e => R.al j k (out e fun z => by cases z)⟩
end
/-- the fields, laid -/
inductive JsOk (J : Jar) (H Z : Hp) : Fm → List (Sum Int Str × V) → Gh → Prop
  | nil {F : Fm} : JsOk J H Z F [] []
  | int {F : Fm} {k : Sum Int Str} {n : Int} {vs : List (Sum Int Str × V)} {g : Gh} : JsOk J H Z F vs g → JsOk J H Z F ((k, .int n) :: vs) ((k, .int n) :: g)
  | lst {F : Fm} {k : Sum Int Str} {l : Addr} {ns : List Int} {vs : List (Sum Int Str × V)} {g : Gh} : H l = some (.lst (ns.map V.int)) → ns.length ≤ sizeLine → Z l = none → F.o l = none → ¬ J.A l → JsOk J H Z (F.add l (.lst (ns.map V.int))) vs g →
      JsOk J H Z F ((k, .ref l) :: vs) ((k, .list (ns.map .int)) :: g)
section
variable {cf : Cfg} {J : Jar} {XR : XRT} {C : Calls} {lv : Nat} {X : Cx} {S : Sc} (G : Good cf J XR C lv X S) (hC : CMono C)
include hC
theorem jar_pairs {K : PySem.W.Frag} {σ : L2.St} : ∀ (es : List (Sum Int Str × Ex)) {F : Fm} {H Z : Hp} {r : En} {k : Gh → En → Prop} {Q : List (V × V) → Hp → Prop}, Rel K J F σ H Z r → jarE C es r k →
    (∀ g kvs H2 Z2 r2, k g r2 → Same Z Z2 → Rel K J F σ H2 Z2 r2 → JsOk J H2 Z2 F kvs g → kvs.map (·.1) = es.map (fun p => p.1) → Q (kvs.map fun kv => (kV kv.1, kv.2)) H2) →
    tPairs (es.map fun p => (tC (kV p.1), lE K J XR C noW p.2)) σ H Q
  | [], F, H, Z, r, k, Q, R, h, q => by
    unfold jarE at h
    exact q [] [] H Z r h (.refl _) R .nil rfl
  | (s, e) :: es, F, H, Z, r, k, Q, R, h, q => by
    unfold jarE at h
    refine use_E hC R (Y := noX) XC.no h fun x r1 h1 v H1 Z1 s1 R1 p1 => ?_
    have list : ∀ {ns : List Int} {l : Addr} {r2 : En}, Rel K J F σ H1 Z1 r2 → v = .ref l → H1 l = some (.lst (ns.map V.int)) → ns.length ≤ sizeLine → Z1 l = none → F.o l = none → ¬ J.A l → (∀ i es, rd r2 i = .ow es → σ[i]? ≠ some (some (.ref l))) →
        jarE C es r2 (fun g r2 => k ((s, .list (ns.map .int)) :: g) r2) → tPairs (es.map fun p => (tC (kV p.1), lE K J XR C noW p.2)) σ H1 fun ps H2 => Q ((kV s, v) :: ps) H2 := by
      intro ns l r2 R2 ev f1 f2 f3 f4 f5 f6 w
      subst ev
      refine jar_pairs es (R2.guard f1 f3 f6) w fun g kvs H3 Z3 r3 hk s3 R3 ok hm => ?_
      obtain ⟨R4, y1, y2, y3⟩ := R3.unguard f4 f5 R2.nog
      exact q _ ((s, .ref l) :: kvs) H3 Z3 r3 hk (s1.trans s3) R4 (.lst y1 f2 y2 f4 f5 ok) (by rw [List.map_cons, List.map_cons, hm])
    split at h1
    · rename_i n
      cases rep_int p1
      refine jar_pairs es R1 h1 fun g kvs H3 Z3 r3 hk s3 R3 ok hm => ?_
      exact q _ ((s, .int n) :: kvs) H3 Z3 r3 hk (s1.trans s3) R3 (.int ok) (by rw [List.map_cons, List.map_cons, hm])
    · rename_i ds
      obtain ⟨hi, w⟩ := h1
      obtain ⟨ns, en, rfl⟩ := asInts_of hi
      obtain ⟨l, ws, rfl, e1, e2, e3, e4, e5, e6, e7⟩ := p1
      obtain ⟨ew, _⟩ := e3.ints en
      subst ew
      exact list R1 rfl e1 (by rw [List.length_map] at e2; exact e2) e4 e5 e6 e7 w
    · rename_i i
      split at h1
      · rename_i ds eo
        obtain ⟨hi, w⟩ := h1
        obtain ⟨ns, en, rfl⟩ := asInts_of hi
        obtain ⟨l, ws, y1, y2, y3, y4, y5, y6, y7⟩ := R1.ow i _ eo
        obtain ⟨p2, _⟩ := p1
        rw [p2] at y1
        cases y1
        obtain ⟨ew, _⟩ := y4.ints en
        subst ew
        refine list (R1.drop (i := i)) rfl y2 (by rw [List.length_map] at y3; exact y3) y5 y6 y7 (fun j es2 ej z => ?_) w
        by_cases ij : i = j
        · subst ij
          rw [rd_same (rd_ow_len eo)] at ej
          cases ej
        · rw [rd_ne ij] at ej
          exact ij (R1.sep i j _ es2 l eo ej p2 z)
      · exact h1.elim
    · exact h1.elim
theorem jar_args {K : PySem.W.Frag} {σ : L2.St} : ∀ (es : List (Sum Int Str × Ex)) {F : Fm} {H Z : Hp} {r : En} {k : Gh → En → Prop} {Q : List V → Hp → Prop}, Rel K J F σ H Z r → jarE C es r k →
    (∀ g kvs H2 Z2 r2, k g r2 → Same Z Z2 → Rel K J F σ H2 Z2 r2 → JsOk J H2 Z2 F kvs g → kvs.map (·.1) = es.map (fun p => p.1) → Q (kvs.map (·.2)) H2) →
    (es.foldr (fun p t => tCons (lE K J XR C noW p.2) t) tNil) σ H Q
  | [], F, H, Z, r, k, Q, R, h, q => by
    unfold jarE at h
    exact q [] [] H Z r h (.refl _) R .nil rfl
  | (s, e) :: es, F, H, Z, r, k, Q, R, h, q => by
    unfold jarE at h
    refine use_E hC R (Y := noX) XC.no h fun x r1 h1 v H1 Z1 s1 R1 p1 => ?_
    have list : ∀ {ns : List Int} {l : Addr} {r2 : En}, Rel K J F σ H1 Z1 r2 → v = .ref l → H1 l = some (.lst (ns.map V.int)) → ns.length ≤ sizeLine → Z1 l = none → F.o l = none → ¬ J.A l → (∀ i es, rd r2 i = .ow es → σ[i]? ≠ some (some (.ref l))) →
        jarE C es r2 (fun g r2 => k ((s, .list (ns.map .int)) :: g) r2) → (es.foldr (fun p t => tCons (lE K J XR C noW p.2) t) tNil) σ H1 fun ps H2 => Q (v :: ps) H2 := by
      intro ns l r2 R2 ev f1 f2 f3 f4 f5 f6 w
      subst ev
      refine jar_args es (R2.guard f1 f3 f6) w fun g kvs H3 Z3 r3 hk s3 R3 ok hm => ?_
      obtain ⟨R4, y1, y2, y3⟩ := R3.unguard f4 f5 R2.nog
      exact q _ ((s, .ref l) :: kvs) H3 Z3 r3 hk (s1.trans s3) R4 (.lst y1 f2 y2 f4 f5 ok) (by rw [List.map_cons, List.map_cons, hm])
    split at h1
    · rename_i n
      cases rep_int p1
      refine jar_args es R1 h1 fun g kvs H3 Z3 r3 hk s3 R3 ok hm => ?_
      exact q _ ((s, .int n) :: kvs) H3 Z3 r3 hk (s1.trans s3) R3 (.int ok) (by rw [List.map_cons, List.map_cons, hm])
    · rename_i ds
      obtain ⟨hi, w⟩ := h1
      obtain ⟨ns, en, rfl⟩ := asInts_of hi
      obtain ⟨l, ws, rfl, e1, e2, e3, e4, e5, e6, e7⟩ := p1
      obtain ⟨ew, _⟩ := e3.ints en
      subst ew
      exact list R1 rfl e1 (by rw [List.length_map] at e2; exact e2) e4 e5 e6 e7 w
    · rename_i i
      split at h1
      · rename_i ds eo
        obtain ⟨hi, w⟩ := h1
        obtain ⟨ns, en, rfl⟩ := asInts_of hi
        obtain ⟨l, ws, y1, y2, y3, y4, y5, y6, y7⟩ := R1.ow i _ eo
        obtain ⟨p2, _⟩ := p1
        rw [p2] at y1
        cases y1
        obtain ⟨ew, _⟩ := y4.ints en
        subst ew
        refine list (R1.drop (i := i)) rfl y2 (by rw [List.length_map] at y3; exact y3) y5 y6 y7 (fun j es2 ej z => ?_) w
        by_cases ij : i = j
        · subst ij
          rw [rd_same (rd_ow_len eo)] at ej
          cases ej
        · rw [rd_ne ij] at ej
          exact ij (R1.sep i j _ es2 l eo ej p2 z)
      · exact h1.elim
    · exact h1.elim
end
theorem js_lists {J : Jar} {H Z : Hp} {F : Fm} {kvs : List (Sum Int Str × V)} {g : Gh} (h : JsOk J H Z F kvs g) : ∀ k l, (k, V.ref l) ∈ kvs → F.o l = none ∧ Z l = none ∧ H l ≠ none ∧ ¬ J.A l := by
  induction h with
  | nil => intro k l h; cases h
  | int _ ih =>
    intro k l h
    rcases List.mem_cons.mp h with e | e
    · cases e
    · exact ih k l e
  | @lst F k0 l0 ns vs g h1 h2 h3 h4 h5 _ ih =>
    intro k l h
    rcases List.mem_cons.mp h with e | e
    · cases e
      exact ⟨h4, h3, (by rw [h1]; exact fun z => (by cases z)), h5⟩
    · obtain ⟨y1, y2⟩ := ih k l e
      refine ⟨?_, y2⟩
      have y1' : upd F.o l0 (.lst (ns.map V.int)) l = none := y1
      by_cases q : l = l0
      · subst q; rw [upd_same] at y1'; cases y1'
      · rwa [upd_ne q] at y1'
theorem js_inj {J : Jar} {H Z : Hp} {F : Fm} {kvs : List (Sum Int Str × V)} {g : Gh} (h : JsOk J H Z F kvs g) (nd : (kvs.map (·.1)).Nodup) : ∀ k1 k2 l, (k1, V.ref l) ∈ kvs → (k2, V.ref l) ∈ kvs → k1 = k2 := by
  induction h with
  | nil => intro k1 k2 l h; cases h
  | int _ ih =>
    intro k1 k2 l h1 h2
    rw [List.map_cons, List.nodup_cons] at nd
    rcases List.mem_cons.mp h1 with e1 | e1
    · cases e1
    · rcases List.mem_cons.mp h2 with e2 | e2
      · cases e2
      · exact ih nd.2 k1 k2 l e1 e2
  | @lst F k0 l0 ns vs g h1 h2 h3 h4 h5 t ih =>
    intro k1 k2 l m1 m2
    rw [List.map_cons, List.nodup_cons] at nd
    have no : ∀ k, (k, V.ref l0) ∉ vs := fun k hk => by
      have := (js_lists t k l0 hk).1
      have z : upd F.o l0 (.lst (ns.map V.int)) l0 = none := this
      rw [upd_same] at z
      cases z
    rcases List.mem_cons.mp m1 with e1 | e1 <;> rcases List.mem_cons.mp m2 with e2 | e2
    · cases e1; cases e2; rfl
    · cases e1; exact absurd e2 (no k2)
    · cases e2; exact absurd e1 (no k1)
    · exact ih nd.2 k1 k2 l e1 e2
/-- where the lists stand -/
def listsAt (kvs : List (Sum Int Str × V)) (k : Sum Int Str) : Option Addr := (valV kvs k).bind fun v => match v with | .ref l => some l | _ => none
theorem listsAt_mem {kvs : List (Sum Int Str × V)} {k : Sum Int Str} {l : Addr} (h : listsAt kvs k = some l) : (k, V.ref l) ∈ kvs := by
  unfold listsAt valV at h
  cases q : kvs.find? fun kv => decide (kv.1 = k) with
  | none => rw [q] at h; cases h
  | some p =>
    rw [q] at h
    have h1 := List.find?_some q
    have h2 := List.mem_of_find?_eq_some q
    have h3 : p.1 = k := by simpa using h1
    subst h3
    obtain ⟨k0, v⟩ := p
    cases v <;> first | (cases h; exact h2) | cases h
theorem listsAt_cons {kvs : List (Sum Int Str × V)} {k0 k : Sum Int Str} {v : V} {l : Addr} (n : k0 ∉ kvs.map (·.1)) (h : listsAt kvs k = some l) : listsAt ((k0, v) :: kvs) k = some l := by
  have hm := listsAt_mem h
  have ne : ¬ k0 = k := fun e => n (e ▸ List.mem_map_of_mem (f := (·.1)) hm)
  unfold listsAt at h ⊢
  rw [valV_neg (show ¬ (k0, v).1 = k from ne)]
  exact h
theorem js_rel {J : Jar} {H Z : Hp} {F : Fm} {kvs : List (Sum Int Str × V)} {g : Gh} (h : JsOk J H Z F kvs g) (nd : (kvs.map (·.1)).Nodup) : ∀ L : Sum Int Str → Option Addr, (∀ k l, listsAt kvs k = some l → L k = some l) → JRel L H kvs g := by
  induction h with
  | nil => exact fun _ _ => .nil
  | int _ ih =>
    intro L hL
    rw [List.map_cons, List.nodup_cons] at nd
    exact .cons (.inl ⟨_, rfl, rfl⟩) (ih nd.2 L fun k l hk => hL k l (listsAt_cons nd.1 hk))
  | @lst F k0 l0 ns vs g h1 h2 h3 h4 h5 t ih =>
    intro L hL
    rw [List.map_cons, List.nodup_cons] at nd
    refine .cons (.inr ⟨ns, l0, rfl, rfl, hL k0 l0 ?_, h1, h2⟩) (ih nd.2 L fun k l hk => hL k l (listsAt_cons nd.1 hk))
    unfold listsAt
    rw [valV_pos (show (k0, V.ref l0).1 = k0 from rfl)]
    rfl
theorem merge_new : ∀ (kvs acc : List (Sum Int Str × V)), ((acc ++ kvs).map (·.1)).Nodup → mergeK acc kvs = acc ++ kvs
  | [], acc, _ => by simp [mergeK]
  | p :: r, acc, nd => by
    show mergeK (putK acc p.1 p.2) r = _
    have e : putK acc p.1 p.2 = acc ++ [p] := by
      unfold putK
      rw [if_neg]
      intro z
      obtain ⟨q, hq, e⟩ := List.any_eq_true.mp z
      have e' : q.1 = p.1 := by simpa using e
      rw [List.map_append, List.map_cons] at nd
      exact (List.nodup_append.mp nd).2.2 q.1 (List.mem_map_of_mem hq) p.1 List.mem_cons_self e'
    rw [e, merge_new r (acc ++ [p]) (by rw [List.append_assoc]; exact nd), List.append_assoc]
    rfl
end G

set_option linter.all false
set_option maxRecDepth 100000
set_option Elab.async false
/-! St: the def that makes the random state keeps its promise. -/
namespace G
open PySem PySem.Spec PyProof.Rows L2

def jarK (dk : Bool) (a : Addr) (L : Sum Int Str → Option Addr) : Jar := match dk with | true => jarD a L | false => jarL a L
theorem jarK_ok (dk : Bool) (a : Addr) (L : Sum Int Str → Option Addr) : JFacts (jarK dk a L) a dk := by cases dk with | true => exact jarD_ok a L | false => exact jarL_ok a L
/-- what making the random state leaves -/
structure MkOut (J : Jar) (dk : Bool) (H Z : Hp) (p : Addr) (L : Sum Int Str → Option Addr) (g : Gh) (H' Z' : Hp) : Prop where
  same : Same Z Z'
  sub : Same Z' H'
  zs : ∀ a xs, Z' a = some (.lst xs) ∨ Z' a = some (.tup xs) → xs.length ≤ sizeLine
  zo : ∀ a o, Z' a = some o → (∃ xs, o = .lst xs) ∨ (∃ xs, o = .tup xs) ∨ o = .dK []
  frame : ∀ b o, H b = some o → ¬ J.A b → H' b = some o
  jp : ∃ g', J.P g' H'
  ng : ∀ b, H b ≠ none → Z b = none → Z' b = none
  new : (jarK dk p L).P g H'
  fresh : ∀ b, (jarK dk p L).A b → H b = none ∧ Z' b = none
section
variable {cf : Cfg} {J : Jar} {XR : XRT} {C : Calls} {lv : Nat} {X : Cx} {S : Sc} {W : WX} {T : Nat → Nat → Bool} (G : Good cf J XR C lv X S) (hC : CMono C) (tk : Takes X W) (po : PassesOwn (model X.prog X.w) X.A X.env X.xe) {ad : Nat → Addr} (B : Bod cf J XR ad T X S)
include G hC tk po B
/-- checked statements, then further ones -/
theorem snd_app : ∀ (pre : Sts) {xs ys : List Stmt} {t : TS}, chkSs cf X.N S pre xs = true → PSs X ys t →
    PSs X (xs ++ ys) (fun D σ H => ∃ F Z r k, Rel X.K J F σ H Z r ∧ EndsOk X.K J XR F { D with nx := t D } Z W k ∧ stsW C T pre r k)
  | .nil, [], ys, t, h, hy => hy.imp fun pins s D σ H I ⟨F, Z, r, k, R, e, q⟩ => by
    unfold stsW at q
    exact e.nx r q σ H Z (.refl _) R
  | .cons a as, x :: xs, ys, t, h, hy => by
    unfold chkSs at h
    refine (pss_cons (snd_S (T := T) hC a G tk po B (and2 h).1) (snd_app as (and2 h).2 hy)).imp fun pins s D σ H I ⟨F, Z, r, k, R, e, q⟩ => ?_
    unfold stsW at q
    refine ⟨F, Z, r, { k with nx := fun r1 => stsW C T as r1 k }, R, ⟨fun r1 h1 σ1 H1 Z1 s1 R1 => ?_, e.rt, e.bk, e.ct, e.ex⟩, q⟩
    exact ⟨F, Z1, r1, k, R1, e.mono s1, h1⟩
  | .nil, _ :: _, _, _, h, _ => by unfold chkSs at h; cases h
  | .cons _ _, [], _, _, h, _ => by unfold chkSs at h; cases h
end
/-- the display of the fields -/
def chkDisp (cf : Cfg) (N : List Str) (S : Sc) : List (Sum Int Str × Ex) → List (Option Expr) → List Expr → Bool
  | [], [], [] => true
  | (.inr k, e) :: es, some (.Constant (.str x) _ _) :: ks, v :: vs => decide (k = x) && (chkE cf N S e v && chkDisp cf N S es ks vs)
  | _, _, _ => false
theorem chkDisp_len {cf : Cfg} {N : List Str} {S : Sc} : ∀ {es : List (Sum Int Str × Ex)} {ks : List (Option Expr)} {vs : List Expr}, chkDisp cf N S es ks vs = true → ks.length = es.length ∧ vs.length = es.length ∧ ks.all (·.isSome) = true
  | [], [], [], _ => ⟨rfl, rfl, rfl⟩
  | (.inr k, e) :: es, some (.Constant (.str x) n p) :: ks, v :: vs, h => by
    unfold chkDisp at h
    obtain ⟨h1, h2, h3⟩ := chkDisp_len (and2 (and2 h).2).2
    exact ⟨by rw [List.length_cons, h1]; rfl, by rw [List.length_cons, h2]; rfl, by rw [List.all_cons, h3]; rfl⟩
theorem chkDisp_keys {cf : Cfg} {N : List Str} {S : Sc} : ∀ {es : List (Sum Int Str × Ex)} {ks : List (Option Expr)} {vs : List Expr}, chkDisp cf N S es ks vs = true → ∀ y ∈ es, ∃ x, y.1 = Sum.inr x
  | [], [], [], _ => fun y hy => (List.not_mem_nil hy).elim
  | (.inr k, e) :: es, some (.Constant (.str x) n p) :: ks, v :: vs, h => by
    unfold chkDisp at h
    intro y hy
    rcases List.mem_cons.mp hy with rfl | hy
    · exact ⟨k, rfl⟩
    · exact chkDisp_keys (and2 (and2 h).2).2 y hy
section
variable {cf : Cfg} {J : Jar} {XR : XRT} {C : Calls} {lv : Nat} {X : Cx} {S : Sc} {W : WX} (G : Good cf J XR C lv X S) (hC : CMono C)
include G hC
theorem pps_disp (tk : Takes X noW) {pos : Pos} : ∀ {es : List (Sum Int Str × Ex)} {ks : List (Option Expr)} {vs : List Expr}, chkDisp cf X.N S es ks vs = true → PPs X pos ks vs (es.map fun p => (tC (L2.kV p.1), lE X.K J XR C noW p.2))
  | [], [], [], _ => pps_nil
  | (.inr k, e) :: es, some (.Constant (.str x) n p) :: ks, v :: vs, h => by
    unfold chkDisp at h
    cases of_decide_eq_true (and2 h).1
    exact pps_cons pe_str (snd_E hC e G tk (and2 (and2 h).2).1).1 (pps_disp tk (and2 (and2 h).2).2)
end
/-- the items of a list display -/
def chkDispL (cf : Cfg) (N : List Str) (S : Sc) : Nat → List (Sum Int Str × Ex) → List Expr → Bool
  | _, [], [] => true
  | i, (k, e) :: es, v :: vs => decide (k = .inl (i : Int)) && (notStar v && (chkE cf N S e v && chkDispL cf N S (i + 1) es vs))
  | _, _, _ => false
theorem chkDispL_keys {cf : Cfg} {N : List Str} {S : Sc} : ∀ {i : Nat} {es : List (Sum Int Str × Ex)} {vs : List Expr}, chkDispL cf N S i es vs = true → es.map (·.1) = (List.range es.length).map fun (j : Nat) => (Sum.inl ((i + j : Nat) : Int) : Sum Int Str)
  | i, [], [], _ => rfl
  | i, (k, e) :: es, v :: vs, h => by
    unfold chkDispL at h
    have e1 := of_decide_eq_true (and2 h).1
    have ih := chkDispL_keys (and2 (and2 (and2 h).2).2).2
    rw [List.map_cons, ih, List.length_cons, List.range_succ_eq_map, List.map_cons, List.map_map]
    subst e1
    congr 1
    apply List.map_congr_left
    intro j _
    show (Sum.inl ((i + 1 + j : Nat) : Int) : Sum Int Str) = Sum.inl ((i + (j + 1) : Nat) : Int)
    congr 2
    omega
section
variable {cf : Cfg} {J : Jar} {XR : XRT} {C : Calls} {lv : Nat} {X : Cx} {S : Sc} {W : WX} (G : Good cf J XR C lv X S) (hC : CMono C)
include G hC
theorem pa_disp (tk : Takes X noW) : ∀ {i : Nat} {es : List (Sum Int Str × Ex)} {vs : List Expr}, chkDispL cf X.N S i es vs = true → PA X vs (es.foldr (fun p t => tCons (lE X.K J XR C noW p.2) t) tNil)
  | _, [], [], _ => pa_nil
  | i, (k, e) :: es, v :: vs, h => by
    unfold chkDispL at h
    have h := (and2 h).2
    exact pa_cons (snd_E hC e G tk (and2 (and2 h).2).1).1 (pa_disp tk (and2 (and2 h).2).2) (star_of (and2 h).1)
end
section
variable {P : Program} {w : World} {K : PySem.W.Frag} {mg : Str → Option Value} {base : Heap} {cf : Cfg} {J : Jar} {C : Calls} {T : Nat → Nat → Bool}
/-- the making of the random state: what is wished of it is told by its core -/
structure FnM (P : Program) (w : World) (K : PySem.W.Frag) (mg : Str → Option Value) (base : Heap) (J : Jar) (dk : Bool) (lv : Nat) (a : Addr) (fd : FuncData) (ps : List Str) (mkw : List D → Gh → (Gh → Prop) → Prop) : Prop where
  run : ∀ (A : Around) (outer : List Env) (s : Shared) (H : Hp) (args : Args) (us : List Value) (vs : List V) (Q : VK) (E : XK), Room lv A → A.guards = some [] → Env0 P w K mg base A outer s H → BindsTo s fd args (ps.zip us) → Vals vs us → vs.length = ps.length →
    (∃ Z ds g, Inn J g H Z ∧ RepL K J Z vs ds ∧ mkw ds g fun g' => ∀ p L H' Z', MkOut J dk H Z p L g' H' Z' → Q (.ref p) H') →
    codeAny (model P w) A (.call (.ref a) args) (CR (L2.CX P w) outer P w H s Q E) s
/-- statements, then a display that is given back -/
def mk1 (C : Calls) (T : Nat → Nat → Bool) (nl : Nat) (pre : Sts) (es : List (Sum Int Str × Ex)) (ds : List D) (g : Gh) (k : Gh → Prop) : Prop :=
  stsW C T pre (startE nl ds g) { nx := fun r => jarW C es r k, rt := fun _ _ => False, bk := fun _ => False, ct := fun _ => False, ex := noX }
theorem fn_mk {lv : Nat} {fa : Addr} {name qual : Str} {params : Arguments} {scope : Scope} {dV kV doc pm cdv ct oc : Value} {an od : Option Addr} {osl : Array (Option Value)} {N ps : List Str} {pre : Sts} {es : List (Sum Int Str × Ex)} {xs : List Stmt} {ks : List (Option Expr)} {vals : List Expr} {p1 p2 : Pos}
    (hC : CMono C) (lk : K.lookup fa = some ⟨oc, od, .func (PySem.W.fnOf name qual params (xs ++ [.Return (some (.Dict ks vals p1)) p2]) scope dV kV doc pm an cdv ct), osl⟩) (hcd : PySem.W.codeIn K cdv qual = true) (FS : FnScope N ps scope)
    (hb : chkSs cf N ⟨scope, defSt scope⟩ pre xs = true) (hd : chkDisp cf N ⟨scope, defSt scope⟩ es ks vals = true) (h0 : es ≠ []) (h15 : es.length ≤ 15) (nd : (es.map (·.1)).Nodup) (facts : Facts cf mg) (jk : cf.jk = none) (sf : cf.js = true → ∃ a, SFacts K J a) (fns : cf.fns = []) (hex : cf.excs = []) :
    FnM P w K mg base J true (lv + 1) fa (PySem.W.fnOf name qual params (xs ++ [.Return (some (.Dict ks vals p1)) p2]) scope dV kV doc pm an cdv ct) ps (mk1 C T N.length pre es) := by
  constructor
  intro A outer s H args us vs Q E hr gd e0 bt rv hl ⟨Z, ds, g, inn, rl, hc⟩
  have KX : K.In s.heap := e0.mod.kin.keeps fun b o e => (e0.bs b o e).1
  have lim : s.heap.NoLimit := e0.mod.nolimit.keeps fun b o e => (e0.bs b o e).1
  have hkind : ∀ y ∈ ps.zip us, scope.names.lookup y.1 = some .local ∨ (scope.names.lookup y.1 = some .cell ∧ ((cellsFrom (s.heap.objs.size + 1) scope.names []).lookup y.1).isSome = true) := by
    rintro ⟨m, v⟩ hy
    rcases FS.par m (List.of_mem_zip hy).1 with q | q
    · exact .inl q
    · exact .inr ⟨q, PySem.W.cellsFrom_some _ _ _ (.inl q)⟩
  refine codeAny_call_function hr.depth (KX _ _ lk) rfl FS.co FS.gen rfl (PySem.W.codeRec_of KX hcd) (bt _ _ _ _ ?_)
  refine wpAny_newFunctionEnv_cells FS.kind hkind fun env he s1 x => ?_
  subst he
  refine ⟨lim.keeps x.toInCall.keep, codeAny_func ?_⟩
  have hpl : ps.length ≤ N.length := by
    have := congrArg List.length FS.pre
    rw [List.length_take] at this
    omega
  generalize hX : cxOf (L2.CX P w) P w K mg base N qual scope fa cdv A outer s H E = X
  have I : Inv X [] (L2.start N vs) H s1 := by rw [← hX]; exact inv_start FS hr.hd e0 hl rv x
  have GX : Good cf J (xrt K J cf.excs fun _ => 0) C lv X ⟨scope, defSt scope⟩ := by
    subst hX
    refine ⟨rfl, hr.deeper _, gd, FS.nd, rfl, FS.kind, fun y hy => ⟨?_, .inl rfl⟩, facts, fun dk h => (by rw [jk] at h; cases h), sf, fun f p hp => (by rw [fns] at hp; simp at hp)⟩
    have hy' : (match scope.names.lookup y with | some .local => true | some .cell => true | _ => false) = true := hy
    show scope.names.lookup y = some .local ∨ scope.names.lookup y = some .cell
    split at hy'
    · exact .inl (by assumption)
    · exact .inr (by assumption)
    · cases hy'
  have po : PassesOwn (model X.prog X.w) X.A X.env X.xe := by subst hX; exact passes_of rfl
  have B : Bod cf J (xrt K J cf.excs fun _ => 0) (fun _ => 0) T X ⟨scope, defSt scope⟩ := by
    subst hX
    exact ⟨rfl, rfl, ⟨fun c x h => (by rw [hex] at h; simp at h), fun c x c' x' h => (by rw [hex] at h; simp at h), fun c x c' x' h => (by rw [hex] at h; simp at h)⟩, rfl⟩
  have hN : X.N = N := by subst hX; rfl
  have hprog : X.prog = P ∧ X.w = w ∧ X.A = A.deeper (envOfC qual scope s.heap.objs.size fa cdv) ∧ X.env = envOfC qual scope s.heap.objs.size fa cdv ∧ X.K = K := by subst hX; exact ⟨rfl, rfl, rfl, rfl, rfl⟩
  obtain ⟨l1, l2, l3⟩ := chkDisp_len hd
  have hlast : PSs X [.Return (some (.Dict ks vals p1)) p2] (tRet (tDisp (es.map fun p => (tC (L2.kV p.1), lE X.K J (xrt K J cf.excs fun _ => 0) C noW p.2)))) :=
    pss_one (ps_ret (pe_disp (pps_disp GX hC noTakes (by rw [hN]; exact hd)) l3 (by rw [l1, l2]) (by intro z; rw [z] at l1; cases es with | nil => exact h0 rfl | cons _ _ => cases l1) (by rw [l1]; exact h15)))
  have hS := snd_app (T := T) GX hC (W := noW) noTakes po B pre (xs := xs) (by rw [hN]; exact hb) hlast
  have run := hS.run [] s1 (L2.start N vs) H { nx := fun _ H' => Q .non H', rt := Q } I ?_
  · rw [hprog.1, hprog.2.1, hprog.2.2.1, hprog.2.2.2.1] at run
    refine wpAny_mono run (fun fl s' hs => ?_) fun e s' hs => by subst hX; exact hs
    have fin : ∀ {σ' : L2.St} {H' : Hp} {v : V} {u : Value}, Inv X [] σ' H' s' → RelV v u → Q v H' → CE outer P w H s Q u s' := fun {σ' H' v u} Jv rv q => by
      subst hX
      exact ⟨v, H', Jv.os, Jv.bare, Jv.base, Jv.hok, rv, q⟩
    cases fl with
    | ret u =>
      obtain ⟨v, σ', H', Jv, rv, q⟩ := hs
      exact fin Jv rv q
    | next =>
      obtain ⟨σ', H', Jv, q⟩ := hs
      exact fin (v := V.non) (u := Value.none) Jv rfl q
    | brk =>
      obtain ⟨_, _, _, q⟩ := hs
      exact q.elim
    | cont =>
      obtain ⟨_, _, _, q⟩ := hs
      exact q.elim
  · rw [hprog.2.2.2.2]
    refine ⟨fmOf H Z, Z, startE N.length ds g, _, rel_start inn rl (by omega), ?_, hc⟩
    refine ⟨fun r q σ H1 Z1 s1 R1 => ?_, fun _ _ q => q.elim, fun _ q => q.elim, fun _ q => q.elim, fun _ _ q => q.elim⟩
    intro p hp
    obtain ⟨zp, fp, np, hs⟩ := R1.fresh hp
    have Rg := (R1.grow (o := .dK []) hp).guard (F := fmOf H Z) upd_same zp hs
    refine jar_pairs hC es Rg q fun g2 kvs H2 Z2 r2 hk s2 R2 ok hm => ?_
    have e1 : H2 p = some (.dK []) := R2.frame p (.dK []) (show upd H p (.dK []) p = _ from upd_same) np
    have ndk : (kvs.map (·.1)).Nodup := by
      rw [hm]
      exact nd
    have hlen : kvs.length ≤ 15 := by
      have := congrArg List.length hm
      rw [List.length_map, List.length_map] at this
      omega
    refine ⟨e1, kvs, rfl, hlen, ?_⟩
    rw [merge_new kvs [] ndk, List.nil_append]
    have zp2 : Z2 p = none := R2.ng p (.inr rfl)
    have hl := js_lists ok
    have lp : ∀ k l, listsAt kvs k = some l → l ≠ p ∧ H l = none ∧ Z2 l = none ∧ H2 l ≠ none := fun k l hk2 => by
      obtain ⟨y1, y2, y3, y4⟩ := hl k l (listsAt_mem hk2)
      have y1' : upd H p (.dK []) l = none := y1
      have ne : l ≠ p := by rintro rfl; rw [upd_same] at y1'; cases y1'
      rw [upd_ne ne] at y1'
      exact ⟨ne, y1', y2, y3⟩
    have jr := (js_rel ok ndk (listsAt kvs) fun _ _ h => h)
    refine hk p (listsAt kvs) _ Z2 ⟨s1.trans s2, fun b o e => ?_, R2.zs, R2.zo, fun b o e n => ?_, ⟨r2.g, J.stable _ H2 _ R2.jar fun b hb => ?_⟩, fun b h1 h2 => R2.ng b (.inl ⟨h1, h2⟩), ?_, fun b hb => ?_⟩
    · have ne : b ≠ p := by rintro rfl; rw [zp2] at e; cases e
      rw [upd_ne ne]
      exact R2.sub b o e
    · have ne : b ≠ p := by
        rintro rfl
        have fp' : H b = none := fp
        rw [fp'] at e
        cases e
      rw [upd_ne ne]
      exact R2.frame b o (show upd H p (.dK []) b = some o by rw [upd_ne ne]; exact e) n
    · rw [upd_ne (by rintro rfl; exact np hb)]
    · refine ⟨?_, ⟨kvs, upd_same, by rw [szl]; omega, jr.mono fun k l hk2 => upd_ne (lp k l hk2).1, fun q hq => ?_⟩, fun k l hk2 => ?_, fun k1 k2 l h1 h2 => js_inj ok ndk k1 k2 l (listsAt_mem h1) (listsAt_mem h2), fun k hk2 => (lp k p hk2).1 rfl⟩
      · unfold KeysOk
        rw [← jr.keys]
        exact ndk
      · have := List.mem_map_of_mem (f := (·.1)) hq
        rw [hm] at this
        obtain ⟨y, hy0, hy⟩ := List.mem_map.mp this
        obtain ⟨x, hx⟩ := chkDisp_keys hd y hy0
        exact ⟨x, hy.symm.trans hx⟩
      · rw [upd_ne (lp k l hk2).1]
        exact (lp k l hk2).2.2.2
    · rcases hb with rfl | ⟨k, hk2⟩
      · exact ⟨fp, zp2⟩
      · exact ⟨(lp k b hk2).2.1, (lp k b hk2).2.2.1⟩
theorem fn_mkL {lv : Nat} {fa : Addr} {name qual : Str} {params : Arguments} {scope : Scope} {dV kV doc pm cdv ct oc : Value} {an od : Option Addr} {osl : Array (Option Value)} {N ps : List Str} {pre : Sts} {es : List (Sum Int Str × Ex)} {xs : List Stmt} {ks : List (Option Expr)} {vals : List Expr} {p1 p2 : Pos}
    (hC : CMono C) (lk : K.lookup fa = some ⟨oc, od, .func (PySem.W.fnOf name qual params (xs ++ [.Return (some (.List vals p1)) p2]) scope dV kV doc pm an cdv ct), osl⟩) (hcd : PySem.W.codeIn K cdv qual = true) (FS : FnScope N ps scope)
    (hb : chkSs cf N ⟨scope, defSt scope⟩ pre xs = true) (hd : chkDispL cf N ⟨scope, defSt scope⟩ 0 es vals = true) (h0 : es ≠ []) (h15 : es.length ≤ 15) (nd : (es.map (·.1)).Nodup) (facts : Facts cf mg) (jk : cf.jk = none) (sf : cf.js = true → ∃ a, SFacts K J a) (fns : cf.fns = []) (hex : cf.excs = []) :
    FnM P w K mg base J false (lv + 1) fa (PySem.W.fnOf name qual params (xs ++ [.Return (some (.List vals p1)) p2]) scope dV kV doc pm an cdv ct) ps (mk1 C T N.length pre es) := by
  constructor
  intro A outer s H args us vs Q E hr gd e0 bt rv hl ⟨Z, ds, g, inn, rl, hc⟩
  have KX : K.In s.heap := e0.mod.kin.keeps fun b o e => (e0.bs b o e).1
  have lim : s.heap.NoLimit := e0.mod.nolimit.keeps fun b o e => (e0.bs b o e).1
  have hkind : ∀ y ∈ ps.zip us, scope.names.lookup y.1 = some .local ∨ (scope.names.lookup y.1 = some .cell ∧ ((cellsFrom (s.heap.objs.size + 1) scope.names []).lookup y.1).isSome = true) := by
    rintro ⟨m, v⟩ hy
    rcases FS.par m (List.of_mem_zip hy).1 with q | q
    · exact .inl q
    · exact .inr ⟨q, PySem.W.cellsFrom_some _ _ _ (.inl q)⟩
  refine codeAny_call_function hr.depth (KX _ _ lk) rfl FS.co FS.gen rfl (PySem.W.codeRec_of KX hcd) (bt _ _ _ _ ?_)
  refine wpAny_newFunctionEnv_cells FS.kind hkind fun env he s1 x => ?_
  subst he
  refine ⟨lim.keeps x.toInCall.keep, codeAny_func ?_⟩
  have hpl : ps.length ≤ N.length := by
    have := congrArg List.length FS.pre
    rw [List.length_take] at this
    omega
  generalize hX : cxOf (L2.CX P w) P w K mg base N qual scope fa cdv A outer s H E = X
  have I : Inv X [] (L2.start N vs) H s1 := by rw [← hX]; exact inv_start FS hr.hd e0 hl rv x
  have GX : Good cf J (xrt K J cf.excs fun _ => 0) C lv X ⟨scope, defSt scope⟩ := by
    subst hX
    refine ⟨rfl, hr.deeper _, gd, FS.nd, rfl, FS.kind, fun y hy => ⟨?_, .inl rfl⟩, facts, fun dk h => (by rw [jk] at h; cases h), sf, fun f p hp => (by rw [fns] at hp; simp at hp)⟩
    have hy' : (match scope.names.lookup y with | some .local => true | some .cell => true | _ => false) = true := hy
    show scope.names.lookup y = some .local ∨ scope.names.lookup y = some .cell
    split at hy'
    · exact .inl (by assumption)
    · exact .inr (by assumption)
    · cases hy'
  have po : PassesOwn (model X.prog X.w) X.A X.env X.xe := by subst hX; exact passes_of rfl
  have B : Bod cf J (xrt K J cf.excs fun _ => 0) (fun _ => 0) T X ⟨scope, defSt scope⟩ := by
    subst hX
    exact ⟨rfl, rfl, ⟨fun c x h => (by rw [hex] at h; simp at h), fun c x c' x' h => (by rw [hex] at h; simp at h), fun c x c' x' h => (by rw [hex] at h; simp at h)⟩, rfl⟩
  have hN : X.N = N := by subst hX; rfl
  have hprog : X.prog = P ∧ X.w = w ∧ X.A = A.deeper (envOfC qual scope s.heap.objs.size fa cdv) ∧ X.env = envOfC qual scope s.heap.objs.size fa cdv ∧ X.K = K := by subst hX; exact ⟨rfl, rfl, rfl, rfl, rfl⟩
  have hlast : PSs X [.Return (some (.List vals p1)) p2] (tRet (tLst (es.foldr (fun p t => tCons (lE X.K J (xrt K J cf.excs fun _ => 0) C noW p.2) t) tNil))) :=
    pss_one (ps_ret (pe_lst (pa_disp GX hC noTakes (by rw [hN]; exact hd))))
  have hS := snd_app (T := T) GX hC (W := noW) noTakes po B pre (xs := xs) (by rw [hN]; exact hb) hlast
  have run := hS.run [] s1 (L2.start N vs) H { nx := fun _ H' => Q .non H', rt := Q } I ?_
  · rw [hprog.1, hprog.2.1, hprog.2.2.1, hprog.2.2.2.1] at run
    refine wpAny_mono run (fun fl s' hs => ?_) fun e s' hs => by subst hX; exact hs
    have fin : ∀ {σ' : L2.St} {H' : Hp} {v : V} {u : Value}, Inv X [] σ' H' s' → RelV v u → Q v H' → CE outer P w H s Q u s' := fun {σ' H' v u} Jv rv q => by
      subst hX
      exact ⟨v, H', Jv.os, Jv.bare, Jv.base, Jv.hok, rv, q⟩
    cases fl with
    | ret u =>
      obtain ⟨v, σ', H', Jv, rv, q⟩ := hs
      exact fin Jv rv q
    | next =>
      obtain ⟨σ', H', Jv, q⟩ := hs
      exact fin (v := V.non) (u := Value.none) Jv rfl q
    | brk =>
      obtain ⟨_, _, _, q⟩ := hs
      exact q.elim
    | cont =>
      obtain ⟨_, _, _, q⟩ := hs
      exact q.elim
  · rw [hprog.2.2.2.2]
    refine ⟨fmOf H Z, Z, startE N.length ds g, _, rel_start inn rl (by omega), ?_, hc⟩
    refine ⟨fun r q σ H1 Z1 s1 R1 => ?_, fun _ _ q => q.elim, fun _ q => q.elim, fun _ q => q.elim, fun _ _ q => q.elim⟩
    refine jar_args hC es R1 q fun g2 kvs H2 Z2 r2 hk s2 R2 ok hm => ?_
    have ndk : (kvs.map (·.1)).Nodup := by
      rw [hm]
      exact nd
    have hlen : kvs.length ≤ 15 := by
      have := congrArg List.length hm
      rw [List.length_map, List.length_map] at this
      omega
    refine ⟨by rw [List.length_map, szl]; omega, fun p hp => ?_⟩
    obtain ⟨zp2, fp, np, hs⟩ := R2.fresh hp
    have fp' : H p = none := fp
    have hl := js_lists ok
    have lp : ∀ k l, listsAt kvs k = some l → l ≠ p ∧ H l = none ∧ Z2 l = none ∧ H2 l ≠ none := fun k l hk2 => by
      obtain ⟨y1, y2, y3, y4⟩ := hl k l (listsAt_mem hk2)
      have y1' : H l = none := y1
      have ne : l ≠ p := by rintro rfl; exact y3 hp
      exact ⟨ne, y1', y2, y3⟩
    have jr := (js_rel ok ndk (listsAt kvs) fun _ _ h => h)
    refine hk p (listsAt kvs) _ Z2 ⟨s1.trans s2, fun b o e => ?_, R2.zs, R2.zo, fun b o e n => ?_, ⟨r2.g, J.stable _ H2 _ R2.jar fun b hb => ?_⟩, fun b h1 h2 => R2.ng b ⟨h1, h2⟩, ?_, fun b hb => ?_⟩
    · have ne : b ≠ p := by rintro rfl; rw [zp2] at e; cases e
      rw [upd_ne ne]
      exact R2.sub b o e
    · have ne : b ≠ p := by
        rintro rfl
        rw [fp'] at e
        cases e
      rw [upd_ne ne]
      exact R2.frame b o e n
    · rw [upd_ne (by rintro rfl; exact np hb)]
    · refine ⟨?_, ⟨kvs, upd_same, jr.mono fun k l hk2 => upd_ne (lp k l hk2).1, ?_⟩, fun k l hk2 => ?_, fun k1 k2 l h1 h2 => js_inj ok ndk k1 k2 l (listsAt_mem h1) (listsAt_mem h2), fun k hk2 => (lp k p hk2).1 rfl⟩
      · unfold KeysOk
        rw [← jr.keys]
        exact ndk
      · have e1 := chkDispL_keys hd
        have e2 : kvs.length = es.length := by
          have := congrArg List.length hm
          simpa using this
        rw [hm, e1, e2]
        unfold keysL
        apply List.map_congr_left
        intro j _
        rw [Nat.zero_add]
      · rw [upd_ne (lp k l hk2).1]
        exact (lp k l hk2).2.2.2
    · rcases hb with rfl | ⟨k, hk2⟩
      · exact ⟨fp', zp2⟩
      · exact ⟨(lp k b hk2).2.1, (lp k b hk2).2.2.1⟩
end
end G

set_option linter.all false
set_option maxRecDepth 100000
set_option Elab.async false
/-! Sx: the def that makes the random state by a display, then fills it in a loop over the script. -/
namespace G
open PySem PySem.Spec PyProof.Rows L2

/-- what stands in that loop: a statement; if t: deck[k] = [e] + deck[k] -/
inductive Mt where
  | st (s : St)
  | dc (t : Ts) (i : Nat) (k : Str) (e : Ex)
def plS : Slot → Bool | .un => true | .fz _ => true | _ => false
def nAl : Slot → Bool | .al _ => false | _ => true
def mtW (C : Calls) (T : Nat → Nat → Bool) : Mt → En → (En → Prop) → Prop
  | .st s, r, K => stW C T s r { nx := K, rt := fun _ _ => False, bk := fun _ => False, ct := fun _ => False, ex := noX }
  | .dc t i k e, r, K => tsW C t r (fun c r1 => if c = true then exW C e r1 (fun x r2 => frz r2 x fun d r2 => (match d with
      | .int n => (isJar (rd r2 i) = true ∧ r2.s.all nAl = true) ∧ (match gget r2.g (.inr k) with
        | some (.list ds) => ds.length < SZ ∧ K (r2.at (gput r2.g (.inr k) (.list (.int n :: ds))))
        | _ => False)
      | _ => False)) noX else K r1) noX
def mtsW (C : Calls) (T : Nat → Nat → Bool) : List Mt → En → (En → Prop) → Prop
  | [], r, K => K r
  | m :: ms, r, K => mtW C T m r fun r1 => mtsW C T ms r1 K
/-- a display for slot j, then the loop -/
def mk2 (C : Calls) (T : Nat → Nat → Bool) (nl : Nat) (j : Nat) (es : List (Sum Int Str × Ex)) (t : Tg) (w : It) (b : List Mt) (ds : List D) (g : Gh) (k : Gh → Prop) : Prop :=
  jarE C es (startE nl ds g) fun g' r => r.s.all plS = true ∧ itW C w ((r.at g').set j (.fz JAR)) (fun xs r2 => forL (fun d r k => tgW t d r fun r3 => mtsW C T b r3 k) (fun r4 => isJar (rd r4 j) = true ∧ k r4.g) xs r2) noX
theorem mtsW_mono {C C' : Calls} (hC : CLe C C') {T : Nat → Nat → Bool} : ∀ (ms : List Mt) {r : En} {K K' : En → Prop}, (∀ r, K r → K' r) → mtsW C T ms r K → mtsW C' T ms r K'
  | [], r, K, K', h => h _
  | .st s :: ms, r, K, K', h => by
    unfold mtsW mtW
    exact stW_mono hC s ⟨fun r1 => mtsW_mono hC ms h, fun _ _ => id, fun _ => id, fun _ => id, fun _ _ => id⟩
  | .dc t i k e :: ms, r, K, K', h => by
    unfold mtsW mtW
    refine tsW_mono hC t (fun c r1 => ?_) fun _ _ => id
    split
    · refine exW_mono hC e (fun x r2 => frz_mono fun d r2 => ?_) fun _ _ => id
      split
      · refine fun q => ⟨q.1, ?_⟩
        have q2 := q.2
        revert q2
        split
        · exact fun q => ⟨q.1, mtsW_mono hC ms h q.2⟩
        · exact id
      · exact id
    · exact mtsW_mono hC ms h
theorem mk2_mono {C C' : Calls} (hC : CLe C C') {T : Nat → Nat → Bool} {nl j : Nat} {es : List (Sum Int Str × Ex)} {t : Tg} {w : It} {b : List Mt} {ds : List D} {g : Gh} {k k' : Gh → Prop} (h : ∀ g, k g → k' g) : mk2 C T nl j es t w b ds g k → mk2 C' T nl j es t w b ds g k' := by
  unfold mk2
  refine jarE_mono hC es fun g r q => ⟨q.1, itW_mono hC w (fun xs r2 => forL_mono (fun d r k k' hk => tgW_mono t (d := d) (r := r) fun r3 => mtsW_mono hC b (r := r3) hk) (fun r4 (q : isJar (rd r4 j) = true ∧ k r4.g) => (⟨q.1, h _ q.2⟩ : isJar (rd r4 j) = true ∧ k' r4.g)) _ _) (fun _ _ => id) q.2⟩
theorem mk1_mono {C C' : Calls} (hC : CLe C C') {T : Nat → Nat → Bool} {nl : Nat} {pre : Sts} {es : List (Sum Int Str × Ex)} {ds : List D} {g : Gh} {k k' : Gh → Prop} (h : ∀ g, k g → k' g) : mk1 C T nl pre es ds g k → mk1 C' T nl pre es ds g k' := by
  unfold mk1
  exact stsW_mono hC pre ⟨fun r q => jarW_mono hC es h q, fun _ _ => id, fun _ => id, fun _ => id, fun _ _ => id⟩

/-- the dict at p beside the script -/
def jarM (S : Jar) (p : Addr) (L : Sum Int Str → Option Addr) : Jar where
  at_ := some p
  sc := S.sc
  L := L
  A := fun b => (jarD p L).A b ∨ S.A b
  P := fun g H => (jarD p L).P g H ∧ (∃ g0, S.P g0 H) ∧ ∀ b, S.A b → ¬ (jarD p L).A b
  there := fun g H b ⟨h1, ⟨g0, h2⟩, _⟩ hb => hb.elim ((jarD p L).there g H b h1) (S.there g0 H b h2)
  stable := fun g H H' ⟨h1, ⟨g0, h2⟩, h3⟩ s => ⟨(jarD p L).stable g H H' h1 fun b hb => s b (.inl hb), ⟨g0, S.stable g0 H H' h2 fun b hb => s b (.inr hb)⟩, h3⟩
theorem jarM_ok (S : Jar) (p : Addr) (L : Sum Int Str → Option Addr) : JFacts (jarM S p L) p true where
  at_ := rfl
  ja := .inl (.inl rfl)
  get := fun g H k d ⟨h1, _⟩ hg => by
    obtain ⟨v, y1, y2⟩ := (jarD_ok p L).get g H k d h1 hg
    refine ⟨v, y1, y2.imp id fun ⟨ns, l, e1, e2, e3, e4, e5⟩ => ⟨ns, l, e1, e2, e3, .inl e4, e5⟩⟩
  putL := fun g H k ds l ns ⟨h1, ⟨g0, h2⟩, h3⟩ hg hl hz =>
    ⟨(jarD_ok p L).putL g H k ds l ns h1 hg hl hz, ⟨g0, S.stable g0 H _ h2 fun b hb => upd_ne fun e => h3 b hb (.inr ⟨k, e ▸ hl⟩)⟩, h3⟩
  putI := fun g H k m n ⟨h1, ⟨g0, h2⟩, h3⟩ hg => by
    obtain ⟨o, y1, y2⟩ := (jarD_ok p L).putI g H k m n h1 hg
    exact ⟨o, y1, y2, ⟨g0, S.stable g0 H _ h2 fun b hb => upd_ne fun e => h3 b hb (.inl e)⟩, h3⟩
theorem jarM_sf {K : PySem.W.Frag} {S : Jar} {p a : Addr} {L : Sum Int Str → Option Addr} (h : SFacts K S a) : SFacts K (jarM S p L) a := by
  obtain ⟨ns, h1, h2, h3⟩ := h.ex
  exact ⟨ns, h1, h2, fun g H ⟨_, ⟨g0, q⟩, _⟩ => h3 g0 H q⟩
/-- what stands is told by the place alone -/
theorem Rep.jars {K : PySem.W.Frag} {J J' : Jar} {Z : Hp} (ha : ∀ a, J.at_ = some a → J'.at_ = some a) (hs : J'.sc = J.sc) : ∀ {v : V} {d : D}, Rep K J Z v d → Rep K J' Z v d := by
  intro v d h
  refine Rep.rec (motive_1 := fun v d _ => Rep K J' Z v d) (motive_2 := fun v d _ => RepL K J' Z v d) .non (fun b => .bl b) (fun b => .int b) (fun b => .str b) (fun h _ ih => .lst h ih) (fun h _ ih => .tup h ih) (fun h => .jar (ha _ h)) (fun h => .dct h) (fun h => .scr (by rw [hs]; exact h)) .nil (fun _ _ h t => .cons h t) h
theorem RepL.jars {K : PySem.W.Frag} {J J' : Jar} {Z : Hp} (ha : ∀ a, J.at_ = some a → J'.at_ = some a) (hs : J'.sc = J.sc) : ∀ {v : List V} {d : List D}, RepL K J Z v d → RepL K J' Z v d
  | _, _, .nil => .nil
  | _, _, .cons h t => .cons (h.jars ha hs) (RepL.jars ha hs t)
theorem all_rd {p : Slot → Bool} {r : En} (h : r.s.all p = true) (hu : p .un = true) (i : Nat) : p (rd r i) = true := by
  unfold rd
  rw [List.getD_eq_getElem?_getD]
  cases e : r.s[i]? with
  | none => exact hu
  | some x => exact List.all_eq_true.mp h x (List.mem_of_getElem? e)
/-- one list of it is another one now -/
theorem JRel.putN {L L' : Sum Int Str → Option Addr} {H H' : Hp} {vs : List (Sum Int Str × V)} {g : Gh} (h : JRel L H vs g) {k : Sum Int Str} {o : Addr} {ms : List Int} (nd : (vs.map (·.1)).Nodup) (ho : H' o = some (.lst (ms.map V.int))) (hz : ms.length ≤ sizeLine) (hk : L' k = some o) (hL : ∀ k' l, k' ≠ k → L k' = some l → L' k' = some l ∧ H' l = H l) :
    JRel L' H' (vs.map fun kv => if kv.1 = k then (kv.1, V.ref o) else kv) (gput g k (.list (ms.map .int))) := by
  induction h with
  | nil => exact .nil
  | @cons k0 v0 d0 vs g h1 h2 ih =>
    rw [List.map_cons, List.nodup_cons] at nd
    unfold gput
    rw [List.map_cons, List.map_cons]
    by_cases q : k0 = k
    · subst q
      rw [if_pos rfl, if_pos rfl]
      exact .cons (.inr ⟨ms, o, rfl, rfl, hk, ho, hz⟩) (ih nd.2)
    · rw [if_neg q, if_neg q]
      refine .cons ?_ (ih nd.2)
      rcases h1 with h1 | ⟨ns, l, e1, e2, e3, e4, e5⟩
      · exact .inl h1
      · obtain ⟨y1, y2⟩ := hL _ _ q e3
        exact .inr ⟨ns, l, e1, e2, y1, by rw [y2]; exact e4, e5⟩
section
variable {K : PySem.W.Frag} {S : Jar} {F : Fm} {σ : L2.St} {H Z : Hp} {r : En} {p : Addr} {L : Sum Int Str → Option Addr}
/-- deck[k] is another list now -/
theorem Rel.rejar (R : Rel K (jarM S p L) F σ H Z r) (own : ∀ b, (jarD p L).A b → F.o b = none) (al : r.s.all nAl = true) {k : Str} {ds : List D} {ms : List Int} {o : Addr} (hg : gget r.g (.inr k) = some (.list ds)) (ho : H o = some (.lst (ms.map V.int))) (hz : ms.length ≤ sizeLine) (zo : Z o = none) (fo : F.o o = none) (no : ¬ (jarM S p L).A o) (hs : ∀ i es, rd r i = .ow es → σ[i]? ≠ some (some (.ref o))) :
    ∃ L' kvs, H p = some (.dK kvs) ∧ kvs.length < sizeLine ∧ Rel K (jarM S p L') F σ (upd H p (.dK (putK kvs (.inr k) (.ref o)))) Z (r.at (gput r.g (.inr k) (.list (ms.map .int)))) ∧ ∀ b, (jarD p L').A b → F.o b = none := by
  obtain ⟨⟨k0, ⟨kvs, e1, e2, jr, t⟩, h, inj, na⟩, ⟨g0, sp⟩, dis⟩ := R.jar
  obtain ⟨v0, i0, h1, h2, h3⟩ := jr.get hg
  have nd : (kvs.map (·.1)).Nodup := by rw [jr.keys]; exact k0
  have ex : putK kvs (.inr k) (V.ref o) = kvs.map fun kv => if kv.1 = .inr k then (kv.1, V.ref o) else kv := by
    unfold putK
    rw [if_pos]
    rw [List.any_eq_true]
    exact ⟨_, List.mem_of_getElem? h1, by simp⟩
  have op : o ≠ p := fun e => no (.inl (.inl e))
  have oL : ∀ k l, L k = some l → l ≠ o := fun k l hl e => no (.inl (.inr ⟨k, e ▸ hl⟩))
  have oS : ¬ S.A o := fun h => no (.inr h)
  let L' : Sum Int Str → Option Addr := fun k' => if k' = .inr k then some o else L k'
  have L's : L' (.inr k) = some o := if_pos rfl
  have L'n : ∀ k', k' ≠ .inr k → L' k' = L k' := fun k' n => if_neg n
  have L'c : ∀ {k' l}, L' k' = some l → (k' = .inr k ∧ l = o) ∨ (k' ≠ .inr k ∧ L k' = some l) := fun {k' l} e => by
    by_cases q : k' = .inr k
    · subst q; rw [L's] at e; cases e; exact .inl ⟨rfl, rfl⟩
    · rw [L'n _ q] at e; exact .inr ⟨q, e⟩
  have Aof : ∀ {b}, (jarD p L').A b → b = o ∨ (jarD p L).A b := fun {b} hb => by
    rcases hb with hb | ⟨k', e⟩
    · exact .inr (.inl hb)
    · rcases L'c e with ⟨_, e⟩ | ⟨_, e⟩
      · exact .inl e
      · exact .inr (.inr ⟨k', e⟩)
  have own' : ∀ b, (jarD p L').A b → F.o b = none := fun b hb => by
    rcases Aof hb with rfl | hb
    · exact fo
    · exact own b hb
  refine ⟨L', kvs, e1, e2, ⟨fun b x e => ?_, fun b x e n => ?_, ?_, fun b hb => ?_, R.len, fun i d e => ?_, fun i es e => ?_, R.sep, R.zs, R.zo, R.ng, R.gf, fun i k' e => ?_⟩, own'⟩
  · have bp : b ≠ p := by rintro rfl; rw [R.jz b (.inl (.inl rfl))] at e; cases e
    rw [upd_ne bp]
    exact R.sub b x e
  · have bp : b ≠ p := fun e => n (.inl (.inl e))
    rw [upd_ne bp]
    refine R.frame b x e fun ha => ?_
    rcases ha with ha | ha
    · rw [own b ha] at e; cases e
    · exact n (.inr ha)
  · refine ⟨⟨keys_put k0, ⟨_, upd_same, ?_, ?_, ?_⟩, fun k' l hl => ?_, fun k1 k2 l h1 h2 => ?_, fun k' hl => ?_⟩, ⟨g0, S.stable g0 H _ sp fun b hb => upd_ne fun e => dis b hb (.inl e)⟩, fun b hb ha => ?_⟩
    · rw [ex, List.length_map]; exact e2
    · rw [ex]
      refine jr.putN (H' := upd H p _) nd (by rw [upd_ne op]; exact ho) hz L's fun k' l n hl => ⟨by rw [L'n _ n]; exact hl, upd_ne fun e => na k' (e ▸ hl)⟩
    · rw [ex]
      intro q hq
      obtain ⟨q0, hq0, rfl⟩ := List.mem_map.mp hq
      obtain ⟨y, hy⟩ := t q0 hq0
      split
      · exact ⟨y, hy⟩
      · exact ⟨y, hy⟩
    · rcases L'c hl with ⟨_, rfl⟩ | ⟨_, e⟩
      · rw [upd_ne op, ho]; exact fun z => by cases z
      · rw [upd_ne (fun e2 : l = p => na k' (by rw [← e2]; exact e))]; exact h k' l e
    · rcases L'c h1 with ⟨a1, rfl⟩ | ⟨a1, b1⟩ <;> rcases L'c h2 with ⟨a2, b2⟩ | ⟨a2, b2⟩
      · rw [a1, a2]
      · exact absurd rfl (oL _ _ b2)
      · exact absurd b2 (oL _ _ b1)
      · exact inj k1 k2 l b1 b2
    · rcases L'c hl with ⟨_, e⟩ | ⟨_, e⟩
      · exact op e.symm
      · exact na k' e
    · rcases Aof ha with rfl | ha
      · exact oS hb
      · exact dis b hb ha
  · rcases hb with hb | hb
    · rcases Aof hb with rfl | hb
      · exact zo
      · exact R.jz b (.inl hb)
    · exact R.jz b (.inr hb)
  · obtain ⟨v, y1, y2⟩ := R.fz i d e
    exact ⟨v, y1, y2.jars (J := jarM S p L) (J' := jarM S p L') (fun _ h => h) rfl⟩
  · obtain ⟨a, vs, y1, y2, y3, y4, y5, y6, y7⟩ := R.ow i es e
    refine ⟨a, vs, y1, by rw [upd_ne fun e => y7 (.inl (.inl e))]; exact y2, y3, y4.jars (J := jarM S p L) (J' := jarM S p L') (fun _ h => h) rfl, y5, y6, fun ha => ?_⟩
    rcases ha with ha | ha
    · rcases Aof ha with rfl | ha
      · exact hs i es e y1
      · exact y7 (.inl ha)
    · exact y7 (.inr ha)
  · have := all_rd al rfl i
    have e' : rd r i = .al k' := e
    rw [e'] at this
    cases this
end
/-- the loop's statements, checked -/
def chkMt (cf : Cfg) (N : List Str) (S : Sc) : Mt → Stmt → Bool
  | .st s, x => chkS cf N S s x
  | .dc t i k e, .If u [.Assign [.Subscript (.Name x _) (.Constant (.str y) _ _) _] (.BinOp (.List [v] _) .Add (.Subscript (.Name x2 _) (.Constant (.str y2) _ _) _) _) _] [] _ =>
    chkT cf N S t u && (decide (N[i]? = some x) && (visB S x && (okName x && (decide (x2 = x) && (decide (y = k) && (decide (y2 = k) && (notStar v && (decide (cf.jk = some true) && chkE cf N S e v))))))))
  | _, _ => false
def chkMts (cf : Cfg) (N : List Str) (S : Sc) : List Mt → List Stmt → Bool
  | [], [] => true
  | m :: ms, x :: xs => chkMt cf N S m x && chkMts cf N S ms xs
  | _, _ => false
section
variable {cf : Cfg} {SJ : Jar} {C : Calls} {lv : Nat} {X : Cx} {S : Sc} {T : Nat → Nat → Bool} {ad : Nat → Addr} (hC : CMono C)
  (GM : ∀ p L, Good cf (jarM SJ p L) (xrt X.K (jarM SJ p L) cf.excs ad) C lv X S) (BM : ∀ p L, Bod cf (jarM SJ p L) (xrt X.K (jarM SJ p L) cf.excs ad) ad T X S) (po : PassesOwn (model X.prog X.w) X.A X.env X.xe)
/-- the state in the loop -/
def MR (K : PySem.W.Frag) (SJ : Jar) (F : Fm) (σ : L2.St) (H Z : Hp) (r : En) (p : Addr) : Prop := ∃ L, Rel K (jarM SJ p L) F σ H Z r ∧ ∀ b, (jarD p L).A b → F.o b = none
def lM (K : PySem.W.Frag) (SJ : Jar) (C : Calls) (T : Nat → Nat → Bool) (m : List Mt) : TS := fun D σ H => ∃ p F Z r k, MR K SJ F σ H Z r p ∧ (∀ r', k r' → ∀ σ' H' Z', Same Z Z' → MR K SJ F σ' H' Z' r' p → D.nx σ' H') ∧ mtsW C T m r k
include hC GM
theorem m_dc {t : Ts} {i : Nat} {k x : Str} {e : Ex} {u v : Expr} {p1 p2 q1 q2 tp lp sp bp ap pos : Pos} {n1 n2 : Nat} (ht : chkT cf X.N S t u = true) (hi : X.N[i]? = some x) (hv : visB S x = true) (ok : okName x = true) (ns : notStar v = true) (hj : cf.jk = some true) (he : chkE cf X.N S e v = true) :
    PS X (.If u [.Assign [.Subscript (.Name x p1) (.Constant (.str k) n1 q1) tp] (.BinOp (.List [v] lp) .Add (.Subscript (.Name x p2) (.Constant (.str k) n2 q2) sp) bp) ap] [] pos) (lM X.K SJ C T [.dc t i k e]) := by
  have G0 := GM 0 fun _ => none
  obtain ⟨d1, d2⟩ := okName_of G0 ok
  have hu : X.A.units + 1 < cLine := by have := G0.room.un; omega
  have hT : PT X u (fun σ H Q => ∃ p L, lT X.K (jarM SJ p L) (xrt X.K (jarM SJ p L) cf.excs ad) C noW t σ H Q) := ⟨fun pins s σ H Q I ⟨p, L, q⟩ => (snd_T hC t (GM p L) noTakes ht).1.run pins s σ H Q I q⟩
  have hE : PE X v (fun σ H Q => ∃ p L, lE X.K (jarM SJ p L) (xrt X.K (jarM SJ p L) cf.excs ad) C noW e σ H Q) := ⟨fun pins s σ H Q I ⟨p, L, q⟩ => (snd_E hC e (GM p L) noTakes he).1.run pins s σ H Q I q⟩
  have hF : PE X (.Subscript (.Name x p2) (.Constant (.str k) n2 q2) sp) (fun σ H Q => ∃ p L, lFld X.K (jarM SJ p L) i (.inr k) σ H Q) := ⟨fun pins s σ H Q I ⟨p, L, q⟩ => (j_fld (J := jarM SJ p L) (GM p L) hi hv ok (show chkKey (.inr k) (.Constant (.str k) n2 q2) = true from decide_eq_true rfl) hj).run pins s σ H Q I q⟩
  refine (ps_if hT (pss_one (ps_dput hu (pe_var hi (G0.vis hv) d1 d2) pe_str (pe_op (op_all (J := SJ) (o := .add) rfl) (pe_lst (pa_cons hE pa_nil (star_of ns))) hF) rfl)) pss_nil).imp fun pins s D σ H I ⟨p, F, Z, r, kk, ⟨L, R, own⟩, en, h⟩ => ?_
  unfold mtsW mtW at h
  refine ⟨p, L, use_T hC R XC.no h fun c r1 h1 H1 Z1 s1 R1 => ?_⟩
  cases c with
  | false =>
    rw [if_neg Bool.false_ne_true] at h1 ⊢
    unfold mtsW at h1
    exact en r1 h1 σ H1 Z1 s1 ⟨L, R1, own⟩
  | true =>
    rw [if_pos rfl] at h1 ⊢
    refine ⟨p, L, use_E hC R1 XC.no h1 fun z r2 h2 w H2 Z2 s2 R2 p2 => ?_⟩
    obtain ⟨d, r3, Z3, s3, R3, hd, h3⟩ := R2.frz p2 h2
    split at h3
    · rename_i n
      cases rep_int hd
      obtain ⟨⟨ej, al⟩, h3⟩ := h3
      split at h3
      · rename_i ds eg
        obtain ⟨lt, h3⟩ := h3
        refine ⟨by show 1 ≤ sizeLine; rw [szl]; decide, fun o1 ho1 => ?_⟩
        have R4 := R3.grow (o := .lst [.int n]) ho1
        refine ⟨p, L, F, Z3, r3, _, R4, ej, eg, fun vv hvv => ?_⟩
        rcases hvv with ⟨m, z, _⟩ | ⟨ns2, l, z, rfl, f1, f2, f3, f4⟩
        · cases z
        · cases z
          rw [List.length_map] at lt
          refine ⟨fun _ => none, .list [.int n], .list (ns2.map .int), fun _ _ z => (by cases z), ⟨o1, [.int n], rfl, upd_same, by rw [szl]; show 1 ≤ 16777216; decide, .cons (.int n) .nil⟩, ⟨l, _, rfl, f3, by rw [List.length_map]; exact f4, RepL.ofInts ns2⟩, ?_⟩
          refine ⟨by rw [List.length_map]; show 1 + ns2.length ≤ SZ; omega, fun y H5 hr => ?_⟩
          obtain ⟨o2, ws, ho2, rfl, rfl, rl, wz⟩ := hr
          have ei : asInts ([PyData.int n] ++ ns2.map .int) = some (n :: ns2) := by
            show (asInts (ns2.map PyData.int)).map (n :: ·) = _
            have : ∀ ms : List Int, asInts (ms.map .int) = some ms := fun ms => by
              induction ms with
              | nil => rfl
              | cons a as ih => show (asInts (as.map PyData.int)).map (a :: ·) = _; rw [ih]; rfl
            rw [this]
            rfl
          obtain ⟨ew, _⟩ := rl.ints ei
          subst ew
          have fr := R4.fresh ho2
          have R5 := R4.grow (o := .lst ((n :: ns2).map V.int)) ho2
          obtain ⟨a', y1, y2⟩ := R5.jarAt ej
          cases (show some p = some a' from y1)
          obtain ⟨L', kvs, g1, g2, R6, own6⟩ := R5.rejar own al (ms := n :: ns2) eg upd_same (by rw [List.length_map] at wz; exact wz) fr.1 fr.2.1 fr.2.2.1 fr.2.2.2
          refine ⟨_, y2, p, _, rfl, DPut.k (k := Sum.inr k) g1 g2, ?_⟩
          unfold mtsW at h3
          exact en _ h3 σ _ Z3 ((s1.trans s2).trans s3) ⟨L', R6, own6⟩
      · exact h3.elim
    · exact h3.elim
include BM po
theorem m_all : ∀ (ms : List Mt) {xs : List Stmt}, chkMts cf X.N S ms xs = true → PSs X xs (lM X.K SJ C T ms)
  | [], [], _ => pss_nil.imp fun pins s D σ H I ⟨p, F, Z, r, kk, M, en, h⟩ => by
    unfold mtsW at h
    exact en r h σ H Z (.refl _) M
  | m :: ms, x :: xs, h => by
    unfold chkMts at h
    obtain ⟨h1, h2⟩ := and2 h
    have ih := m_all ms h2
    have one : PS X x (lM X.K SJ C T [m]) := by
      cases m with
      | st s =>
        unfold chkMt at h1
        refine (show PS X x (fun D σ H => ∃ p L, lS X.K (jarM SJ p L) (xrt X.K (jarM SJ p L) cf.excs ad) C T noW s D σ H) from ⟨fun pins s2 σ H D I ⟨p, L, q⟩ => (snd_S hC s (GM p L) noTakes po (BM p L) h1).run pins s2 σ H D I q⟩).imp fun pins s2 D σ H I ⟨p, F, Z, r, kk, ⟨L, R, own⟩, en, h⟩ => ?_
        unfold mtsW mtW at h
        refine ⟨p, L, F, Z, r, { nx := fun r1 => mtsW C T [] r1 kk, rt := fun _ _ => False, bk := fun _ => False, ct := fun _ => False, ex := noX }, R, ⟨fun r1 q1 σ1 H1 Z1 s1 R1 => ?_, fun _ _ q => q.elim, fun _ q => q.elim, fun _ q => q.elim, fun _ _ q => q.elim⟩, h⟩
        unfold mtsW at q1
        exact en r1 q1 σ1 H1 Z1 s1 ⟨L, R1, own⟩
      | dc t i k e =>
        unfold chkMt at h1
        split at h1
        all_goals first | (exact absurd h1 Bool.false_ne_true) | (rename_i heq; cases heq; done) | (rename_i heq; cases heq) | skip
        obtain ⟨g1, y1⟩ := and2 h1
        obtain ⟨g2, y2⟩ := and2 y1
        obtain ⟨g3, y3⟩ := and2 y2
        obtain ⟨g4, y4⟩ := and2 y3
        obtain ⟨g5, y5⟩ := and2 y4
        obtain ⟨g6, y6⟩ := and2 y5
        obtain ⟨g7, y7⟩ := and2 y6
        obtain ⟨g8, y8⟩ := and2 y7
        obtain ⟨g9, y9⟩ := and2 y8
        cases of_decide_eq_true g5
        cases of_decide_eq_true g6
        cases of_decide_eq_true g7
        exact m_dc hC GM g1 (of_decide_eq_true g2) g3 g4 g8 (of_decide_eq_true g9) y9
    refine (pss_cons one ih).imp fun pins s D σ H I ⟨p, F, Z, r, kk, M, en, h⟩ => ?_
    refine ⟨p, F, Z, r, fun r1 => mtsW C T ms r1 kk, M, fun r1 q1 σ1 H1 Z1 s1 M1 => ?_, ?_⟩
    · exact ⟨p, F, Z1, r1, kk, M1, fun r2 q2 σ2 H2 Z2 s2 M2 => en r2 q2 σ2 H2 Z2 (s1.trans s2) M2, q1⟩
    · exact h
  | [], _ :: _, h => by unfold chkMts at h; cases h
  | _ :: _, [], h => by unfold chkMts at h; cases h
theorem m_for {tg iter : Expr} {t : Tg} {w : It} {b : List Mt} {eb : List Stmt} {pos : Pos} (ns : notSet iter = true) (h2 : chkTg X.N S t tg = true) (h3 : chkW cf X.N S w iter tg = true) (h4 : chkMts cf X.N S b eb = true) :
    PS X (.For tg iter eb [] pos) (fun D σ H => ∃ p F Z r kk, MR X.K SJ F σ H Z r p ∧ (∀ r', kk r' → ∀ σ' H' Z', Same Z Z' → MR X.K SJ F σ' H' Z' r' p → D.nx σ' H') ∧ itW C w r (fun xs r2 => forL (fun d r k => tgW t d r fun r3 => mtsW C T b r3 k) kk xs r2) noX) := by
  have hi : PI X tg iter (fun σ H R => ∃ p L, lW X.K (jarM SJ p L) (xrt X.K (jarM SJ p L) cf.excs ad) C noW w σ H R) := ⟨fun pins s σ H R I ⟨p, L, q⟩ => (snd_W hC w (GM p L) noTakes h3).run pins s σ H R I q⟩
  have hg : PG X tg (fun v σ H Q => ∃ p L, lG X.K (jarM SJ p L) t v σ H Q) := ⟨fun pins s σ H v u Q I r ⟨p, L, q⟩ => (s_tg (GM p L) h2).run pins s σ H v u Q I r q⟩
  have hc : X.calm = true := (GM 0 fun _ => none).calm
  refine (ps_for po hc hi hg (m_all hC GM BM po b h4) (by intro x; cases iter <;> first | rfl | cases ns)).imp fun pins s D σ H I ⟨p, F, Z, r, kk, ⟨L, R, own⟩, en, h⟩ => ?_
  refine ⟨p, L, use_W hC R XC.no h fun ds r1 h1 Jt H1 Z1 s1 R1 wk hl => ?_⟩
  refine ⟨fun i m σ H => ∃ Z' r', Same Z1 Z' ∧ MR X.K SJ F σ H Z' r' p ∧ i + m = ds.length ∧ forL (fun d r k => tgW t d r fun r3 => mtsW C T b r3 k) kk (ds.drop i) r', ⟨ds.length, Z1, r1, .refl _, ⟨L, R1, own⟩, by omega, h1⟩, fun i m σ2 H2 ⟨Z2, r2, s2, ⟨L2, R2, own2⟩, em, f2⟩ => ?_⟩
  by_cases hi : i < ds.length
  · rw [List.drop_eq_getElem_cons hi] at f2
    unfold forL at f2
    obtain ⟨go, yl⟩ := (wk i H2 (s2.trans R2.sub)).1 _ (List.getElem?_eq_getElem hi)
    refine .inr ⟨go, fun σ' H' => ∃ m', m' < m ∧ ∃ Z' r', Same Z1 Z' ∧ MR X.K SJ F σ' H' Z' r' p ∧ i + 1 + m' = ds.length ∧ forL (fun d r k => tgW t d r fun r3 => mtsW C T b r3 k) kk (ds.drop (i + 1)) r', fun σ' H' q => q, fun x H3 y => ?_⟩
    have res := yl x H3 y
    have res' : Res X.K (jarM SJ p L2) H2 Z2 (.val ds[i]) x H3 := by
      rcases res with ⟨p1, p2⟩ | ⟨q, vs, es, p1, p2, p3, p4, p5, p6⟩
      · exact .inl ⟨p1, (p2.jars (J := jarM SJ p L) (J' := jarM SJ p L2) (fun _ h => h) rfl).mono s2⟩
      · exact .inr ⟨q, vs, es, p1, p2, p3, p4, (p5.jars (J := jarM SJ p L) (J' := jarM SJ p L2) (fun _ h => h) rfl).mono s2, p6⟩
    obtain ⟨Z3, s3, R3, hd⟩ := R2.res res'
    refine ⟨p, L2, F, Z3, r2, ds[i], R3, hd, tgW_mono t (fun r4 q4 σ4 R4 _ => ?_) f2⟩
    have sA := s2.trans s3
    refine ⟨p, F, Z3, r4, fun r5 => forL (fun d r k => tgW t d r fun r3 => mtsW C T b r3 k) kk (ds.drop (i + 1)) r5, ⟨L2, R4, own2⟩, fun r5 h5 σ5 H5 Z5 s5 M5 => ?_, q4⟩
    exact ⟨m - 1, by omega, Z5, r5, sA.trans s5, M5, by omega, h5⟩
  · rw [List.drop_eq_nil_of_le (by omega)] at f2
    unfold forL at f2
    exact .inl ⟨(wk i H2 (s2.trans R2.sub)).2 (by omega), en r2 f2 σ2 H2 Z2 (s1.trans s2) ⟨L2, R2, own2⟩⟩
end
section
variable {K : PySem.W.Frag} {S : Jar} {F : Fm} {σ : L2.St} {H Z : Hp} {r : En} {p : Addr}
theorem Rel.jarMk (R : Rel K S F σ H Z r) (pl : r.s.all plS = true) {kvs : List (Sum Int Str × V)} {g : Gh} {j : Nat} (e1 : H p = some (.dK [])) (zp : Z p = none) (fp : F.o p = none) (np : ¬ S.A p) (ok : JsOk S H Z (F.add p (.dK [])) kvs g) (ndk : (kvs.map (·.1)).Nodup) (hlen : kvs.length ≤ 15) (hk : ∀ q ∈ kvs, ∃ x, q.1 = Sum.inr x) (hj : j < r.length) (sa : ∀ a, S.at_ = some a → False) :
    MR K S F (σ.set j (some (.ref p))) (upd H p (.dK kvs)) Z ((r.at g).set j (.fz JAR)) p := by
  have hl := js_lists ok
  have lp : ∀ k l, listsAt kvs k = some l → l ≠ p ∧ F.o l = none ∧ Z l = none ∧ H l ≠ none ∧ ¬ S.A l := fun k l hk2 => by
    obtain ⟨y1, y2, y3, y4⟩ := hl k l (listsAt_mem hk2)
    have y1' : upd F.o p (.dK []) l = none := y1
    have ne : l ≠ p := by rintro rfl; rw [upd_same] at y1'; cases y1'
    rw [upd_ne ne] at y1'
    exact ⟨ne, y1', y2, y3, y4⟩
  have jr := (js_rel ok ndk (listsAt kvs) fun _ _ h => h)
  have own : ∀ b, (jarD p (listsAt kvs)).A b → F.o b = none ∧ Z b = none ∧ ¬ S.A b := fun b hb => by
    rcases hb with rfl | ⟨k, hk2⟩
    · exact ⟨fp, zp, np⟩
    · exact ⟨(lp k b hk2).2.1, (lp k b hk2).2.2.1, (lp k b hk2).2.2.2.2⟩
  have slots : ∀ {i : Nat} {x : Slot}, rd ((r.at g).set j (.fz JAR)) i = x → (i = j ∧ x = .fz JAR) ∨ (i ≠ j ∧ rd r i = x ∧ plS x = true) := fun {i x} e => by
    by_cases q : j = i
    · subst q
      rw [rd_same (show j < (r.at g).length from hj)] at e
      exact .inl ⟨rfl, e.symm⟩
    · rw [rd_ne q] at e
      have e' : rd r i = x := e
      have := all_rd pl rfl i
      rw [e'] at this
      exact .inr ⟨fun z => q z.symm, e', this⟩
  refine ⟨listsAt kvs, ⟨fun b x e => ?_, fun b x e n => ?_, ⟨⟨?_, ⟨kvs, upd_same, by rw [szl]; omega, jr.mono fun k l hk2 => upd_ne (lp k l hk2).1, hk⟩, fun k l hk2 => ?_, fun k1 k2 l h1 h2 => js_inj ok ndk k1 k2 l (listsAt_mem h1) (listsAt_mem h2), fun k hk2 => (lp k p hk2).1 rfl⟩, ⟨r.g, S.stable _ H _ R.jar fun b hb => upd_ne fun e => np (e ▸ hb)⟩, fun b hb ha => (own b ha).2.2 hb⟩, fun b hb => ?_, ?_, fun i d e => ?_, fun i ds e => ?_, fun i i2 ds es a e => ?_, R.zs, R.zo, R.ng, R.gf, fun i k e => ?_⟩, fun b hb => (own b hb).1⟩
  · have ne : b ≠ p := by rintro rfl; rw [zp] at e; cases e
    rw [upd_ne ne]
    exact R.sub b x e
  · have ne : b ≠ p := fun e => n (.inl (.inl e))
    rw [upd_ne ne]
    exact R.frame b x e fun ha => n (.inr ha)
  · show (g.map (·.1)).Nodup
    rw [← jr.keys]
    exact ndk
  · rw [upd_ne (lp k l hk2).1]
    exact (lp k l hk2).2.2.2.1
  · rcases hb with hb | hb
    · exact (own b hb).2.1
    · exact R.jz b hb
  · rw [List.length_set, En.length_set]
    exact R.len
  · rcases slots e with ⟨rfl, e2⟩ | ⟨ne, e2, _⟩
    · cases e2
      exact ⟨_, List.getElem?_set_self (by rw [R.len]; exact hj), .jar rfl⟩
    · obtain ⟨v, y1, y2⟩ := R.fz i d e2
      exact ⟨v, by rw [List.getElem?_set_ne (fun z => ne z.symm)]; exact y1, y2.jars (J := S) (J' := jarM S p (listsAt kvs)) (fun a h => (sa a h).elim) rfl⟩
  · rcases slots e with ⟨_, e2⟩ | ⟨_, _, e2⟩ <;> cases e2
  · rcases slots e with ⟨_, e2⟩ | ⟨_, _, e2⟩ <;> cases e2
  · rcases slots e with ⟨_, e2⟩ | ⟨_, _, e2⟩ <;> cases e2
end
section
variable {P : Program} {w : World} {K : PySem.W.Frag} {mg : Str → Option Value} {base : Heap} {cf : Cfg} {J : Jar} {C : Calls} {T : Nat → Nat → Bool}
theorem fn_mk2 {lv : Nat} {fa : Addr} {name qual : Str} {params : Arguments} {scope : Scope} {dV kV doc pm cdv ct oc : Value} {an od : Option Addr} {osl : Array (Option Value)} {N ps : List Str} {j : Nat} {es : List (Sum Int Str × Ex)} {t : Tg} {w_ : It} {b : List Mt} {jn : Str} {tg iter : Expr} {eb : List Stmt} {ks : List (Option Expr)} {vals : List Expr} {p1 p2 p3 p4 p5 p6 : Pos} {a0 : Addr}
    (hC : CMono C) (lk : K.lookup fa = some ⟨oc, od, .func (PySem.W.fnOf name qual params [.Assign [.Name jn p1] (.Dict ks vals p2) p3, .For tg iter eb [] p4, .Return (some (.Name jn p5)) p6] scope dV kV doc pm an cdv ct), osl⟩) (hcd : PySem.W.codeIn K cdv qual = true) (FS : FnScope N ps scope)
    (hj1 : N[j]? = some jn) (hj2 : defSt scope jn = true) (hj3 : visB ⟨scope, defSt scope⟩ jn = true) (hj4 : okName jn = true)
    (hd : chkDisp cf N ⟨scope, defSt scope⟩ es ks vals = true) (h0 : es ≠ []) (h15 : es.length ≤ 15) (nd : (es.map (·.1)).Nodup)
    (ns : notSet iter = true) (htg : chkTg N ⟨scope, defSt scope⟩ t tg = true) (hw : chkW { cf with jk := some true } N ⟨scope, defSt scope⟩ w_ iter tg = true) (hb : chkMts { cf with jk := some true } N ⟨scope, defSt scope⟩ b eb = true)
    (facts : Facts cf mg) (jk : cf.jk = none) (sf : SFacts K J a0) (sa : ∀ a, J.at_ = some a → False) (fns : cf.fns = []) (hex : cf.excs = []) :
    FnM P w K mg base J true (lv + 1) fa (PySem.W.fnOf name qual params [.Assign [.Name jn p1] (.Dict ks vals p2) p3, .For tg iter eb [] p4, .Return (some (.Name jn p5)) p6] scope dV kV doc pm an cdv ct) ps (mk2 C T N.length j es t w_ b) := by
  constructor
  intro A outer s H args us vs Q E hr gd e0 bt rv hl ⟨Z, ds, g, inn, rl, hc⟩
  have KX : K.In s.heap := e0.mod.kin.keeps fun b o e => (e0.bs b o e).1
  have lim : s.heap.NoLimit := e0.mod.nolimit.keeps fun b o e => (e0.bs b o e).1
  have hkind : ∀ y ∈ ps.zip us, scope.names.lookup y.1 = some .local ∨ (scope.names.lookup y.1 = some .cell ∧ ((cellsFrom (s.heap.objs.size + 1) scope.names []).lookup y.1).isSome = true) := by
    rintro ⟨m, v⟩ hy
    rcases FS.par m (List.of_mem_zip hy).1 with q | q
    · exact .inl q
    · exact .inr ⟨q, PySem.W.cellsFrom_some _ _ _ (.inl q)⟩
  refine codeAny_call_function hr.depth (KX _ _ lk) rfl FS.co FS.gen rfl (PySem.W.codeRec_of KX hcd) (bt _ _ _ _ ?_)
  refine wpAny_newFunctionEnv_cells FS.kind hkind fun env he s1 x => ?_
  subst he
  refine ⟨lim.keeps x.toInCall.keep, codeAny_func ?_⟩
  have hpl : ps.length ≤ N.length := by
    have := congrArg List.length FS.pre
    rw [List.length_take] at this
    omega
  have hjn : j < N.length := (List.getElem?_eq_some_iff.mp hj1).1
  generalize hX : cxOf (L2.CX P w) P w K mg base N qual scope fa cdv A outer s H E = X
  have I : Inv X [] (L2.start N vs) H s1 := by rw [← hX]; exact inv_start FS hr.hd e0 hl rv x
  have hst : ∀ y, defSt scope y = true → Loc X.env.scope y ∧ (X.fn y = true ∨ X.env.scope.names.lookup y = some .local) := by
    subst hX
    refine fun y hy => ⟨?_, .inl rfl⟩
    have hy' : (match scope.names.lookup y with | some .local => true | some .cell => true | _ => false) = true := hy
    show scope.names.lookup y = some .local ∨ scope.names.lookup y = some .cell
    split at hy'
    · exact .inl (by assumption)
    · exact .inr (by assumption)
    · cases hy'
  have XK : X.K = K := by subst hX; rfl
  have GX : Good cf J (xrt K J cf.excs fun _ => 0) C lv X ⟨scope, defSt scope⟩ := by
    have h := hst
    subst hX
    exact ⟨rfl, hr.deeper _, gd, FS.nd, rfl, FS.kind, h, facts, fun dk h => (by rw [jk] at h; cases h), fun _ => ⟨a0, sf⟩, fun f p hp => (by rw [fns] at hp; simp at hp)⟩
  have GM : ∀ p L, Good { cf with jk := some true } (jarM J p L) (xrt X.K (jarM J p L) cf.excs fun _ => 0) C lv X ⟨scope, defSt scope⟩ := fun p L => by
    have h := hst
    subst hX
    exact ⟨rfl, hr.deeper _, gd, FS.nd, rfl, FS.kind, h, ⟨facts.free, facts.gcd, facts.consts⟩, fun dk h => (by cases h; exact ⟨p, jarM_ok J p L⟩), fun _ => ⟨a0, jarM_sf sf⟩, fun f p hp => (by have hp' : cf.fns[f]? = some p := hp; rw [fns] at hp'; simp at hp')⟩
  have po : PassesOwn (model X.prog X.w) X.A X.env X.xe := by subst hX; exact passes_of rfl
  have BM : ∀ p L, Bod { cf with jk := some true } (jarM J p L) (xrt X.K (jarM J p L) cf.excs fun _ => 0) (fun _ => 0) T X ⟨scope, defSt scope⟩ := fun p L => by
    subst hX
    exact ⟨rfl, rfl, ⟨fun c x h => (by have h' : cf.excs[c]? = some x := h; rw [hex] at h'; simp at h'), fun c x c' x' h => (by have h' : cf.excs[c]? = some x := h; rw [hex] at h'; simp at h'), fun c x c' x' h => (by have h' : cf.excs[c]? = some x := h; rw [hex] at h'; simp at h')⟩, rfl⟩
  have hN : X.N = N := by subst hX; rfl
  have hprog : X.prog = P ∧ X.w = w ∧ X.A = A.deeper (envOfC qual scope s.heap.objs.size fa cdv) ∧ X.env = envOfC qual scope s.heap.objs.size fa cdv ∧ X.K = K := by subst hX; exact ⟨rfl, rfl, rfl, rfl, rfl⟩
  obtain ⟨l1, l2, l3⟩ := chkDisp_len hd
  obtain ⟨d1, d2⟩ := okName_of GX hj4
  obtain ⟨g3, g4⟩ := GX.st jn hj2
  have hdisp := pe_disp (pps_disp (pos := p2) GX hC noTakes (by rw [hN]; exact hd)) l3 (by rw [l1, l2]) (by intro z; rw [z] at l1; cases es with | nil => exact h0 rfl | cons _ _ => cases l1) (by rw [l1]; exact h15)
  have whole := pss_cons (ps_set (pos := p3) (pos' := p1) GX.nd (by rw [hN]; exact hj1) g3 hdisp rfl g4)
    (pss_cons (m_for (SJ := J) (cf := { cf with jk := some true }) (T := T) hC GM BM po (pos := p4) ns (by rw [hN]; exact htg) (by rw [hN]; exact hw) (by rw [hN]; exact hb))
      (pss_one (ps_ret (pos := p6) (pe_var (pos := p5) (by rw [hN]; exact hj1) (GX.vis hj3) d1 d2))))
  have run := whole.run [] s1 (L2.start N vs) H { nx := fun _ H' => Q .non H', rt := Q } I ?_
  · rw [hprog.1, hprog.2.1, hprog.2.2.1, hprog.2.2.2.1] at run
    refine wpAny_mono run (fun fl s' hs => ?_) fun e s' hs => by subst hX; exact hs
    have fin : ∀ {σ' : L2.St} {H' : Hp} {v : V} {u : Value}, Inv X [] σ' H' s' → RelV v u → Q v H' → CE outer P w H s Q u s' := fun {σ' H' v u} Jv rv q => by
      subst hX
      exact ⟨v, H', Jv.os, Jv.bare, Jv.base, Jv.hok, rv, q⟩
    cases fl with
    | ret u =>
      obtain ⟨v, σ', H', Jv, rv, q⟩ := hs
      exact fin Jv rv q
    | next =>
      obtain ⟨σ', H', Jv, q⟩ := hs
      exact fin (v := V.non) (u := Value.none) Jv rfl q
    | brk =>
      obtain ⟨_, _, _, q⟩ := hs
      exact q.elim
    | cont =>
      obtain ⟨_, _, _, q⟩ := hs
      exact q.elim
  · have R1 : Rel X.K J (fmOf H Z) (L2.start N vs) H Z (startE N.length ds g) := by rw [XK]; exact rel_start inn rl (by omega)
    unfold mk2 at hc
    intro p hp
    obtain ⟨zp, fp, np, hs⟩ := R1.fresh hp
    have Rg := (R1.grow (o := .dK []) hp).guard (F := fmOf H Z) upd_same zp hs
    rw [show (xrt K J cf.excs fun _ => 0) = (xrt X.K J cf.excs fun _ => 0) by rw [XK]]
    refine jar_pairs hC es Rg hc fun g2 kvs H2 Z2 r2 hk s2 R2 ok hm => ?_
    obtain ⟨pl, hk⟩ := hk
    have e1 : H2 p = some (.dK []) := R2.frame p (.dK []) (show upd H p (.dK []) p = _ from upd_same) np
    have ndk : (kvs.map (·.1)).Nodup := by
      rw [hm]
      exact nd
    have hlen : kvs.length ≤ 15 := by
      have := congrArg List.length hm
      rw [List.length_map, List.length_map] at this
      omega
    refine ⟨e1, kvs, rfl, hlen, ?_⟩
    rw [merge_new kvs [] ndk, List.nil_append]
    have zp2 : Z2 p = none := R2.ng p (.inr rfl)
    obtain ⟨R3, _, _, _⟩ := R2.unguard fp np R1.nog
    have hr2 : j < r2.length := by
      rw [← R3.len]
      unfold L2.start
      rw [List.length_append, List.length_map, List.length_replicate]
      omega
    have M := R3.jarMk (j := j) pl e1 zp2 fp np ok ndk hlen (fun q hq => by
      have := List.mem_map_of_mem (f := (·.1)) hq
      rw [hm] at this
      obtain ⟨y, hy0, hy⟩ := List.mem_map.mp this
      obtain ⟨x, hx⟩ := chkDisp_keys hd y hy0
      exact ⟨x, hy.symm.trans hx⟩) hr2 sa
    refine ⟨p, fmOf H Z, Z2, _, _, M, fun r' hk' σ' H' Z' s' M' => ?_, hk⟩
    obtain ⟨L, R4, own⟩ := M'
    obtain ⟨ej, hk'⟩ := hk'
    obtain ⟨a', y1, y2⟩ := R4.jarAt ej
    cases (show some p = some a' from y1)
    refine ⟨_, y2, ?_⟩
    obtain ⟨jd, ⟨g0, js⟩, _⟩ := R4.jar
    refine hk' p L H' Z' ⟨s2.trans s', R4.sub, R4.zs, R4.zo, fun b o e n => R4.frame b o e fun ha => ?_, ⟨g0, js⟩, fun b h1 h2 => R4.ng b ⟨h1, h2⟩, jd, fun b hb => ⟨own b hb, R4.jz b (.inl hb)⟩⟩
    rcases ha with ha | ha
    · have : H b = none := own b ha
      rw [this] at e
      cases e
    · exact n ha
end
end G

set_option linter.all false
set_option maxRecDepth 100000
set_option Elab.async false
/-! Su: the law's own call. -/
namespace G
open PySem PySem.Spec PyProof.Rows L2
/-- the law's def, handed a list of whole numbers -/
structure LawG (P : Program) (w : World) (K : PySem.W.Frag) (mg : Str → Option Value) (base : Heap) (k : Nat) (fa : Addr) (fd : FuncData) (x : Str) (n : Nat) : Prop where
  run : ∀ (A : Around) (s : Shared) (H : Hp) (a : Addr) (ns : List Int), A.guards = some [] → Room k A → Env0 P w K mg base A [] s H → BindsTo s fd ⟨[.ref a], []⟩ [(x, .ref a)] → ns.length ≤ n → SqL K H a (ns.map V.int) →
    codeAny (model P w) A (.call (.ref fa) ⟨[.ref a], []⟩) (CR (L2.CX P w) [] P w H s (fun v _ => v = .bl true) fun _ _ _ => False) s
theorem cx_false {P : Program} {w : World} {H : Hp} {s : Shared} {e : Value} {s' : Shared} (h : L2.CX P w [] H s (fun _ _ _ => False) e s') : False := by
  obtain ⟨_, _, _, _, _, h⟩ := h
  exact h.2.2.2.2.2.2.2
theorem guards_caller : callerA.guards = some [] := rfl
theorem law_g {P : Program} {w : World} {K : PySem.W.Frag} {mg mb : Str → Option Value} {k n : Nat} {fa a : Addr} {fd : FuncData} {x : Str} {st : Shared} {us : List Value} {ns : List Int}
    (hK : K.In st.heap) (hG : st.heap.Ns mainGlobals mg) (hB : st.heap.Ns builtinsNs mb) (hBB : ∀ y : Str, y ≠ "__name__" → mb y = bootBuiltins y) (hL : st.heap.NoLimit) (hgen : st.gens = #[])
    (hA : st.heap.get? a = some { cls := .type "list", data := .seq us.toArray }) (hI : IntsAre us ns) (hn : ns.length ≤ n) (hz : ns.length ≤ sizeLine) (hR : Room k callerA)
    (hF : ∀ b0 : Heap, K.In b0 → b0.Ns mainGlobals mg → LawG P w K mg b0 k fa fd x n) (hBd : ∀ (s0 : Shared) (u : Value), BindsTo s0 fd ⟨[u], []⟩ [(x, u)]) :
    codeAny (model P w) callerA (.call (.ref fa) ⟨[.ref a], []⟩) (fun z s' => z = .ok (.ret (.bool true)) ∧ OldK st.heap s'.heap ∧ s'.os = st.os ∧ AllBare s'.gens) st := by
  have vi := vals_ints hI
  have main : ∀ H : Hp, Only H → SqL K H a (ns.map V.int) → HOk P w H st.heap → (∀ b, H b ≠ none → b = a) → (H a ≠ none → K.lookup a = none) →
      codeAny (model P w) callerA (.call (.ref fa) ⟨[.ref a], []⟩) (fun z s' => z = .ok (.ret (.bool true)) ∧ OldK st.heap s'.heap ∧ s'.os = st.os ∧ AllBare s'.gens) st := by
    intro H only sq hok own notK
    have keepD : ∀ {b : Addr} {o : Obj} {es : Array DictEntry} {ep : Nat}, st.heap.get? b = some o → o.data = .dict es ep → H b = none := by
      intro b o es ep e d
      cases hb : H b with
      | none => rfl
      | some u0 =>
        obtain rfl : b = a := own b (by rw [hb]; exact fun z => by cases z)
        rw [hA] at e
        cases e
        exact absurd (show Data.seq us.toArray _ = Data.dict es ep from d) (fun z => by cases z)
    have ns_of : ∀ {b : Addr} {m : Str → Option Value}, st.heap.Ns b m → (hidT st.heap H).Ns b m := by
      rintro b m ⟨o, es, ep, e, d, r⟩
      exact ⟨o, es, ep, hidT_get e (keepD e d), d, r⟩
    have kb : K.In (hidT st.heap H) := by
      intro b o e
      refine hidT_get (hK b o e) ?_
      cases hb : H b with
      | none => rfl
      | some u0 =>
        obtain rfl : b = a := own b (by rw [hb]; exact fun z => by cases z)
        rw [notK (by rw [hb]; exact fun z => by cases z)] at e
        cases e
    have md : Mod K mg (hidT st.heap H) := by
      obtain ⟨mc, y1, y2⟩ := hL
      exact ⟨kb, ns_of hG, ⟨mb, ns_of hB, hBB⟩, ⟨mc, ns_of y1, y2⟩⟩
    have env : Env0 P w K mg (hidT st.heap H) callerA [] st H :=
      ⟨rfl, md, fun b o e => of_hidT e, Nat.le_of_eq (hidT_size _ _), trivial, fun b hb => (by cases hb), hok, .of_eq hgen⟩
    refine codeAny_mono ((hF _ kb (ns_of hG)).run callerA st H a ns guards_caller hR env (hBd st (.ref a)) hn sq) fun z s' hz' => ?_
    cases z with
    | error e => exact (cx_false hz').elim
    | ok fl =>
      cases fl with
      | next => exact hz'.elim
      | brk => exact hz'.elim
      | cont => exact hz'.elim
      | ret u =>
        obtain ⟨v, H2, os, bare, un, hok2, rel, (rfl : v = .bl true)⟩ := hz'
        obtain rfl : u = Value.bool true := rel
        refine ⟨rfl, OldK.of_keep fun b o e => ?_, os, bare⟩
        cases hb : H b with
        | none => exact un.keep b o e hb (by intro z; cases z) (by simp)
        | some u0 =>
          rcases only b with z | ⟨ob, xs, z⟩
          · rw [hb] at z
            cases z
          · obtain ⟨y1, _⟩ := hok b _ z
            obtain ⟨y2, _⟩ := hok2 b _ (un.frzs b ob _ z)
            rw [e] at y1
            cases y1
            exact y2
  cases hk : K.lookup a with
  | some o =>
    have e := hK a o hk
    rw [hA] at e
    cases e
    exact main (fun _ => none) (fun _ => .inl rfl) (.inr ⟨_, us.toArray, _, hk, rfl, rfl, rfl, by rw [List.size_toArray, hI.length]; exact hz, by simpa using vi⟩) (fun b u0 z => by cases z) (fun b z => absurd rfl z) fun z => absurd rfl z
  | none =>
    refine main (fun b => if b = a then some (.frz { cls := .type "list", data := .seq us.toArray } (.lst (ns.map V.int))) else none) (fun b => ?_) (.inl (.inr ⟨_, if_pos rfl⟩)) (fun b u0 z => ?_) (fun b z => ?_) fun _ => hk
    · by_cases hb : b = a
      · exact .inr ⟨_, _, if_pos hb⟩
      · exact .inl (if_neg hb)
    · by_cases hb : b = a
      · have z2 := (if_pos hb).symm.trans z
        cases z2
        subst hb
        exact ⟨hA, by rw [List.length_map]; exact hz, us, _, vi, hA⟩
      · have z2 := (if_neg hb).symm.trans z
        cases z2
    · by_cases hb : b = a
      · exact hb
      · exact absurd (if_neg hb) z
theorem walk_g {l : PySem.W.OpenLaw} {n k : Nat} {q : Program} {loose : List Str} {XP : (Str → Option Value) → Heap → Prop} {YP : World → Heap → Prop} {d : DefRec} {K : Params → PySem.W.Frag} {x : Str}
    (hn : l.most = some n) (hn2 : n ≤ sizeLine) (hdf : d.params.defaults = []) (hr : Room k callerA) (hY : ∀ (w : World) (h : Heap), YP w h → (K w.params).In h)
    (hF : ∀ (w : World) (mg : Str → Option Value) (fa : Addr) (h : Heap), (K w.params).In h → h.Ns mainGlobals mg → mg d.name = some (.ref fa) →
      ∃ fd : FuncData, (∀ (s : Shared) (u : Value), BindsTo s fd ⟨[u], []⟩ [(x, u)]) ∧ ∀ b0 : Heap, (K w.params).In b0 → b0.Ns mainGlobals mg → LawG l.prog w (K w.params) mg b0 k fa fd x n) :
    PySem.W.WalkO q loose XP YP l.row.toRowW d [] (fun f vs => PySem.call f vs) := by
  refine Att.attach_call hn hdf fun w s0 s1 mg mb fa o pm cd doc a us ns G0 Y ho hd hcd hmg hobj hints hlen hg => ?_
  have hk := hY w _ Y
  obtain ⟨fd, hb, hf⟩ := hF w mg fa _ hk G0.T.g hmg
  exact law_g hk G0.T.g G0.T.b G0.T.builtins G0.T.nolimit hg hobj hints hlen (Nat.le_trans hlen hn2) hr hf hb
end G

set_option linter.all false
set_option maxRecDepth 100000
set_option Elab.async false
/-! Sv: the law's def from its core term. -/
namespace G
open PySem PySem.Spec PyProof.Rows L2

theorem sqL_keep {K : PySem.W.Frag} {H H' : Hp} {a : Addr} {xs : List V} (h : SqL K H a xs) (e : H a ≠ none → H' a = H a) : SqL K H' a xs := by
  rcases h with (h | ⟨o, h⟩) | h
  · exact .inl (.inl (by rw [e (by rw [h]; exact fun z => by cases z)]; exact h))
  · exact .inl (.inr ⟨o, by rw [e (by rw [h]; exact fun z => by cases z)]; exact h⟩)
  · exact .inr h
/-- the script, handed to the def that makes the random state -/
def jarS (K : PySem.W.Frag) (H : Hp) (a : Addr) (ns : List Int) : Jar where
  at_ := none
  sc := some (a, ns)
  L := fun _ => none
  A := fun b => b = a ∧ H a ≠ none
  P := fun g H' => H a ≠ none → H' a = H a
  there := fun g H' b h ⟨e, n⟩ => by subst e; rw [h n]; exact n
  stable := fun g H1 H2 h s => fun n => (s a ⟨rfl, n⟩).trans (h n)
theorem jarS_ok {K : PySem.W.Frag} {H : Hp} {a : Addr} {ns : List Int} (h : SqL K H a (ns.map V.int)) (hz : ns.length ≤ sizeLine) : SFacts K (jarS K H a ns) a :=
  ⟨ns, rfl, hz, fun g H' k => sqL_keep h k⟩
/-- how the random state is made: its core -/
inductive Mk where
  | one (dk : Bool) (pre : Sts) (es : List (Sum Int Str × Ex))
  | two (j : Nat) (es : List (Sum Int Str × Ex)) (t : Tg) (w : It) (b : List Mt)
def Mk.dk : Mk → Bool
  | .one dk _ _ => dk
  | .two .. => true
def mkW (C : Calls) (T : Nat → Nat → Bool) (nl : Nat) : Mk → List D → Gh → (Gh → Prop) → Prop
  | .one _ pre es => mk1 C T nl pre es
  | .two j es t w b => mk2 C T nl j es t w b
theorem mkW_mono {C C' : Calls} (hC : CLe C C') {T : Nat → Nat → Bool} {nl : Nat} {m : Mk} {ds : List D} {g : Gh} {k k' : Gh → Prop} (h : ∀ g, k g → k' g) : mkW C T nl m ds g k → mkW C' T nl m ds g k' := by
  cases m with
  | one dk pre es => exact mk1_mono hC h
  | two j es t w b => exact mk2_mono hC h
/-- whole numbers, written -/
def chkCi : List Int → List Expr → Bool
  | [], [] => true
  | n :: ns, .Constant (.int m) _ _ :: xs => decide (n = m) && chkCi ns xs
  | _, _ => false
theorem chkCi_len : ∀ {ns : List Int} {xs : List Expr}, chkCi ns xs = true → xs.length = ns.length ∧ xs.all notStar = true
  | [], [], _ => ⟨rfl, rfl⟩
  | n :: ns, .Constant (.int m) j p :: xs, h => by
    unfold chkCi at h
    obtain ⟨h1, h2⟩ := chkCi_len (and2 h).2
    exact ⟨by rw [List.length_cons, List.length_cons, h1], by rw [List.all_cons, h2]; rfl⟩
theorem pa_ci {X : Cx} : ∀ {ns : List Int} {xs : List Expr}, chkCi ns xs = true → PA X xs (fun σ H Q => Q (ns.map V.int) H)
  | [], [], _ => pa_nil
  | n :: ns, .Constant (.int m) j p :: xs, h => by
    unfold chkCi at h
    cases of_decide_eq_true (and2 h).1
    exact (pa_cons pe_int (pa_ci (and2 h).2) (star_of rfl)).imp fun pins s σ H Q I q => q
def lawE (nl : Nat) (g : Gh) : En := ⟨.un :: .fz JAR :: List.replicate (nl - 2) .un, g⟩
theorem rd_law {nl : Nat} {g : Gh} {i : Nat} : rd (lawE nl g) i = if i = 1 then .fz JAR else .un := by
  unfold rd lawE
  match i with
  | 0 => rfl
  | 1 => rfl
  | i + 2 =>
    rw [if_neg (by omega)]
    show (List.replicate (nl - 2) Slot.un).getD i .un = .un
    rw [List.getD_eq_getElem?_getD, List.getElem?_replicate]
    split <;> rfl
theorem rel_law {dk : Bool} {K : PySem.W.Frag} {H H' Z' : Hp} {a p : Addr} {L : Sum Int Str → Option Addr} {g : Gh} {ns : List Int} {N : List Str} (hN : 2 ≤ N.length) (m : MkOut (jarS K H a ns) dk H (fun _ => none) p L g H' Z') :
    Rel K (jarK dk p L) (fmOf H fun _ => none) ((L2.start N [V.ref a]).set 1 (some (.ref p))) H' Z' (lawE N.length g) := by
  have hl : (L2.start N [V.ref a]).length = N.length := by
    unfold L2.start
    rw [List.length_append, List.length_map, List.length_replicate]
    show 1 + (N.length - 1) = N.length
    omega
  refine ⟨m.sub, fun b o e n => ?_, m.new, fun b hb => (m.fresh b hb).2, ?_, fun i d e => ?_, fun i ds e => ?_, fun i j ds es x e => ?_, m.zs, m.zo, fun b hb => m.ng b hb.1 hb.2, fun b hb => hb.1, fun i k e => ?_⟩
  · have e' : H b = some o := e
    by_cases q : (jarS K H a ns).A b
    · obtain ⟨rfl, q⟩ := q
      obtain ⟨g', h⟩ := m.jp
      rw [h q]
      exact e'
    · exact m.frame b o e' q
  · rw [List.length_set, hl]
    unfold lawE En.length
    simp only [List.length_cons, List.length_replicate]
    omega
  · rw [rd_law] at e
    split at e
    · rename_i hi
      subst hi
      cases e
      exact ⟨_, List.getElem?_set_self (by rw [hl]; omega), .jar (jarK_ok dk p L).at_⟩
    · cases e
  · rw [rd_law] at e
    split at e <;> cases e
  · rw [rd_law] at e
    split at e <;> cases e
  · rw [rd_law] at e
    split at e <;> cases e
/-- the law's def: its first statement makes the random state -/
def chkLaw (cf : Cfg) (N : List Str) (mk : Str) (cs : List Int) (b : Sts) (st : Stmt) : Bool :=
  scB N ["script"] (defScope st) && (plainB (defArgs st) ["script"] && (match defBody st with
    | .Assign [.Name j _] (.Call (.Name m _) (.Name sc _ :: xs) [] _) _ :: rest => chkCi cs xs && (decide (N[0]? = some sc) && (decide (N[1]? = some j) && (decide (m = mk) && (glB ⟨defScope st, defSt (defScope st)⟩ m && (okName m && (visB ⟨defScope st, defSt (defScope st)⟩ sc && (okName sc && (defSt (defScope st) j && chkSs cf N ⟨defScope st, defSt (defScope st)⟩ b rest))))))))
    | _ => false))
def chkMk1 (cf : Cfg) (N : List Str) (S : Sc) (dk : Bool) (pre : Sts) (es : List (Sum Int Str × Ex)) (b : List Stmt) : Bool :=
  (match b.getLast? with
    | some (.Return (some (.Dict ks vals _)) _) => dk && (chkSs cf N S pre b.dropLast && chkDisp cf N S es ks vals)
    | some (.Return (some (.List vals _)) _) => !dk && (chkSs cf N S pre b.dropLast && chkDispL cf N S 0 es vals)
    | _ => false) && (decide (es ≠ []) && (decide (es.length ≤ 15) && decide (es.map (·.1)).Nodup))
def chkMk2 (cf : Cfg) (N : List Str) (S : Sc) (j : Nat) (es : List (Sum Int Str × Ex)) (t : Tg) (w : It) (m : List Mt) : List Stmt → Bool
  | [.Assign [.Name jn _] (.Dict ks vals _) _, .For tg iter eb [] _, .Return (some (.Name j2 _)) _] =>
    (decide (N[j]? = some jn) && (decide (j2 = jn) && (S.st jn && (visB S jn && (okName jn && (chkDisp cf N S es ks vals && (notSet iter && (chkTg N S t tg && (chkW { cf with jk := some true } N S w iter tg && chkMts { cf with jk := some true } N S m eb))))))))) && (decide (es ≠ []) && (decide (es.length ≤ 15) && decide (es.map (·.1)).Nodup))
  | _ => false
def chkMkB (cf : Cfg) (N : List Str) (S : Sc) (m : Mk) (b : List Stmt) : Bool :=
  match m with
  | .one dk pre es => chkMk1 cf N S dk pre es b
  | .two j es t w m => chkMk2 cf N S j es t w m b
def chkMk (cf : Cfg) (N ps : List Str) (m : Mk) (st : Stmt) : Bool :=
  scB N ps (defScope st) && (plainB (defArgs st) ps && (decide ps.Nodup && (chkMkB cf N ⟨defScope st, defSt (defScope st)⟩ m (defBody st) && (decide (cf.jk = none) && (cf.excs.isEmpty && (cf.fns.isEmpty && cf.js))))))
section
variable {P : Program} {w : World} {K : PySem.W.Frag} {mg : Str → Option Value} {base : Heap}
theorem mk_at {cf : Cfg} {N ps : List Str} {m : Mk} {st : Stmt} {nm : Str} {f a : Addr} {J : Jar} {C : Calls} {T : Nat → Nat → Bool} {lv : Nat} (hC : CMono C) (KX : K.In base) (Gm : base.Ns mainGlobals mg) (at_ : DefAt K nm st [] f) (hc : chkMk cf N ps m st = true) (facts : Facts cf mg) (sf : SFacts K J a) (sa : ∀ a, J.at_ = some a → False) :
    ∃ fd, mg nm = some (.ref f) ∧ PySem.W.keepIn K (.ref f) = true ∧ Binds K fd ps [] ∧ FnM P w K mg base J m.dk (lv + 1) f fd ps (mkW C T N.length m) := by
  obtain ⟨oc, od, dV, kV, doc, pm, an, cdv, ct, osl, a1, l1, c1, k1, v1⟩ := at_
  obtain rfl : dV = .none := by
    rcases v1 with ⟨_, e⟩ | ⟨n, T, o, k, t, e, _⟩
    · exact e
    · cases e
  unfold chkMk at hc
  obtain ⟨h1, hc⟩ := and2 hc
  obtain ⟨h2, hc⟩ := and2 hc
  obtain ⟨hnd, hc⟩ := and2 hc
  obtain ⟨h3, hc⟩ := and2 hc
  obtain ⟨h7, hc⟩ := and2 hc
  obtain ⟨hex, hc⟩ := and2 hc
  obtain ⟨h8, h9⟩ := and2 hc
  have pl := plain_of (nm := nm) (qual := nm) (body := defBody st) (scope := defScope st) (kV := kV) (doc := doc) (pm := pm) (cdv := cdv) (ct := ct) (an := an) h2
  have bd := binds_of (K := K) pl (of_decide_eq_true hnd)
  refine ⟨_, PySem.W.mg_of KX Gm a1, k1, bd, ?_⟩
  clear bd pl
  generalize defBody st = body at h3 l1
  clear hc
  cases m with
  | one dk pre es =>
    unfold chkMkB at h3
    dsimp only at h3
    unfold chkMk1 at h3
    obtain ⟨u3, v0⟩ := and2 h3
    obtain ⟨h4, v2⟩ := and2 v0
    obtain ⟨h5, h6⟩ := and2 v2
    clear h3 v0 v2
    show FnM P w K mg base J dk (lv + 1) f _ ps (mk1 C T N.length pre es)
    split at u3
    · rename_i ks vals p1 p2 hl
      obtain ⟨hdk, g3⟩ := and2 u3
      clear u3
      subst hdk
      obtain ⟨g4, h10⟩ := and2 g3
      obtain ⟨xs, eb⟩ := List.getLast?_eq_some_iff.mp hl
      rw [eb, List.dropLast_concat] at g4
      subst eb
      exact fn_mk hC l1 c1 (scB_of h1) g4 h10 (of_decide_eq_true h4) (of_decide_eq_true h5) (of_decide_eq_true h6) facts (of_decide_eq_true h7) (fun _ => ⟨a, sf⟩) (List.isEmpty_iff.mp h8) (List.isEmpty_iff.mp hex)
    · rename_i vals p1 p2 hl
      obtain ⟨hdk, g3⟩ := and2 u3
      clear u3
      obtain rfl : dk = false := by simpa using hdk
      obtain ⟨g4, h10⟩ := and2 g3
      obtain ⟨xs, eb⟩ := List.getLast?_eq_some_iff.mp hl
      rw [eb, List.dropLast_concat] at g4
      subst eb
      exact fn_mkL (ks := []) hC l1 c1 (scB_of h1) g4 h10 (of_decide_eq_true h4) (of_decide_eq_true h5) (of_decide_eq_true h6) facts (of_decide_eq_true h7) (fun _ => ⟨a, sf⟩) (List.isEmpty_iff.mp h8) (List.isEmpty_iff.mp hex)
    · cases u3
  | two j es t w b =>
    unfold chkMkB at h3
    dsimp only at h3
    unfold chkMk2 at h3
    split at h3
    case h_2 => exact absurd h3 Bool.false_ne_true
    obtain ⟨u3, v0⟩ := and2 h3
    obtain ⟨h4, v2⟩ := and2 v0
    obtain ⟨h5, h6⟩ := and2 v2
    obtain ⟨f1, g1⟩ := and2 u3
    obtain ⟨f2, g2⟩ := and2 g1
    obtain ⟨f3, g3⟩ := and2 g2
    obtain ⟨f4, g4⟩ := and2 g3
    obtain ⟨f5, g5⟩ := and2 g4
    obtain ⟨f6, g6⟩ := and2 g5
    obtain ⟨f7, g7⟩ := and2 g6
    obtain ⟨f8, g8⟩ := and2 g7
    obtain ⟨f9, f10⟩ := and2 g8
    cases of_decide_eq_true f2
    exact fn_mk2 hC l1 c1 (scB_of h1) (of_decide_eq_true f1) f3 f4 f5 f6 (of_decide_eq_true h4) (of_decide_eq_true h5) (of_decide_eq_true h6) f7 f8 f9 f10 facts (of_decide_eq_true h7) sf sa (List.isEmpty_iff.mp h8) (List.isEmpty_iff.mp hex)
/-- the law's def -/
theorem law_df {cf cf0 : Cfg} {N N0 ps : List Str} {mk : Str} {mk_ : Mk} {cs : List Int} {b : Sts} {st st0 : Stmt} {fa f0 : Addr} {T : Tb} {T0 : Nat → Nat → Bool} {ad : Nat → Addr} {m n : Nat} (ok : T.Ok) (hz : n ≤ sizeLine)
    (at_ : DefAt K "law" st [] fa) (hc : chkLaw cf N mk cs b st = true) (facts : Facts cf mg) (js : cf.js = false) (jk : ∀ dk', cf.jk = some dk' → dk' = mk_.dk)
    (at0 : DefAt K mk st0 [] f0) (hc0 : chkMk cf0 N0 ps mk_ st0 = true) (hps : ps.length = cs.length + 1) (facts0 : Facts cf0 mg)
    (EF : ExcF P K mg cf.excs T.sub ad) (ds : Nat → Option (Df × Stmt × Addr)) (hd : ∀ g p, cf.fns[g]? = some p → ∃ d st f, ds g = some (d, st, f) ∧ p = (d.nm, d.ps) ∧ cf.dfl.getD g [] = d.dv ∧ T.fn g = some (.df d.ps.length d.N.length d.b) ∧ DefAt K d.nm st d.dv f ∧ chkDf cf d st = true)
    (core : ∀ ns : List Int, ns.length ≤ n → mkW (fun _ _ _ _ _ => False) T0 N0.length mk_ (SCR ns :: cs.map .int) [] fun g => stsW (callW T m) T.sub b (lawE N.length g) { nx := fun _ => False, rt := fun d _ => d = .bool true, bk := fun _ => False, ct := fun _ => False, ex := noX }) :
    ∃ fd, (∀ (s : Shared) (u : Value), BindsTo s fd ⟨[u], []⟩ [("script", u)]) ∧ ∀ base : Heap, K.In base → base.Ns mainGlobals mg → LawG P w K mg base (m + 2) fa fd "script" n := by
  obtain ⟨oc, od, dV, kV, doc, pm, an, cdv, ct, osl, a1, l1, c1, k1, v1⟩ := at_
  obtain rfl : dV = .none := by
    rcases v1 with ⟨_, e⟩ | ⟨n, T, o, k, t, e, _⟩
    · exact e
    · cases e
  unfold chkLaw at hc
  obtain ⟨h1, hc⟩ := and2 hc
  obtain ⟨h2, h3⟩ := and2 hc
  have FS := scB_of h1
  split at h3
  · rename_i j pj mm pmm sc psc xs pc pa rest eb
    obtain ⟨hci, h3⟩ := and2 h3
    obtain ⟨xl, xst⟩ := chkCi_len hci
    generalize hdk : mk_.dk = dk at jk
    obtain ⟨h4, h3⟩ := and2 h3
    obtain ⟨h5, h3⟩ := and2 h3
    obtain ⟨h6, h3⟩ := and2 h3
    obtain ⟨h7, h3⟩ := and2 h3
    obtain ⟨h8, h3⟩ := and2 h3
    obtain ⟨h9, h3⟩ := and2 h3
    obtain ⟨h10, h3⟩ := and2 h3
    obtain ⟨h11, h12⟩ := and2 h3
    have em : mm = mk := of_decide_eq_true h6
    subst em
    rw [eb] at l1
    have pl := plain_of (nm := "law") (qual := "law") (body := .Assign [.Name j pj] (.Call (.Name mm pmm) (.Name sc psc :: xs) [] pc) pa :: rest) (scope := defScope st) (kV := kV) (doc := doc) (pm := pm) (cdv := cdv) (ct := ct) (an := an) h2
    refine ⟨_, fun s u => .of_eq (by have := kbind pl (us := [u]) (ws := []) (ks := []) (show kOk ["script"] 1 [] = true by decide) rfl; exact this), fun base KX Gm => ⟨fun A s H a ns gd hr e0 bt hn sq => ?_⟩⟩
    have hC0 : CMono (fun _ _ _ _ _ => False) := fun _ _ _ _ _ _ _ _ _ q => q
    obtain ⟨fd0, g0, kp0, b0, M⟩ := mk_at (J := jarS K H a ns) (C := fun _ _ _ _ _ => False) (T := T0) (P := P) (w := w) (lv := m) hC0 KX Gm at0 hc0 facts0 (jarS_ok sq (Nat.le_trans hn hz)) (fun _ z => by cases z)
    rw [hdk] at M
    have KH : K.In s.heap := e0.mod.kin.keeps fun b o e => (e0.bs b o e).1
    have lim : s.heap.NoLimit := e0.mod.nolimit.keeps fun b o e => (e0.bs b o e).1
    have hkind : ∀ y ∈ (["script"] : List Str).zip [Value.ref a], (defScope st).names.lookup y.1 = some .local ∨ ((defScope st).names.lookup y.1 = some .cell ∧ ((cellsFrom (s.heap.objs.size + 1) (defScope st).names []).lookup y.1).isSome = true) := by
      rintro ⟨x, v⟩ hy
      rcases FS.par x (List.of_mem_zip hy).1 with q | q
      · exact .inl q
      · exact .inr ⟨q, PySem.W.cellsFrom_some _ _ _ (.inl q)⟩
    refine codeAny_call_function hr.depth (KH _ _ l1) rfl FS.co FS.gen rfl (PySem.W.codeRec_of KH c1) (bt _ _ _ _ ?_)
    refine wpAny_newFunctionEnv_cells FS.kind hkind fun env he s1 x => ?_
    subst he
    refine ⟨lim.keeps x.toInCall.keep, codeAny_func ?_⟩
    have hN2 : 2 ≤ N.length := by
      have := (List.getElem?_eq_some_iff.mp (of_decide_eq_true h5)).1
      omega
    generalize hX : cxOf (L2.CX P w) P w K mg base N "law" (defScope st) fa cdv A [] s H (fun _ _ _ => False) = X
    have rv : Vals [V.ref a] [Value.ref a] := .cons rfl .nil
    have I : Inv X [] (L2.start N [V.ref a]) H s1 := by rw [← hX]; exact inv_start FS hr.hd e0 rfl rv x
    have GX : ∀ p L, Good cf (jarK dk p L) (xrt K (jarK dk p L) cf.excs ad) (callW T m) (m + 1) X ⟨defScope st, defSt (defScope st)⟩ := by
      intro p L
      have fns := all_fns (P := P) (w := w) (XR := xrt K (jarK dk p L) cf.excs ad) (J := jarK dk p L) ok KX Gm facts (fun dk' h => ⟨p, by rw [jk dk' h]; exact jarK_ok dk p L⟩) (fun h => by rw [js] at h; cases h) EF rfl ds hd m
      subst hX
      refine ⟨rfl, hr.deeper _, gd, FS.nd, rfl, FS.kind, fun y hy => ⟨?_, .inl rfl⟩, facts, fun dk' h => ⟨p, by rw [jk dk' h]; exact jarK_ok dk p L⟩, fun h => (by rw [js] at h; cases h), fun g q hq => ?_⟩
      · have hy' : (match (defScope st).names.lookup y with | some .local => true | some .cell => true | _ => false) = true := hy
        show (defScope st).names.lookup y = some .local ∨ (defScope st).names.lookup y = some .cell
        split at hy'
        · exact .inl (by assumption)
        · exact .inr (by assumption)
        · cases hy'
      · obtain ⟨f, fd, y1, y2, y3, y4, y5⟩ := (fns g q hq).ex
        exact ⟨f, fd, y1, y2, y3, ⟨fun A' o' s' H' ar us vs Q' E' hr' => y4.run A' o' s' H' ar us vs Q' E' (hr'.mono (by omega))⟩, y5⟩
    have po : PassesOwn (model X.prog X.w) X.A X.env X.xe := by subst hX; exact passes_of rfl
    have BX : ∀ p L, Bod cf (jarK dk p L) (xrt K (jarK dk p L) cf.excs ad) ad T.sub X ⟨defScope st, defSt (defScope st)⟩ := fun p L => by subst hX; exact ⟨rfl, rfl, EF, rfl⟩
    have hN : X.N = N := by subst hX; rfl
    have hpr : X.prog = P ∧ X.w = w ∧ X.A = A.deeper (envOfC "law" (defScope st) s.heap.objs.size fa cdv) ∧ X.env = envOfC "law" (defScope st) s.heap.objs.size fa cdv ∧ X.K = K ∧ X.mg = mg ∧ X.base = base := by subst hX; exact ⟨rfl, rfl, rfl, rfl, rfl, rfl, rfl⟩
    obtain ⟨d1, d2⟩ := okName_of (GX 0 fun _ => none) h8
    obtain ⟨d3, d4⟩ := okName_of (GX 0 fun _ => none) h10
    have G0 := GX 0 fun _ => none
    -- the first statement
    have first : PE X (.Call (.Name mm pmm) (.Name sc psc :: xs) [] pc) (fun σ H' Q => σ[0]? = some (some (.ref a)) ∧ H' = H ∧ ∀ g p L H2 Z2, MkOut (jarS K H a ns) dk H (fun _ => none) p L g H2 Z2 → stsW (callW T m) T.sub b (lawE N.length g) { nx := fun _ => False, rt := fun d _ => d = .bool true, bk := fun _ => False, ct := fun _ => False, ex := noX } → Q (.ref p) H2) := by
      refine ⟨fun pins s2 σ H' Q I2 hq => ?_⟩
      obtain ⟨e1, rfl, hq⟩ := hq
      refine wpAny_Call_Name_kw (ld_glob I2 (G0.gl h7) (by rw [hpr.2.2.2.2.2.1]; exact g0) ?_ d1)
      refine PySem.W.callWith_K (h₀ := X.base) I2.ok.mod.kin (by rw [hpr.2.2.2.2.1]; exact kp0) (thn ((pa_cons (pe_var (by rw [hN]; exact of_decide_eq_true h4) (G0.vis h9) d3 d4) (pa_ci hci) (star_of rfl)).run pc pins s2 σ H' (fun vs H3 => vs = .ref a :: cs.map V.int ∧ H3 = H') I2 ⟨_, e1, rfl, rfl⟩) fun us s3 hh => ?_) (star_of rfl) (back_any (star_any xst))
      obtain ⟨vs, H3, I3, r3, rfl, rfl⟩ := hh
      refine ⟨I3.kIn, ?_⟩
      have hu : (us ++ []).length = ps.length := by rw [List.append_nil, ← r3.length, hps, List.length_cons, List.length_map]
      have bt0 := b0 s3 us (by rw [← hpr.2.2.2.2.1]; exact I3.kIn) hu
      rw [List.append_nil] at bt0
      show wpAny (model X.prog X.w) X.A (call (.ref f0) ([] ++ us)) _ _ _
      rw [List.nil_append]
      have e3 := I3.env0
      rw [hpr.1, hpr.2.1, hpr.2.2.2.2.1, hpr.2.2.2.2.2.1, hpr.2.2.2.2.2.2] at e3
      have hrX : Room (m + 1) X.A := by rw [hpr.2.2.1]; exact hr.deeper _
      have gdX : X.A.guards = some [] := by rw [hpr.2.2.1]; exact gd
      have inn : Inn (jarS K H3 a ns) [] H3 fun _ => none := ⟨fun _ _ z => (by cases z), fun _ => rfl, fun _ _ => rfl, fun _ _ z => (by rcases z with z | z <;> cases z), fun _ _ z => by cases z⟩
      have cr := M.run X.A X.stack s3 H3 ⟨us, []⟩ us (.ref a :: cs.map V.int) Q (fun _ _ _ => False) hrX gdX e3 bt0 r3 (by rw [hps, List.length_cons, List.length_map]) ⟨fun _ => none, SCR ns :: cs.map .int, [], inn, .cons (.scr rfl) (RepL.ofInts cs), mkW_mono hC0 (fun g w p L H2 Z2 mo => hq g p L H2 Z2 mo w) (core ns hn)⟩
      refine wpAny_call (codeAny_mono (by rw [hpr.1, hpr.2.1]; exact cr) fun z s' hz' => ?_)
      cases z with
      | error e =>
        obtain ⟨_, _, _, _, _, y⟩ := hz'
        exact y.2.2.2.2.2.2.2.elim
      | ok fl =>
        cases fl with
        | ret u => exact I3.after (by rw [hpr.1, hpr.2.1]; exact hz')
        | next => exact hz'.elim
        | brk => exact hz'.elim
        | cont => exact hz'.elim
    have hrest : PSs X rest (fun D σ H' => ∃ p L, lSs X.K (jarK dk p L) (xrt K (jarK dk p L) cf.excs ad) (callW T m) T.sub noW b D σ H') :=
      ⟨fun pins s2 σ H' D I2 ⟨p, L, q⟩ => (snd_Ss (T := T.sub) (callW_mono ok m) b (GX p L) noTakes po (BX p L) (e := rest) (by rw [hN]; exact h12)).run pins s2 σ H' D I2 q⟩
    obtain ⟨g3, g4⟩ := G0.st j h11
    have whole := pss_cons (ps_set (pos := pa) (pos' := pj) G0.nd (by rw [hN]; exact of_decide_eq_true h5) g3 first rfl g4) hrest
    have run := whole.run [] s1 (L2.start N [V.ref a]) H { nx := fun _ H' => False, rt := fun v _ => v = .bl true } I ?_
    · rw [hpr.1, hpr.2.1, hpr.2.2.1, hpr.2.2.2.1] at run
      refine wpAny_mono run (fun fl s' hs => ?_) fun e s' hs => by subst hX; exact hs
      cases fl with
      | ret u =>
        obtain ⟨v, σ', H', Jv, rv2, q⟩ := hs
        subst hX
        exact ⟨v, H', Jv.os, Jv.bare, Jv.base, Jv.hok, rv2, q⟩
      | next =>
        obtain ⟨σ', H', Jv, q⟩ := hs
        exact q.elim
      | brk =>
        obtain ⟨_, _, _, q⟩ := hs
        exact q.elim
      | cont =>
        obtain ⟨_, _, _, q⟩ := hs
        exact q.elim
    · refine ⟨by rfl, rfl, fun g p L H2 Z2 mo hw => ⟨p, L, fmOf H fun _ => none, Z2, lawE N.length g, _, by rw [hpr.2.2.2.2.1]; exact rel_law hN2 mo, ?_, hw⟩⟩
      refine ⟨fun _ q => q.elim, fun d r q v σ H3 Z3 s3 R3 hv => ?_, fun _ q => q.elim, fun _ q => q.elim, fun _ _ q => q.elim⟩
      have q' : d = .bool true := q
      subst q'
      exact rep_bool hv
  · cases h3
end
end G

set_option linter.all false
set_option maxRecDepth 100000
set_option Elab.async false
/-! Sw: what the top has left, in lists. -/
namespace G
open PySem PySem.Spec PyProof.Rows L2
inductive FreeAt (K : PySem.W.Frag) : List Str → Prop
  | nil : FreeAt K []
  | cons {x : Str} {xs : List Str} : PySem.W.nsIn K mainGlobals x = some none → FreeAt K xs → FreeAt K (x :: xs)
inductive IntsAt (K : PySem.W.Frag) : List (Str × Int) → Prop
  | nil : IntsAt K []
  | cons {x : Str} {n : Int} {t : Tok} {xs : List (Str × Int)} : PySem.W.nsIn K mainGlobals x = some (some (.int n t)) → IntsAt K xs → IntsAt K ((x, n) :: xs)
inductive DefsAt (K : PySem.W.Frag) (cf : Cfg) : List (Df × Stmt × Addr) → Prop
  | nil : DefsAt K cf []
  | cons {d : Df} {st : Stmt} {f : Addr} {L : List (Df × Stmt × Addr)} : DefAt K d.nm st d.dv f → chkDf cf d st = true → DefsAt K cf L → DefsAt K cf ((d, st, f) :: L)
theorem FreeAt.at {K : PySem.W.Frag} {xs : List Str} (h : FreeAt K xs) : ∀ x ∈ xs, PySem.W.nsIn K mainGlobals x = some none := by
  induction h with
  | nil => intro x hx; cases hx
  | cons h _ ih =>
    intro x hx
    rcases List.mem_cons.mp hx with rfl | hx
    · exact h
    · exact ih x hx
theorem IntsAt.at {K : PySem.W.Frag} {xs : List (Str × Int)} (h : IntsAt K xs) : ∀ p ∈ xs, ∃ t, PySem.W.nsIn K mainGlobals p.1 = some (some (.int p.2 t)) := by
  induction h with
  | nil => intro x hx; cases hx
  | cons h _ ih =>
    intro x hx
    rcases List.mem_cons.mp hx with rfl | hx
    · exact ⟨_, h⟩
    · exact ih x hx
theorem DefsAt.at {K : PySem.W.Frag} {cf : Cfg} {L : List (Df × Stmt × Addr)} (h : DefsAt K cf L) : ∀ (g : Nat) (p : Df × Stmt × Addr), L[g]? = some p → DefAt K p.1.nm p.2.1 p.1.dv p.2.2 ∧ chkDf cf p.1 p.2.1 = true := by
  induction h with
  | nil => intro g p hp; simp at hp
  | cons h1 h2 _ ih =>
    intro g p hp
    cases g with
    | zero => cases hp; exact ⟨h1, h2⟩
    | succ g => exact ih g p (by simpa using hp)
theorem facts_of {K : PySem.W.Frag} {h : Heap} {mg : Str → Option Value} {cf : Cfg} (KX : K.In h) (G : h.Ns mainGlobals mg) (hf : FreeAt K cf.free) (hg : cf.gcd = true → mg "gcd" = some (.builtin "math.gcd")) (hc : IntsAt K cf.consts) : Facts cf mg where
  free := fun x hx => PySem.W.mg_none_of KX G (hf.at x (List.contains_iff_mem.mp hx))
  gcd := hg
  consts := fun p hp => by
    obtain ⟨t, e⟩ := hc.at p hp
    exact ⟨t, PySem.W.mg_of KX G e⟩
/-- the calls' table of a list of defs -/
def tbOf (L : List (Df × Stmt)) (sub : Nat → Nat → Bool) : Tb := ⟨fun g => (L[g]?).map fun p => .df p.1.ps.length p.1.N.length p.1.b, sub⟩
theorem tbOf_ok {L : List (Df × Stmt)} {sub : Nat → Nat → Bool} : (tbOf L sub).Ok := by
  intro f P h
  unfold tbOf at h
  dsimp only at h
  cases q : L[f]? with
  | none => rw [q] at h; cases h
  | some p => rw [q] at h; cases h
theorem hd_of {K : PySem.W.Frag} {cf : Cfg} {L : List (Df × Stmt × Addr)} {M : List (Df × Stmt)} {sub : Nat → Nat → Bool} (h : DefsAt K cf L) (hm : L.map (fun p => (p.1, p.2.1)) = M) (hf : cf.fns = M.map fun p => (p.1.nm, p.1.ps)) (hv : cf.dfl = M.map fun p => p.1.dv) :
    ∀ g p, cf.fns[g]? = some p → ∃ d st f, (fun i => L[i]?) g = some (d, st, f) ∧ p = (d.nm, d.ps) ∧ cf.dfl.getD g [] = d.dv ∧ (tbOf M sub).fn g = some (.df d.ps.length d.N.length d.b) ∧ DefAt K d.nm st d.dv f ∧ chkDf cf d st = true := by
  intro g p hp
  subst hm
  rw [hf, List.map_map, List.getElem?_map] at hp
  cases q : L[g]? with
  | none => rw [q] at hp; cases hp
  | some t =>
    rw [q] at hp
    cases hp
    obtain ⟨h1, h2⟩ := h.at g t q
    refine ⟨t.1, t.2.1, t.2.2, q, rfl, by rw [hv, List.map_map, List.getD_eq_getElem?_getD, List.getElem?_map, q]; rfl, ?_, h1, h2⟩
    unfold tbOf
    dsimp only
    rw [List.getElem?_map, q]
    rfl
/-! ### the error classes -/
open PySem.W in
/-- what the written part says of an own error class -/
structure ExcK (P : Program) (K : Frag) (x : Str × Option Str) (C : Addr) : Prop where
  ns : nsIn K mainGlobals x.1 = some (some (.ref C))
  kC : keepIn K (.ref C) = true
  sub : subIn K (.ref C) (.type "BaseException") = some true
  ty : typeIn K (.ref C) = some (.type "type")
  hd : hasDictIn K C = true
  hga : findIn K (.ref C) "__getattribute__" = some (some (.builtin "BaseException.__getattribute__"))
  hgt : findIn K (.ref C) "__getattr__" = some none
  ha : findIn K (.ref C) "__class__" = some (some (.builtin "object.__class__"))
  hn : specialIn K (.builtin "object.__class__") "__get__" = some (some (.builtin "getset_descriptor.__get__"))
  ht : takesIn K (.builtin "object.__class__") = some true
  hm : mroIn K C (.type "object") = some true
  m0 : x.2 = none → excIn K C veB "ValueError.__new__" = true
  mf : ∀ f, x.2 = some f → FldC P K f C
inductive ExcsK (P : Program) (K : PySem.W.Frag) : List (Str × Option Str) → List Addr → Prop
  | nil : ExcsK P K [] []
  | cons {x : Str × Option Str} {C : Addr} {xs : List (Str × Option Str)} {cs : List Addr} : ExcK P K x C → ExcsK P K xs cs → ExcsK P K (x :: xs) (C :: cs)
inductive SubR (K : PySem.W.Frag) (T : Nat → Nat → Bool) (a : Addr) (i : Nat) : Nat → List Addr → Prop
  | nil {j : Nat} : SubR K T a i j []
  | cons {j : Nat} {b : Addr} {bs : List Addr} : PySem.W.subIn K (.ref a) (.ref b) = some (T i j) → SubR K T a i (j + 1) bs → SubR K T a i j (b :: bs)
inductive SubM (K : PySem.W.Frag) (T : Nat → Nat → Bool) (all : List Addr) : Nat → List Addr → Prop
  | nil {i : Nat} : SubM K T all i []
  | cons {i : Nat} {a : Addr} {as : List Addr} : SubR K T a i 0 all → SubM K T all (i + 1) as → SubM K T all i (a :: as)
theorem ExcsK.at {P : Program} {K : PySem.W.Frag} {xs : List (Str × Option Str)} {cs : List Addr} (h : ExcsK P K xs cs) : ∀ (c : Nat) (x : Str × Option Str), xs[c]? = some x → ∃ C, cs[c]? = some C ∧ ExcK P K x C := by
  induction h with
  | nil => intro c x h; simp at h
  | cons h1 _ ih =>
    intro c x hx
    cases c with
    | zero => cases hx; exact ⟨_, rfl, h1⟩
    | succ c => obtain ⟨C, e1, e2⟩ := ih c x (by simpa using hx); exact ⟨C, by simpa using e1, e2⟩
theorem SubR.at {K : PySem.W.Frag} {T : Nat → Nat → Bool} {a : Addr} {i j : Nat} {bs : List Addr} (h : SubR K T a i j bs) : ∀ (k : Nat) (b : Addr), bs[k]? = some b → PySem.W.subIn K (.ref a) (.ref b) = some (T i (j + k)) := by
  induction h with
  | nil => intro k b h; simp at h
  | cons h1 _ ih =>
    intro k b hb
    cases k with
    | zero => cases hb; exact h1
    | succ k =>
      rw [ih k b (by simpa using hb)]
      congr 2
      omega
theorem SubM.at {K : PySem.W.Frag} {T : Nat → Nat → Bool} {all as : List Addr} {i : Nat} (h : SubM K T all i as) : ∀ (k : Nat) (a : Addr), as[k]? = some a → SubR K T a (i + k) 0 all := by
  induction h with
  | nil => intro k b h; simp at h
  | cons h1 _ ih =>
    intro k b hb
    cases k with
    | zero => cases hb; exact h1
    | succ k =>
      have := ih k b (by simpa using hb)
      rw [show ∀ x : Nat, x + (k + 1) = x + 1 + k by omega]
      exact this
theorem excF_of {P : Program} {K : PySem.W.Frag} {h : Heap} {mg : Str → Option Value} (KX : K.In h) (G : h.Ns mainGlobals mg) {xs : List (Str × Option Str)} {cs : List Addr} {T : Nat → Nat → Bool} (hx : ExcsK P K xs cs) (hs : SubM K T cs 0 cs) (hd : (List.range cs.length).all (fun i => T i i) = true) : ExcF P K mg xs T fun c => cs.getD c 0 := by
  have at_ : ∀ c x, xs[c]? = some x → cs[c]? = some (cs.getD c 0) ∧ ExcK P K x (cs.getD c 0) := fun c x e => by
    obtain ⟨C, e1, e2⟩ := hx.at c x e
    have : cs.getD c 0 = C := by rw [List.getD_eq_getElem?_getD, e1]; rfl
    rw [this]
    exact ⟨e1, e2⟩
  have sub : ∀ c x c' x', xs[c]? = some x → xs[c']? = some x' → PySem.W.subIn K (.ref (cs.getD c 0)) (.ref (cs.getD c' 0)) = some (T c c') := fun c x c' x' e e' => by
    have := (hs.at c _ (at_ c x e).1).at c' _ (at_ c' x' e').1
    rwa [Nat.zero_add, Nat.zero_add] at this
  refine ⟨fun c x e => ?_, fun c x c' x' e e' => ?_, fun c x c' x' e e' => ?_⟩
  · have A := (at_ c x e).2
    exact ⟨PySem.W.mg_of KX G A.ns, A.kC, A.sub, A.ty, A.hd, A.hga, A.hgt, A.ha, A.hn, A.ht, A.hm, A.m0, A.mf⟩
  · have A := (at_ c' x' e').2
    exact PySem.W.exm_ref A.sub A.hd A.ty (sub c x c' x' e e')
  · have A := (at_ c' x' e').2
    unfold PySem.W.kitOne
    by_cases q : (Value.ref (cs.getD c 0) == Value.ref (cs.getD c' 0)) = true
    · rw [if_pos q]
      have e1 : cs.getD c 0 = cs.getD c' 0 := Value.ref.inj (beq_iff_eq.mp q)
      have s1 := sub c x c' x' e e'
      have s2 := sub c x c x e e
      rw [← e1] at s1
      rw [s1] at s2
      have lt : c < cs.length := (List.getElem?_eq_some_iff.mp (at_ c x e).1).1
      have := List.all_eq_true.mp hd c (List.mem_range.mpr lt)
      rw [Option.some.inj s2, this]
    · rw [if_neg q]
      obtain ⟨cd, hc, _⟩ := PySem.W.any_some A.hd
      unfold PySem.W.kitCls
      have e2 : ((PySem.W.clsIn K (cs.getD c' 0)).isSome && PySem.W.typeIn K (.ref (cs.getD c' 0)) == some (.type "type")) = true := by rw [hc, A.ty] <;> rfl
      show (if ((PySem.W.clsIn K (cs.getD c' 0)).isSome && PySem.W.typeIn K (.ref (cs.getD c' 0)) == some (.type "type")) = true then PySem.W.subIn K (.ref (cs.getD c 0)) (.ref (cs.getD c' 0)) else none) = _
      rw [if_pos e2]
      exact sub c x c' x' e e'
/-- the words of a class with a field -/
theorem fldC_mk {P : Program} {K : PySem.W.Frag} {fld : Str} {C : Addr} {fI cc cda : Addr} {nm q : Str} {N : Addr} {bs bm : List Value} {sn : List Str} {sub : List Value} {ab : Bool} {col : Option Bool} {dd : Option Addr} {k0 k1 k2 k3 k5 : Option Value} {oc doc pm ct ccl cl : Value} {od an cdd cld : Option Addr} {osl ccs csl : Array (Option Value)} {qual : Str} {st : Stmt} {vs : Array Value} {file : Str} {tf : Tok}
    (e1 : K.lookup C = some (excClassObj nm q C N bs bm true sn sub ab col dd k0 k1 k2 k3 k5 "ValueError.__new__")) (e2 : HandSPX.refsVE bm = true) (e3 : PySem.W.findIn K (.ref C) "__setattr__" = some (some (.builtin "object.__setattr__"))) (e4 : PySem.W.findIn K (.ref C) fld = some none) (e5 : PySem.W.findIn K (.ref C) "__init__" = some (some (.ref fI))) (e6 : PySem.W.typeIn K (.ref fI) = some (.type "function"))
    (e7 : PySem.W.ks_superIn K C C "__init__" = some (some (.builtin "ValueError.__init__"))) (e8 : PySem.W.subIn K (.ref C) (.type "ValueError") = some true) (e9 : PySem.W.mroIn K C (.ref C) = some true) (e10 : PySem.W.nsIn K cStatics "thirdparty.any" = some none) (e11 : PySem.W.nsIn K mainGlobals "super" = some none)
    (e17 : K.lookup fI = some ⟨oc, od, .func (PySem.W.ksFn "__init__" qual (defArgs st) (defBody st) (defScope st) .none .none doc pm an (.ref cda) ct cc), osl⟩) (e18 : PySem.W.codeIn K (.ref cda) qual = true)
    (e12 : K.lookup cc = some ⟨cl, cld, .cell (some (.ref C)), csl⟩) (e13 : K.lookup cda = some ⟨ccl, cdd, .fields vs, ccs⟩) (e14 : vs[2]? = some (.str file tf)) (e15 : ((P.main.file : Str) == file) = true) (e16 : (P.main.scope.names.lookup ("super" : Str)).isSome = false)
    (e19 : chkInit (defArgs st) (defBody st) (defScope st) fld = true) : FldC P K fld C :=
  ⟨_, _, _, _, _, _, _, _, _, _, _, _, _, _, _, _, _, _, _, _, _, _, _, _, _, _, _, _, _, _, _, _, _, _, _, _, _, _, e1, e2, e3, e4, e5, e6, e7, e8, e9, e10, e11, e12, e13, e14, e15, e16, e17, e18, e19⟩
/-- a def in a class's text -/
def inCls (st : Stmt) (i : Nat) : Stmt := match st with | .ClassDef _ _ _ body .. => body.getD i (.Pass ⟨0, 0, 0, 0⟩) | s => s
end G

set_option linter.all false
set_option maxRecDepth 100000
set_option Elab.async false
/-! Pl: words for plain laws. -/
namespace G
open PySem
theorem call_df {T : Tb} {n f np ns : Nat} {b : Sts} {ds : List D} {g : Gh} {K : D → Gh → Prop} {X : Exn → Gh → Prop} (h : T.fn f = some (.df np ns b)) (hl : ds.length = np)
    (q : stsW (callW T n) T.sub b (startE ns ds g) { nx := fun r => K .none r.g, rt := fun d r => K d r.g, bk := fun _ => False, ct := fun _ => False, ex := fun e r => X e r.g }) : callW T (n + 1) f ds g K X := by
  unfold callW
  rw [h]
  exact ⟨hl, q⟩
theorem rd_z {s : Slot} {ss : List Slot} {g : Gh} : rd ⟨s :: ss, g⟩ 0 = s := rfl
theorem rd_s {s : Slot} {ss : List Slot} {g : Gh} {i : Nat} : rd ⟨s :: ss, g⟩ (i + 1) = rd ⟨ss, g⟩ i := rfl
theorem set_z {s x : Slot} {ss : List Slot} {g : Gh} : En.set ⟨s :: ss, g⟩ 0 x = ⟨x :: ss, g⟩ := rfl
theorem set_s {s x : Slot} {ss : List Slot} {g : Gh} {i : Nat} : En.set ⟨s :: ss, g⟩ (i + 1) x = ⟨s :: (En.set ⟨ss, g⟩ i x).s, g⟩ := rfl
theorem at_mk {s : List Slot} {g g' : Gh} : En.at ⟨s, g⟩ g' = ⟨s, g'⟩ := rfl
theorem isJar_j : isJar (.fz JAR) = true := rfl
theorem der_v {r : En} {d : D} {K : D → Prop} : der r (.val d) K = K d := rfl
theorem der_n {r : En} {ds : List D} {K : D → Prop} : der r (.new ds) K = K (.list ds) := rfl
theorem frz_v {r : En} {d : D} {K : D → En → Prop} : frz r (.val d) K = K d r := rfl
theorem frz_n {r : En} {ds : List D} {K : D → En → Prop} : frz r (.new ds) K = K (.list ds) r := rfl
theorem asg_v {r : En} {i : Nat} {d : D} {K : En → Prop} : asg i r (.val d) K = K (r.set i (.fz d)) := rfl
theorem asg_n {r : En} {i : Nat} {ds : List D} {K : En → Prop} : asg i r (.new ds) K = K (r.set i (.ow ds)) := rfl
/-- a loop with an invariant -/
theorem for_inv {f : D → En → (En → Prop) → Prop} {nx : En → Prop} (P : Nat → En → Prop) : ∀ {ds : List D} {r : En}, P 0 r → (∀ i d r, ds[i]? = some d → P i r → ∀ k : En → Prop, (∀ r', P (i + 1) r' → k r') → f d r k) → (∀ r, P ds.length r → nx r) → forL f nx ds r := by
  have main : ∀ (rest pre : List D) (r : En), P pre.length r → (∀ i d r, (pre ++ rest)[i]? = some d → P i r → ∀ k : En → Prop, (∀ r', P (i + 1) r' → k r') → f d r k) → (∀ r, P (pre ++ rest).length r → nx r) → forL f nx rest r := by
    intro rest
    induction rest with
    | nil =>
      intro pre r h0 _ hd
      rw [List.append_nil] at hd
      exact hd r h0
    | cons d rest ih =>
      intro pre r h0 hs hd
      unfold forL
      refine hs pre.length d r (by rw [List.getElem?_append_right (Nat.le_refl _), Nat.sub_self]; rfl) h0 _ fun r' h' => ?_
      refine ih (pre ++ [d]) r' (by rw [List.length_append]; exact h') ?_ ?_
      · rw [List.append_assoc]; exact hs
      · rw [List.append_assoc]; exact hd
  intro ds r h0 hs hd
  exact main ds [] r h0 hs hd
/-- a comprehension whose turns leave the slots as they were -/
theorem turns_map {f : D → En → (Option D → En → Prop) → Prop} {r : En} (m : D → Option D) : ∀ {ds acc : List D} {K : List D → En → Prop}, (∀ d ∈ ds, ∀ k : Option D → En → Prop, k (m d) r → f d r k) → K (acc ++ ds.filterMap m) r → turns f ds acc r K
  | [], acc, K, _, h => by
    unfold turns
    simpa using h
  | d :: ds, acc, K, hs, h => by
    unfold turns
    refine hs d List.mem_cons_self _ ?_
    cases e : m d with
    | none =>
      rw [List.filterMap_cons_none e] at h
      exact turns_map m (fun d' hd => hs d' (List.mem_cons_of_mem _ hd)) h
    | some x =>
      rw [List.filterMap_cons_some e] at h
      refine turns_map m (fun d' hd => hs d' (List.mem_cons_of_mem _ hd)) ?_
      rw [List.append_assoc]
      exact h
/-- a comprehension with an invariant -/
theorem turns_inv {f : D → En → (Option D → En → Prop) → Prop} (P : Nat → List D → En → Prop) : ∀ {ds : List D} {r : En} {K : List D → En → Prop}, P 0 [] r →
    (∀ i d acc r, ds[i]? = some d → P i acc r → ∀ k : Option D → En → Prop, (∀ o r', P (i + 1) (acc ++ o.toList) r' → k o r') → f d r k) → (∀ acc r, P ds.length acc r → K acc r) → turns f ds [] r K := by
  have main : ∀ (f : D → En → (Option D → En → Prop) → Prop) (K : List D → En → Prop) (rest pre acc : List D) (r : En), P pre.length acc r → (∀ i d acc r, (pre ++ rest)[i]? = some d → P i acc r → ∀ k : Option D → En → Prop, (∀ o r', P (i + 1) (acc ++ o.toList) r' → k o r') → f d r k) → (∀ acc r, P (pre ++ rest).length acc r → K acc r) → turns f rest acc r K := by
    intro f K rest
    induction rest with
    | nil =>
      intro pre acc r h0 _ hd
      rw [List.append_nil] at hd
      exact hd acc r h0
    | cons d rest ih =>
      intro pre acc r h0 hs hd
      unfold turns
      refine hs pre.length d acc r (by rw [List.getElem?_append_right (Nat.le_refl _), Nat.sub_self]; rfl) h0 _ fun o r' h' => ?_
      have nxt : ∀ acc', P (pre.length + 1) acc' r' → turns f rest acc' r' K := fun acc' h2 => by
        refine ih (pre ++ [d]) acc' r' (by rw [List.length_append]; exact h2) ?_ ?_
        · rw [List.append_assoc]; exact hs
        · rw [List.append_assoc]; exact hd
      cases o with
      | none => exact nxt acc (by simpa using h')
      | some x => exact nxt _ h'
  intro ds r K h0 hs hd
  exact main f K ds [] [] r h0 hs hd
end G

set_option linter.all false
set_option maxRecDepth 100000
set_option Elab.async false
/-! Pm: slices, enumerate, ranges in plain laws. -/
namespace G
open PySem
theorem cut_take {xs : List D} {k : Int} (h : 0 ≤ k) : cutD xs none (some k) = xs.take k.toNat := by
  obtain ⟨j, rfl⟩ : ∃ j : Nat, k = j := ⟨k.toNat, by omega⟩
  unfold cutD
  rw [HT.sIx_none, HT.sIx_nat]
  simp only [List.drop_zero, Nat.sub_zero, Int.toNat_natCast]
  by_cases hj : j ≤ xs.length
  · rw [Nat.min_eq_left hj]
  · rw [Nat.min_eq_right (by omega), List.take_of_length_le (Nat.le_refl _), List.take_of_length_le (by omega)]
theorem cut_drop {xs : List D} {k : Int} (h : 0 ≤ k) : cutD xs (some k) none = xs.drop k.toNat := by
  obtain ⟨j, rfl⟩ : ∃ j : Nat, k = j := ⟨k.toNat, by omega⟩
  unfold cutD
  rw [HT.sIx_none, HT.sIx_nat]
  simp only [Int.toNat_natCast]
  by_cases hj : j ≤ xs.length
  · rw [Nat.min_eq_left hj, List.take_of_length_le (by rw [List.length_drop]; omega)]
  · rw [Nat.min_eq_right (by omega), List.drop_of_length_le (Nat.le_refl _), List.drop_of_length_le (by omega), List.take_nil]
theorem cut_both {xs : List D} {k l : Int} (h : 0 ≤ k) (h2 : 0 ≤ l) : cutD xs (some k) (some l) = (xs.take l.toNat).drop k.toNat := by
  obtain ⟨j, rfl⟩ : ∃ j : Nat, k = j := ⟨k.toNat, by omega⟩
  obtain ⟨m, rfl⟩ : ∃ j : Nat, l = j := ⟨l.toNat, by omega⟩
  unfold cutD
  rw [HT.sIx_nat, HT.sIx_nat]
  simp only [Int.toNat_natCast]
  apply List.ext_getElem?
  intro i
  rw [List.getElem?_take, List.getElem?_drop, List.getElem?_drop, List.getElem?_take]
  by_cases h1 : j + i < xs.length
  · by_cases h3 : j + i < m
    · rw [if_pos h3, if_pos (by omega), show min j xs.length = j by omega]
    · rw [if_neg h3, if_neg (by omega)]
  · rw [List.getElem?_eq_none (show xs.length ≤ j + i by omega)]
    split
    · rw [List.getElem?_eq_none (by omega)]; split <;> rfl
    · split <;> rfl
end G

set_option linter.all false
set_option maxRecDepth 100000
set_option Elab.async false
/-! Px: the core's meaning, row by row; comprehensions and loops stay folded. -/
namespace G
open PySem
/-- a comprehension's turn -/
def compF (C : Calls) (e : Ex) (t : Tg) (c : Ts) (own : List (Str × Nat)) : D → En → (Option D → En → Prop) → Prop :=
  fun d r2 k => tgW t d r2 fun r3 => tsW C c r3 (fun b r4 => if b = true then exW C e r4 (fun x r5 => frz r5 x fun y r6 => k (some y) (wipe own r6)) noX else k none (wipe own r4)) noX
/-- a loop's turn -/
def forF (C : Calls) (S : Nat → Nat → Bool) (t : Tg) (b : Sts) (K : Ks) : D → En → (En → Prop) → Prop := fun d r k => tgW t d r fun r2 => stsW C S b r2 { K with nx := k, ct := k, bk := K.nx }
section
variable {C : Calls} {S : Nat → Nat → Bool} {r : En} {K : Rz → En → Prop} {X : XW} {L : List D → En → Prop} {B : Bool → En → Prop} {KS : Ks}
theorem x_v {i : Nat} : exW C (.v i) r K X = (match rd r i with | .fz d => K (.val d) r | .ow _ => K (.sl i) r | _ => False) := rfl
theorem x_i {n : Int} : exW C (.i n) r K X = K (.val (.int n)) r := rfl
theorem x_b {n : Bool} : exW C (.b n) r K X = K (.val (.bool n)) r := rfl
theorem x_n : exW C .n r K X = K (.val .none) r := rfl
theorem x_st {n : Str} : exW C (.s n) r K X = K (.val (.str n)) r := rfl
theorem x_g {x : Str} {n : Int} : exW C (.g x n) r K X = K (.val (.int n)) r := rfl
theorem x_tup {es : Exs} : exW C (.tup es) r K X = exsW C es r (fun ds r1 => K (.val (.tuple ds)) r1) X := rfl
theorem x_lst {es : Exs} : exW C (.lst es) r K X = exsW C es r (fun ds r1 => K (.new ds) r1) X := rfl
theorem x_bin {o : BO} {a b : Ex} : exW C (.bin o a b) r K X = exW C a r (fun x r1 => exW C b r1 (fun y r2 => der r2 x fun d => der r2 y fun e => opW o d e fun z => K z r2) X) X := rfl
theorem x_neg {a : Ex} : exW C (.neg a) r K X = exW C a r (fun x r1 => der r1 x fun d => (match d with | .int i => K (.val (.int (-i))) r1 | _ => False)) X := rfl
theorem x_nt {a : Ex} : exW C (.nt a) r K X = exW C a r (fun x r1 => der r1 x fun d => truW d fun b => K (.val (.bool (!b))) r1) X := rfl
theorem x_cmp {o : CO} {a b : Ex} : exW C (.cmp o a b) r K X = exW C a r (fun x r1 => exW C b r1 (fun y r2 => der r2 x fun d => der r2 y fun e => cmpW o d e fun z => K (.val (.bool z)) r2) X) X := rfl
theorem x_chain {o p : CO} {a b c : Ex} : exW C (.chain o p a b c) r K X = exW C a r (fun x r1 => exW C b r1 (fun y r2 => der r2 x fun d => der r2 y fun e => cmpW o d e fun z =>
      if z = true then exW C c r2 (fun w r3 => der r3 y fun e' => der r3 w fun f => cmpW p e' f fun z' => K (.val (.bool z')) r3) X else K (.val (.bool false)) r2) X) X := rfl
theorem x_isN {a : Ex} : exW C (.isN a) r K X = exW C a r (fun x r1 => der r1 x fun d => K (.val (.bool (isNon d))) r1) X := rfl
theorem x_notN {a : Ex} : exW C (.notN a) r K X = exW C a r (fun x r1 => der r1 x fun d => K (.val (.bool (!isNon d))) r1) X := rfl
theorem x_and {a b : Ex} : exW C (.and a b) r K X = exW C a r (fun x r1 => der r1 x fun d => (match d with | .bool c => (if c = true then exW C b r1 K X else K (.val (.bool false)) r1) | _ => False)) X := rfl
theorem x_or {a b : Ex} : exW C (.or a b) r K X = exW C a r (fun x r1 => der r1 x fun d => (match d with | .bool c => (if c = true then K (.val (.bool true)) r1 else exW C b r1 K X) | _ => False)) X := rfl
theorem x_ite {t : Ts} {a b : Ex} : exW C (.ite t a b) r K X = tsW C t r (fun c r1 => if c = true then exW C a r1 K X else exW C b r1 K X) X := rfl
theorem x_ix {a i : Ex} : exW C (.ix a i) r K X = exW C a r (fun x r1 => exW C i r1 (fun y r2 => der r2 x fun d => der r2 y fun e => ixW d e fun z => K (.val z) r2) X) X := rfl
theorem x_cut {a : Ex} {lo hi : Op} : exW C (.cut a lo hi) r K X = exW C a r (fun x r1 => opwW C lo r1 (fun l r2 => opwW C hi r2 (fun h r3 => der r3 x fun d => (match d with
      | .list ds => K (.new (cutD ds l h)) r3
      | .tuple ds => K (.val (.tuple (cutD ds l h))) r3
      | _ => False)) X) X) X := rfl
theorem x_stp {a : Ex} {lo k : Nat} : exW C (.stp a lo k) r K X = exW C a r (fun x r1 => der r1 x fun d => (match d with | .list ds => (stpL ds lo k).length ≤ SZ ∧ K (.new (stpL ds lo k)) r1 | _ => False)) X := rfl
theorem x_rev {a : Ex} : exW C (.rev a) r K X = exW C a r (fun x r1 => der r1 x fun d => (match d with | .list ds => K (.new ds.reverse) r1 | .tuple ds => K (.val (.tuple ds.reverse)) r1 | _ => False)) X := rfl
theorem x_call {f : Nat} {es : Exs} : exW C (.call f es) r K X = exsW C es r (fun ds r1 => C f ds r1.g (fun d g => K (.val d) (r1.at g)) (fun e g => X e (r1.at g))) X := rfl
theorem x_callk {f : Nat} {es ks : Exs} {ps : List Nat} : exW C (.callk f es ks ps) r K X = exsW C es r (fun ds r1 => exsW C ks r1 (fun ws r2 => C f (ps.map fun p => (ds ++ ws).getD p .none) r2.g (fun d g => K (.val d) (r2.at g)) (fun e g => X e (r2.at g))) X) X := rfl
theorem x_bi {k : BI} {es : Exs} : exW C (.bi k es) r K X = argsW C es r (fun ds r1 => biW k ds fun z => K z r1) X := rfl
theorem x_comp {e : Ex} {t : Tg} {w : It} {c : Ts} {own : List (Str × Nat)} : exW C (.comp e t w c own) r K X = itW C w r (fun ds r1 => noOw own r1 = true ∧ turns (compF C e t c own) ds [] (wipe own r1) (fun ys r7 => K (.new ys) (unwipe own r1 r7))) X := rfl
theorem x_pop {i : Nat} : exW C (.pop i) r K X = (match rd r i with | .ow ds => (match ds.getLast? with | some d => K (.val d) (r.set i (.ow ds.dropLast)) | none => False) | _ => False) := rfl
theorem x_jg {i : Nat} {k : Sum Int Str} : exW C (.jg i k) r K X = (isJar (rd r i) = true ∧ (match gget r.g k with | some (.int n) => K (.val (.int n)) r | _ => False)) := rfl
theorem t_yes : tsW C .yes r B X = B true r := rfl
theorem t_and' {a b : Ts} : tsW C (.and a b) r B X = tsW C a r (fun c r1 => if c = true then tsW C b r1 B X else B false r1) X := rfl
theorem t_or' {a b : Ts} : tsW C (.or a b) r B X = tsW C a r (fun c r1 => if c = true then B true r1 else tsW C b r1 B X) X := rfl
theorem t_nt' {a : Ts} : tsW C (.nt a) r B X = tsW C a r (fun c r1 => B (!c) r1) X := rfl
theorem t_ex {a : Ex} : tsW C (.e a) r B X = exW C a r (fun x r1 => der r1 x fun d => truW d fun b => B b r1) X := rfl
theorem e_nil : exsW C .nil r L X = L [] r := rfl
theorem e_cons {e : Ex} {es : Exs} : exsW C (.cons e es) r L X = exW C e r (fun x r1 => frz r1 x fun d r2 => exsW C es r2 (fun ds r3 => L (d :: ds) r3) X) X := rfl
theorem a_nil' : argsW C .nil r L X = L [] r := rfl
theorem a_cons' {e : Ex} {es : Exs} : argsW C (.cons e es) r L X = exW C e r (fun x r1 => argsW C es r1 (fun ds r3 => der r3 x fun d => L (d :: ds) r3) X) X := rfl
theorem s_nil : stsW C S .nil r KS = KS.nx r := rfl
theorem s_cons {s : St} {ss : Sts} : stsW C S (.cons s ss) r KS = stW C S s r { KS with nx := fun r1 => stsW C S ss r1 KS } := rfl
theorem s_for {t : Tg} {w : It} {b : Sts} : stW C S (.fr t w b) r KS = itW C w r (fun ds r1 => forL (forF C S t b KS) KS.nx ds r1) KS.ex := rfl
theorem wipe_nil : wipe [] r = r := rfl
theorem wipe_cons {x : Str} {i : Nat} {o : List (Str × Nat)} : wipe ((x, i) :: o) r = (wipe o r).set i .un := rfl
theorem der_sl {i : Nat} {P : D → Prop} : der r (.sl i) P = (match rd r i with | .ow ds => P (.list ds) | .fz d => P d | _ => False) := rfl
theorem frz_sl {i : Nat} {P : D → En → Prop} : frz r (.sl i) P = (match rd r i with | .ow ds => P (.list ds) (r.set i (.fz (.list ds))) | .fz d => P d r | _ => False) := rfl
theorem asg_sl {i j : Nat} {P : En → Prop} : asg i r (.sl j) P = (match rd r j with | .ow ds => P ((r.set j (.fz (.list ds))).set i (.fz (.list ds))) | .fz d => P (r.set i (.fz d)) | _ => False) := rfl
theorem rs_nil {P : List Rz → En → Prop} : rsW C .nil r P X = P [] r := rfl
theorem rs_cons {e : Ex} {es : Exs} {P : List Rz → En → Prop} : rsW C (.cons e es) r P X = exW C e r (fun x r1 => frzS r1 x fun y r2 => rsW C es r2 (fun xs r3 => P (y :: xs) r3) X) X := rfl
theorem frzS_v {d : D} {P : Rz → En → Prop} : frzS r (.val d) P = P (.val d) r := rfl
theorem frzS_n {ds : List D} {P : Rz → En → Prop} : frzS r (.new ds) P = P (.new ds) r := rfl
theorem asgs_nil {P : En → Prop} : asgs [] [] r P = P r := rfl
theorem asgs_cons {i : Nat} {is : List Nat} {x : Rz} {xs : List Rz} {P : En → Prop} : asgs (i :: is) (x :: xs) r P = asg i r x fun r1 => asgs is xs r1 P := rfl
end
end G

set_option linter.all false
set_option maxRecDepth 100000
set_option Elab.async false
/-! Pn: values that repr shows. -/
namespace G
open PySem
/-- shown: at most that deep, at most that long -/
structure Val (dp m : Nat) (d : D) : Prop where
  sh : d.showable = true
  dp : d.depth ≤ dp
  nd : d.hasDict = false
  ln : d.shown.length ≤ m
structure Vals' (dp m : Nat) (ds : List D) : Prop where
  sh : PyData.showableAll ds = true
  dp : PyData.depthAll ds ≤ dp
  nd : PyData.hasDictAll ds = false
  ln : piled (PyData.shownAll ds) ≤ ds.length * (m + 2)
theorem Val.mono {dp m dp' m' : Nat} {d : D} (h : Val dp m d) (h1 : dp ≤ dp') (h2 : m ≤ m') : Val dp' m' d := ⟨h.sh, Nat.le_trans h.dp h1, h.nd, Nat.le_trans h.ln h2⟩
theorem vals_of {dp m : Nat} : ∀ {ds : List D}, (∀ d ∈ ds, Val dp m d) → Vals' dp m ds
  | [], _ => ⟨rfl, Nat.zero_le _, rfl, Nat.zero_le _⟩
  | d :: ds, h => by
    have h1 := h d List.mem_cons_self
    have h2 := vals_of (ds := ds) fun x hx => h x (List.mem_cons_of_mem _ hx)
    refine ⟨?_, ?_, ?_, ?_⟩
    · simp only [PyData.showableAll, h1.sh, h2.sh, Bool.and_self]
    · simp only [PyData.depthAll]
      exact Nat.max_le.mpr ⟨h1.dp, h2.dp⟩
    · simp only [PyData.hasDictAll, h1.nd, h2.nd, Bool.or_self]
    · simp only [PyData.shownAll]
      rw [piled_cons, List.length_cons, Nat.add_mul]
      have := h1.ln
      have := h2.ln
      omega
theorem shownAll_len : ∀ ds : List D, (PyData.shownAll ds).length = ds.length
  | [] => rfl
  | d :: ds => by simp only [PyData.shownAll, List.length_cons, shownAll_len ds]
theorem tupleText_le (ts : List Str) : (tupleText ts).length ≤ piled ts + 4 := by
  unfold tupleText
  rw [strLen_append, strLen_append]
  have e1 : ((("(" : String) : Str)).length = 1 := rfl
  have e3 : (((if ts.length == 1 then ",)" else ")" : String) : Str)).length ≤ 2 := by split <;> decide
  rw [e1]
  by_cases h : ts = []
  · subst h
    show 1 + (Str.join ", " []).length + _ ≤ _
    have : (Str.join ", " ([] : List Str)).length = 0 := rfl
    omega
  · have := join_length_add ts h
    omega
theorem listText_le : ∀ ts : List Str, (listText ts).length ≤ piled ts + 4
  | [] => by decide
  | t :: r => by
    unfold listText
    rw [strLen_append]
    show (textFrom 1 (("[" : Str) ++ (if (0 : Nat) > 0 then ", " else "" : String) ++ t) r).length + _ ≤ _
    rw [textFrom_length_pos r 1 _ (Nat.succ_pos 0), strLen_append, strLen_append, piled_cons]
    have e1 : ((("[" : String) : Str)).length = 1 := rfl
    have e2 : ((((if (0 : Nat) > 0 then ", " else "" : String)) : Str)).length = 0 := rfl
    have e3 : ((("]" : String) : Str)).length = 1 := rfl
    rw [e1, e2, e3]
    omega
theorem val_tup {dp m c : Nat} {ds : List D} (h : ∀ d ∈ ds, Val dp m d) (hl : ds.length ≤ c) : Val (dp + 1) (c * (m + 2) + 4) (.tuple ds) := by
  have v := vals_of h
  refine ⟨by simpa only [PyData.showable] using v.sh, ?_, by simpa only [PyData.hasDict] using v.nd, ?_⟩
  · simp only [PyData.depth]
    have := v.dp
    omega
  · simp only [PyData.shown]
    have h1 := tupleText_le (PyData.shownAll ds)
    have h2 := v.ln
    have h3 := Nat.mul_le_mul_right (m + 2) hl
    omega
theorem val_lst {dp m c : Nat} {ds : List D} (h : ∀ d ∈ ds, Val dp m d) (hl : ds.length ≤ c) : Val (dp + 1) (c * (m + 2) + 4) (.list ds) := by
  have v := vals_of h
  refine ⟨by simpa only [PyData.showable] using v.sh, ?_, by simpa only [PyData.hasDict] using v.nd, ?_⟩
  · simp only [PyData.depth]
    have := v.dp
    omega
  · simp only [PyData.shown]
    have h1 := listText_le (PyData.shownAll ds)
    have h2 := v.ln
    have h3 := Nat.mul_le_mul_right (m + 2) hl
    omega
theorem val_int {i : Int} {k : Nat} (hk : 0 < k) (h2 : k ≤ 500) (h : i.natAbs < 10 ^ k) : Val 0 (k + 1) (.int i) := by
  refine ⟨?_, Nat.le_refl _, rfl, ?_⟩
  · show decide (i.natAbs.log2 < 1920) = true
    rw [decide_eq_true_eq]
    by_cases h0 : i.natAbs = 0
    · rw [h0]; decide
    · rw [Nat.log2_lt h0]
      refine Nat.lt_of_lt_of_le h (Nat.le_trans (Nat.pow_le_pow_right (by decide) h2) ?_)
      decide +kernel
  · show (Str.ofString (toString i)).length ≤ k + 1
    have := int_text_length_le10 hk h
    rw [ofString_length]
    omega
theorem val_non : Val 0 4 .none := ⟨rfl, Nat.le_refl _, rfl, by decide⟩
theorem val_bool {b : Bool} : Val 0 5 (.bool b) := ⟨rfl, Nat.le_refl _, rfl, by cases b <;> decide⟩
end G

set_option linter.all false
set_option maxRecDepth 100000
set_option Elab.async false
/-! Py: the core's statements, row by row. -/
namespace G
open PySem
/-- what a call is followed by: simp does not look into it -/
class BK where
  run : D → Gh → Prop
def blk [b : BK] : D → Gh → Prop := b.run
theorem blk_ap {f : D → Gh → Prop} {d : D} {g : Gh} : @blk ⟨f⟩ d g = f d g := rfl
section
variable {C : Calls} {S : Nat → Nat → Bool} {r : En} {K : Ks}
theorem s_set {i : Nat} {e : Ex} : stW C S (.set i e) r K = exW C e r (fun x r1 => asg i r1 x K.nx) K.ex := rfl
theorem s_par {is : List Nat} {es : Exs} : stW C S (.par is es) r K = rsW C es r (fun xs r1 => asgs is xs r1 K.nx) K.ex := rfl
theorem s_unp {t : Tg} {e : Ex} : stW C S (.unp t e) r K = exW C e r (fun x r1 => frz r1 x fun d r2 => tgW t d r2 K.nx) K.ex := rfl
theorem s_ret {e : Ex} : stW C S (.ret e) r K = exW C e r (fun x r1 => frz r1 x fun d r2 => K.rt d r2) K.ex := rfl
theorem s_retN : stW C S .retN r K = K.rt .none r := rfl
theorem s_drop {e : Ex} : stW C S (.drop e) r K = exW C e r (fun _ r1 => K.nx r1) K.ex := rfl
theorem s_if {t : Ts} {a b : Sts} : stW C S (.ifs t a b) r K = tsW C t r (fun c r1 => if c = true then stsW C S a r1 K else stsW C S b r1 K) K.ex := rfl
theorem x_jn {s : Src} {K : Rz → En → Prop} {X : XW} : exW C (.jn s) r K X = (match srcK r s with | some k => (match gget r.g k with | some (.list ds) => K (.val (.bool (!ds.isEmpty))) r | _ => False) | none => False) := rfl
theorem x_jp {s : Src} {b : Bool} {K : Rz → En → Prop} {X : XW} : exW C (.jp s b) r K X = (match srcK r s with
    | some k => (match gget r.g k with
      | some (.list ds) => (match (if b = true then ds.head? else ds.getLast?) with
        | some d => K (.val d) (r.at (gput r.g k (.list (if b = true then ds.tail else ds.dropLast))))
        | none => False)
      | _ => False)
    | none => False) := rfl
theorem x_scut {i : Nat} {n : Int} {K : Rz → En → Prop} {X : XW} : exW C (.scut i n) r K X = (match rd r i with | .fz (.dict [(.none, .list ds)]) => K (.new (cutD ds none (some n))) r | _ => False) := rfl
theorem x_slen {i : Nat} {K : Rz → En → Prop} {X : XW} : exW C (.slen i) r K X = (match rd r i with | .fz (.dict [(.none, .list ds)]) => K (.val (.int (ds.length : Int))) r | _ => False) := rfl
theorem x_popA {i : Nat} {n : Int} {K : Rz → En → Prop} {X : XW} : exW C (.popA i n) r K X = (match rd r i with | .ow ds => (match L2.ixN ds.length n with | some j => (-(2 ^ 63) ≤ n ∧ n < 2 ^ 63) ∧ K (.val (ds.getD j .none)) (r.set i (.ow (ds.eraseIdx j))) | none => False) | _ => False) := rfl
theorem x_callB {f : Nat} {es : Exs} {K : Rz → En → Prop} {X : XW} : exW C (.call f es) r K X = exsW C es r (fun ds r1 => C f ds r1.g (@blk ⟨fun d g => K (.val d) (r1.at g)⟩) (fun e g => X e (r1.at g))) X := rfl
theorem x_callkB {f : Nat} {es ks : Exs} {ps : List Nat} {K : Rz → En → Prop} {X : XW} : exW C (.callk f es ks ps) r K X = exsW C es r (fun ds r1 => exsW C ks r1 (fun ws r2 => C f (ps.map fun p => (ds ++ ws).getD p .none) r2.g (@blk ⟨fun d g => K (.val d) (r2.at g)⟩) (fun e g => X e (r2.at g))) X) X := rfl
/-- what comes behind a statement -/
def nxS (C : Calls) (S : Nat → Nat → Bool) (ss : Sts) (K : Ks) : En → Prop := fun r => stsW C S ss r K
theorem s_cs {s : St} {ss : Sts} : stsW C S (.cons s ss) r K = stW C S s r { K with nx := nxS C S ss K } := rfl
theorem nx_ap {ss : Sts} {s : List Slot} {g : Gh} : nxS C S ss K ⟨s, g⟩ = stsW C S ss ⟨s, g⟩ K := rfl
/-- a while loop's turn -/
def whB (C : Calls) (S : Nat → Nat → Bool) (b : Sts) (K : Ks) : En → (En → Prop) → Prop := fun r k => stsW C S b r { K with nx := k, ct := k, bk := K.nx }
def whT (C : Calls) (t : Ts) (K : Ks) : En → (Bool → En → Prop) → Prop := fun r k => tsW C t r k K.ex
theorem s_whl {t : Ts} {b : Sts} : stW C S (.whl t b) r K = whlW (whT C t K) (whB C S b K) K.nx r := rfl
theorem s_app {i : Nat} {e : Ex} : stW C S (.app i e) r K = (isOw (rd r i) = true ∧ exW C e r (fun x r1 => frz r1 x fun d r2 => (match rd r2 i with | .ow ds => ds.length < SZ ∧ K.nx (r2.set i (.ow (ds ++ [d]))) | _ => False)) K.ex) := rfl
theorem s_ext {i : Nat} {e : Ex} : stW C S (.ext i e) r K = (isOw (rd r i) = true ∧ exW C e r (fun x r1 => frz r1 x fun d r2 => (match d with
      | .list xs => (match rd r2 i with | .ow ds => ds.length + xs.length ≤ SZ ∧ K.nx (r2.set i (.ow (ds ++ xs))) | _ => False)
      | _ => False)) K.ex) := rfl
theorem s_put {i : Nat} {a e : Ex} : stW C S (.put i a e) r K = (isOw (rd r i) = true ∧ exW C e r (fun y r1 => frz r1 y fun d r2 => exW C a r2 (fun x r3 => der r3 x fun k => (match k with
      | .int j => (match rd r3 i with
        | .ow ds => (match L2.ixN ds.length j with | some m => K.nx (r3.set i (.ow (ds.set m d))) | none => False)
        | _ => False)
      | _ => False)) K.ex) K.ex) := rfl
theorem s_ja {s : Src} {e : Ex} : stW C S (.ja s e) r K = (srcL r s = true ∧ exW C e r (fun x r1 => der r1 x fun d => (match d with
      | .int n => (match srcK r1 s with
        | some k => (match gget r1.g k with
          | some (.list ds) => ds.length < SZ ∧ K.nx (r1.at (gput r1.g k (.list (ds ++ [.int n]))))
          | _ => False)
        | none => False)
      | _ => False)) K.ex) := rfl
theorem s_ji {s : Src} {e : Ex} : stW C S (.ji s e) r K = (srcL r s = true ∧ exW C e r (fun x r1 => der r1 x fun d => (match d with
      | .int n => (match srcK r1 s with
        | some k => (match gget r1.g k with
          | some (.list ds) => ds.length < SZ ∧ K.nx (r1.at (gput r1.g k (.list (.int n :: ds))))
          | _ => False)
        | none => False)
      | _ => False)) K.ex) := rfl
theorem s_js {i : Nat} {k : Sum Int Str} {e : Ex} : stW C S (.js i k e) r K = exW C e r (fun x r1 => der r1 x fun d => (match d with
      | .int n => isJar (rd r1 i) = true ∧ (match gget r1.g k with
        | some (.int _) => K.nx (r1.at (gput r1.g k (.int n)))
        | _ => False)
      | _ => False)) K.ex := rfl
theorem s_jl {j i : Nat} {k : Sum Int Str} : stW C S (.jl j i k) r K = (isJar (rd r i) = true ∧ (match gget r.g k with | some (.list _) => K.nx (r.set j (.al k)) | _ => False)) := rfl
theorem s_rais {c : Nat} {f : Option Str} {es : Exs} : stW C S (.rais c f es) r K = exsW C es r (fun ds r1 => K.ex ⟨c, raisA f ds⟩ r1) K.ex := rfl
theorem x_calld {f : Nat} {es : Exs} {ns : List Int} {K : Rz → En → Prop} {X : XW} : exW C (.calld f es ns) r K X = exsW C es r (fun ds r1 => C f (ds ++ ns.map .int) r1.g (fun d g => K (.val d) (r1.at g)) (fun e g => X e (r1.at g))) X := rfl
theorem x_calldB {f : Nat} {es : Exs} {ns : List Int} {K : Rz → En → Prop} {X : XW} : exW C (.calld f es ns) r K X = exsW C es r (fun ds r1 => C f (ds ++ ns.map .int) r1.g (@blk ⟨fun d g => K (.val d) (r1.at g)⟩) (fun e g => X e (r1.at g))) X := rfl
theorem x_lw {w : It} {K : Rz → En → Prop} {X : XW} : exW C (.lw w) r K X = itW C w r (fun ds r1 => ds.length ≤ SZ ∧ K (.new ds) r1) X := rfl
theorem hd_nil {e : Exn} : hdW S K e r .nil = K.ex e r := rfl
theorem hd_cons {e : Exn} {c : Nat} {n : Option Nat} {u : Hu} {hs : Hds} : hdW S K e r (.cons c n u hs) = if S e.cls c = true then huW S K e (unN r n) u else hdW S K e r hs := rfl
theorem un_s {s : List Slot} {g : Gh} {i : Nat} : unN ⟨s, g⟩ (some i) = ⟨s.set i .un, g⟩ := rfl
theorem un_n : unN r none = r := rfl
theorem hu_ret {e : Exn} {h : Hx} : huW S K e r (.ret h) = hxW S e h (fun d => K.rt d r) := rfl
theorem hu_ifr {e : Exn} {t h : Hx} {u : Hu} : huW S K e r (.ifr t h u) = hxW S e t (fun d => (match d with | .bool b => (if b = true then hxW S e h (fun d => K.rt d r) else huW S K e r u) | _ => False)) := rfl
theorem hx_b {e : Exn} {x : Bool} {k : D → Prop} : hxW S e (.b x) k = k (.bool x) := rfl
theorem hx_s {e : Exn} {x : Str} {k : D → Prop} : hxW S e (.s x) k = k (.str x) := rfl
theorem hx_i {e : Exn} {x : Int} {k : D → Prop} : hxW S e (.i x) k = k (.int x) := rfl
theorem hx_n {e : Exn} {k : D → Prop} : hxW S e .n k = k .none := rfl
theorem hx_fld {f : Str} {c : Nat} {d : D} {g : Str} {k : D → Prop} : hxW S ⟨c, some (g, d)⟩ (.fld f) k = (g = f ∧ k d) := rfl
theorem hx_isA {e : Exn} {cs : List Nat} {k : D → Prop} : hxW S e (.isA cs) k = k (.bool (cs.any fun c => S e.cls c)) := rfl
theorem hx_nt {e : Exn} {a : Hx} {k : D → Prop} : hxW S e (.nt a) k = hxW S e a (fun d => (match d with | .bool b => k (.bool (!b)) | _ => False)) := rfl
theorem hx_and {e : Exn} {a b : Hx} {k : D → Prop} : hxW S e (.and a b) k = hxW S e a (fun d => (match d with | .bool c => (if c = true then hxW S e b k else k (.bool false)) | _ => False)) := rfl
theorem hx_ite {e : Exn} {t a b : Hx} {k : D → Prop} : hxW S e (.ite t a b) k = hxW S e t (fun d => (match d with | .bool c => (if c = true then hxW S e a k else hxW S e b k) | _ => False)) := rfl
theorem hx_lst {e : Exn} {hs : Hxs} {k : D → Prop} : hxW S e (.lst hs) k = hxsW S e hs (fun ds => k (.list ds)) := rfl
theorem hx_tup {e : Exn} {hs : Hxs} {k : D → Prop} : hxW S e (.tup hs) k = hxsW S e hs (fun ds => k (.tuple ds)) := rfl
theorem hxs_nil {e : Exn} {k : List D → Prop} : hxsW S e .nil k = k [] := rfl
theorem hxs_cons {e : Exn} {h : Hx} {hs : Hxs} {k : List D → Prop} : hxsW S e (.cons h hs) k = hxW S e h (fun d => hxsW S e hs (fun ds => k (d :: ds))) := rfl
theorem ra_none {ds : List D} : raisA none ds = none := rfl
theorem ra_some {f : Str} {d : D} : raisA (some f) [d] = some (f, d) := rfl
theorem s_pass : stW C S .pass r K = K.nx r := rfl
theorem s_brk : stW C S .brk r K = K.bk r := rfl
theorem s_cont : stW C S .cont r K = K.ct r := rfl
theorem s_tri {b : Sts} {hs : Hds} : stW C S (.tri b hs) r K = stsW C S b r { K with ex := fun e r1 => hdW S K e r1 hs } := rfl
/-- a while loop with an invariant and a measure -/
theorem whl_inv {t : En → (Bool → En → Prop) → Prop} {b : En → (En → Prop) → Prop} {nx : En → Prop} {r : En} (P : Nat → En → Prop) {m : Nat} (h0 : P m r) (h : ∀ m r, P m r → t r fun c r1 => if c = true then b r1 fun r2 => ∃ m', m' < m ∧ P m' r2 else nx r1) : whlW t b nx r := ⟨P, ⟨m, h0⟩, h⟩
end
end G

set_option linter.all false
set_option maxRecDepth 100000
set_option Elab.async false
/-! Pz: more words for plain laws: slices from behind, places, items of lists, equality. -/
namespace G
open PySem
theorem sIx_neg {n d k : Nat} (hk : 0 < k) : HT.sIx n d (some (-(k : Int))) = n - k := by
  show (if (-(k : Int)) < 0 then ((-(k : Int)) + (n : Int)).toNat else min (-(k : Int)).toNat n) = n - k
  rw [if_pos (by omega)]
  omega
theorem cut_toneg {xs : List D} {k : Nat} (hk : 0 < k) : cutD xs none (some (-(k : Int))) = xs.take (xs.length - k) := by
  unfold cutD
  rw [HT.sIx_none, sIx_neg hk, List.drop_zero, Nat.sub_zero]
theorem cut_m1 {xs : List D} : cutD xs none (some (-1)) = xs.take (xs.length - 1) := cut_toneg (k := 1) (by decide)
theorem cut_fromneg {xs : List D} {k : Nat} (hk : 0 < k) : cutD xs (some (-(k : Int))) none = xs.drop (xs.length - k) := by
  unfold cutD
  rw [HT.sIx_none, sIx_neg hk]
  exact List.take_of_length_le (by rw [List.length_drop]; omega)
theorem cut_m2 {xs : List D} : cutD xs (some (-2)) none = xs.drop (xs.length - 2) := cut_fromneg (k := 2) (by decide)
theorem at_neg {xs : List D} {k : Nat} {d : D} (hk : 0 < k) (h2 : k ≤ xs.length) (h : xs[xs.length - k]? = some d) : atD xs (-(k : Int)) = some d := by
  unfold atD L2.atI L2.ixN
  rw [if_neg (by omega), if_pos (by omega)]
  show xs[((-(k : Int)) + xs.length).toNat]? = some d
  rw [show ((-(k : Int)) + (xs.length : Int)).toNat = xs.length - k by omega]
  exact h
theorem at_nat' {xs : List D} {k : Nat} {d : D} (h : xs[k]? = some d) : atD xs (k : Int) = some d := L2.atI_nat h
theorem at_int {ns : List Int} {k : Nat} (hk : k < ns.length) : atD (ns.map .int) (k : Int) = some (.int ns[k]) := L2.atI_nat (by rw [List.getElem?_map, List.getElem?_eq_getElem hk]; rfl)
theorem rep_ints0 {k : Nat} {ns : List Int} : (List.replicate k (ns.map PyData.int)).flatten = ((List.replicate k ns).flatten).map PyData.int := by
  rw [List.map_flatten, List.map_replicate]
theorem fmod_nat (a b : Nat) : ((a : Int)).fmod (b : Int) = ((a % b : Nat) : Int) := by
  rw [Int.fmod_eq_emod_of_nonneg _ (by omega)]; rfl
theorem fdiv_nat (a b : Nat) : ((a : Int)).fdiv (b : Int) = ((a / b : Nat) : Int) := by
  rw [Int.fdiv_eq_ediv_of_nonneg _ (by omega)]; rfl
/-! all items of a list -/
def All (P : D → Prop) (ds : List D) : Prop := ∀ x ∈ ds, P x
section
variable {P : D → Prop} {xs ys : List D}
theorem All.nil : All P [] := by intro x hx; cases hx
theorem All.cons {x : D} (h : P x) (h2 : All P xs) : All P (x :: xs) := by
  intro y hy
  rcases List.mem_cons.mp hy with rfl | hy
  · exact h
  · exact h2 y hy
theorem All.app (h : All P xs) (h2 : All P ys) : All P (xs ++ ys) := fun x hx => (List.mem_append.mp hx).elim (h x) (h2 x)
theorem All.take (h : All P xs) {k : Nat} : All P (xs.take k) := fun x hx => h x (List.mem_of_mem_take hx)
theorem All.drop (h : All P xs) {k : Nat} : All P (xs.drop k) := fun x hx => h x (List.mem_of_mem_drop hx)
theorem All.rev (h : All P xs) : All P xs.reverse := fun x hx => h x (List.mem_reverse.mp hx)
theorem All.rep (h : All P xs) {k : Nat} : All P (List.replicate k xs).flatten := by
  intro x hx
  obtain ⟨l, hl, hx⟩ := List.mem_flatten.mp hx
  rw [(List.mem_replicate.mp hl).2] at hx
  exact h x hx
theorem All.mono {Q : D → Prop} (h : All P xs) (f : ∀ x, P x → Q x) : All Q xs := fun x hx => f x (h x hx)
end
theorem rep_len {α : Type} {k : Nat} {xs : List α} : (List.replicate k xs).flatten.length = k * xs.length := by
  rw [List.length_flatten, List.map_replicate, List.sum_replicate_nat]
end G
namespace G
open PySem
theorem bi_isT {d : D} {K : Rz → Prop} : biW .isTuple [d] K = (ND d ∧ K (.val (.bool (isD .isTuple d)))) := rfl
theorem bi_isI {d : D} {K : Rz → Prop} : biW .isInt [d] K = (ND d ∧ K (.val (.bool (isD .isInt d)))) := rfl
theorem bi_isB {d : D} {K : Rz → Prop} : biW .isBool [d] K = (ND d ∧ K (.val (.bool (isD .isBool d)))) := rfl
theorem bi_isS {d : D} {K : Rz → Prop} : biW .isStr [d] K = (ND d ∧ K (.val (.bool (isD .isStr d)))) := rfl
theorem bi_isL {d : D} {K : Rz → Prop} : biW .isList [d] K = (ND d ∧ K (.val (.bool (isD .isList d)))) := rfl
theorem range_get {lo : Int} {n i : Nat} {d : D} (h : (rangeD lo n)[i]? = some d) : i < n ∧ d = .int (lo + i) := by
  have hi : i < n := by
    have := (List.getElem?_eq_some_iff.mp h).1
    unfold rangeD at this
    simpa using this
  refine ⟨hi, ?_⟩
  unfold rangeD at h
  rw [List.getElem?_map, List.getElem?_range hi] at h
  cases h
  rfl
theorem rangeD_len {lo : Int} {n : Nat} : (rangeD lo n).length = n := by unfold rangeD; rw [List.length_map, List.length_range]
theorem enum_get {ds : List D} {i : Nat} {d : D} (h : (enumD ds)[i]? = some d) : ∃ x, ds[i]? = some x ∧ d = .tuple [.int (i : Int), x] := by
  unfold enumD at h
  rw [List.getElem?_mapIdx] at h
  cases e : ds[i]? with
  | none => rw [e] at h; cases h
  | some x => rw [e] at h; cases h; exact ⟨x, rfl, rfl⟩
end G
namespace G
open PySem
theorem eqw_int {i j : Int} {K : Bool → Prop} : eqW (.int i) (.int j) K = K (decide (i = j)) := rfl
theorem eqw_str {i j : Str} {K : Bool → Prop} : eqW (.str i) (.str j) K = K (decide (i = j)) := rfl
theorem eqw_tup {xs : List D} {b : D} {K : Bool → Prop} : eqW (.tuple xs) b K = (shaped (.tuple xs) ∧ shaped b ∧ K (PyData.eqv (.tuple xs) b)) := rfl
theorem eqw_lst {xs : List D} {b : D} {K : Bool → Prop} : eqW (.list xs) b K = (shaped (.list xs) ∧ shaped b ∧ K (PyData.eqv (.list xs) b)) := rfl
theorem asInts_map : ∀ ns : List Int, asInts (ns.map .int) = some ns
  | [] => rfl
  | n :: ns => by
    show (asInts (ns.map PyData.int)).map (n :: ·) = _
    rw [asInts_map ns]
    rfl
theorem asBools_map : ∀ ns : List Bool, asBools (ns.map .bool) = some ns
  | [] => rfl
  | n :: ns => by
    show (asBools (ns.map PyData.bool)).map (n :: ·) = _
    rw [asBools_map ns]
    rfl
theorem eqv_pair {a b c d : Int} : PyData.eqv (.tuple [.int a, .int b]) (.tuple [.int c, .int d]) = decide ((a, b) = (c, d)) := by
  simp only [PyData.eqv, PyData.eqvAll, Bool.and_true, Prod.mk.injEq, Bool.decide_and]
  rfl
theorem shaped_pair {a b : Int} : shaped (.tuple [.int a, .int b]) = True := eq_true (show SeqAt.shaped _ = true from rfl)
end G
namespace G
open PySem
/-- a comprehension over a list that is a picture -/
theorem turns_pic {α : Type} {f : D → En → (Option D → En → Prop) → Prop} {r : En} (e h : α → D) : ∀ {xs : List α} {acc : List D} {K : List D → En → Prop}, (∀ x ∈ xs, ∀ k : Option D → En → Prop, k (some (h x)) r → f (e x) r k) → K (acc ++ xs.map h) r → turns f (xs.map e) acc r K
  | [], acc, K, _, q => by
    unfold turns
    simpa using q
  | x :: xs, acc, K, hs, q => by
    show turns f (e x :: xs.map e) acc r K
    unfold turns
    refine hs x List.mem_cons_self _ ?_
    refine turns_pic e h (fun y hy => hs y (List.mem_cons_of_mem _ hy)) ?_
    rw [List.append_assoc]
    exact q
end G
namespace G
open PySem
/-- the same, with a test -/
theorem turns_pic' {α : Type} {f : D → En → (Option D → En → Prop) → Prop} {r : En} (p : α → Bool) (e h : α → D) : ∀ {xs : List α} {acc : List D} {K : List D → En → Prop}, (∀ x ∈ xs, ∀ k : Option D → En → Prop, (p x = true → k (some (h x)) r) → (p x = false → k none r) → f (e x) r k) → K (acc ++ (xs.filter p).map h) r → turns f (xs.map e) acc r K
  | [], acc, K, _, q => by
    unfold turns
    simpa using q
  | x :: xs, acc, K, hs, q => by
    show turns f (e x :: xs.map e) acc r K
    unfold turns
    have tl : ∀ y ∈ xs, ∀ k : Option D → En → Prop, (p y = true → k (some (h y)) r) → (p y = false → k none r) → f (e y) r k := fun y hy => hs y (List.mem_cons_of_mem _ hy)
    refine hs x List.mem_cons_self _ (fun hp => ?_) fun hp => ?_
    · rw [List.filter_cons_of_pos hp] at q
      refine turns_pic' p e h tl ?_
      rw [List.append_assoc]
      exact q
    · rw [List.filter_cons_of_neg (by rw [hp]; decide)] at q
      exact turns_pic' p e h tl q
end G

set_option linter.all false
set_option maxRecDepth 100000
set_option Elab.async false
/-! Pw: shapes of lists, equality of pictures, the last place. -/
namespace G
open PySem
theorem canAll {ds : List D} (h : ∀ d ∈ ds, d.canLay0 = true) : PyData.canLayAll0 ds = true := by
  induction ds with
  | nil => rfl
  | cons d ds ih => simp only [PyData.canLayAll0, h d List.mem_cons_self, ih fun x hx => h x (List.mem_cons_of_mem _ hx), Bool.and_self]
theorem depAll {n : Nat} {ds : List D} (h : ∀ d ∈ ds, d.depth ≤ n) : PyData.depthAll ds ≤ n := by
  induction ds with
  | nil => exact Nat.zero_le _
  | cons d ds ih =>
    simp only [PyData.depthAll]
    exact Nat.max_le.mpr ⟨h d List.mem_cons_self, ih fun x hx => h x (List.mem_cons_of_mem _ hx)⟩
/-- may be compared, n deep -/
def Shp (n : Nat) (d : D) : Prop := d.canLay0 = true ∧ d.depth ≤ n
theorem shp_lst {n : Nat} {ds : List D} (h : ∀ d ∈ ds, Shp n d) : Shp (n + 1) (.list ds) := by
  refine ⟨by simp only [PyData.canLay0]; exact canAll fun d hd => (h d hd).1, ?_⟩
  simp only [PyData.depth]
  have := depAll fun d hd => (h d hd).2
  omega
theorem shp_tup {n : Nat} {ds : List D} (h : ∀ d ∈ ds, Shp n d) : Shp (n + 1) (.tuple ds) := by
  refine ⟨by simp only [PyData.canLay0]; exact canAll fun d hd => (h d hd).1, ?_⟩
  simp only [PyData.depth]
  have := depAll fun d hd => (h d hd).2
  omega
theorem shp_int {i : Int} : Shp 0 (.int i) := ⟨rfl, Nat.le_refl _⟩
theorem Shp.ok {n : Nat} {d : D} (h : Shp n d) (hn : n ≤ 64) : shaped d := by
  show SeqAt.shaped d = true
  unfold SeqAt.shaped
  rw [Bool.and_eq_true]
  exact ⟨h.1, decide_eq_true (Nat.le_trans h.2 hn)⟩
theorem Shp.mono {n m : Nat} {d : D} (h : Shp n d) (hn : n ≤ m) : Shp m d := ⟨h.1, Nat.le_trans h.2 hn⟩
theorem mem_map_all {α : Type} {f : α → D} {P : D → Prop} {xs : List α} (h : ∀ x ∈ xs, P (f x)) : ∀ d ∈ xs.map f, P d := fun d hd => by
  obtain ⟨x, hx, rfl⟩ := List.mem_map.mp hd
  exact h x hx
theorem eqvAll_map {α : Type} [DecidableEq α] {f : α → D} (hf : ∀ a b, PyData.eqv (f a) (f b) = decide (a = b)) : ∀ xs ys : List α, PyData.eqvAll (xs.map f) (ys.map f) = decide (xs = ys)
  | [], [] => rfl
  | x :: xs, y :: ys => by
    simp only [List.map_cons, PyData.eqvAll, hf, eqvAll_map hf xs ys, List.cons.injEq, Bool.decide_and]
  | [], _ :: _ => rfl
  | _ :: _, [] => rfl
theorem eqv_nil (xs : List D) : PyData.eqv (.list xs) (.list []) = xs.isEmpty := by
  cases xs <;> simp only [PyData.eqv, PyData.eqvAll, List.isEmpty_nil, List.isEmpty_cons]
theorem eqv_int (a b : Int) : PyData.eqv (.int a) (.int b) = decide (a = b) := by simp only [PyData.eqv]; rfl
theorem at_last {xs : List D} {d : D} : atD (xs ++ [d]) (-1) = some d := at_neg (k := 1) (by decide) (by rw [List.length_append, List.length_singleton]; omega) (by simp)
theorem ixN_last {n : Nat} : L2.ixN (n + 1) (-1) = some n := by
  unfold L2.ixN
  rw [if_neg (by decide), if_pos (by omega)]
  congr 1
  omega
theorem set_last {xs : List D} {d e : D} : (xs ++ [d]).set xs.length e = xs ++ [e] := by simp
theorem turns_flt {f : D → En → (Option D → En → Prop) → Prop} {r : En} (p : D → Bool) (h : D → D) {xs acc : List D} {K : List D → En → Prop} (hs : ∀ x ∈ xs, ∀ k : Option D → En → Prop, (p x = true → k (some (h x)) r) → (p x = false → k none r) → f x r k) (q : K (acc ++ (xs.filter p).map h) r) : turns f xs acc r K := by
  have := turns_pic' p (fun d => d) h (xs := xs) (acc := acc) (K := K) hs q
  rw [List.map_id'] at this
  exact this
theorem turns_all {f : D → En → (Option D → En → Prop) → Prop} {r : En} (h : D → D) {xs acc : List D} {K : List D → En → Prop} (hs : ∀ x ∈ xs, ∀ k : Option D → En → Prop, k (some (h x)) r → f x r k) (q : K (acc ++ xs.map h) r) : turns f xs acc r K := by
  have := turns_pic (fun d => d) h (xs := xs) (acc := acc) (K := K) hs q
  rw [List.map_id'] at this
  exact this
/-- the statements behind the first one -/
def stTl : Sts → Sts | .cons _ ss => ss | .nil => .nil
theorem stTl_c {s : St} {ss : Sts} : stTl (.cons s ss) = ss := rfl
theorem forL_c {f : D → En → (En → Prop) → Prop} {nx : En → Prop} {d : D} {ds : List D} {r : En} : forL f nx (d :: ds) r = f d r fun r1 => forL f nx ds r1 := rfl
theorem forL_n {f : D → En → (En → Prop) → Prop} {nx : En → Prop} {r : En} : forL f nx [] r = nx r := rfl
theorem turns_c {f : D → En → (Option D → En → Prop) → Prop} {d : D} {ds acc : List D} {r : En} {K : List D → En → Prop} : turns f (d :: ds) acc r K = f d r fun o r1 => (match o with | some x => turns f ds (acc ++ [x]) r1 K | none => turns f ds acc r1 K) := rfl
theorem turns_n {f : D → En → (Option D → En → Prop) → Prop} {acc : List D} {r : En} {K : List D → En → Prop} : turns f [] acc r K = K acc r := rfl
theorem Val.rep {dp m : Nat} {d : D} (v : Val dp m d) (h1 : dp ≤ 64) (h2 : m ≤ 16777216) : d.showable = true ∧ d.depth ≤ 64 ∧ ND d ∧ d.shown.length ≤ SZ := ⟨v.sh, Nat.le_trans v.dp h1, .inl v.nd, Nat.le_trans v.ln h2⟩
theorem Val.rp {dp m : Nat} {d : D} {P : Prop} (h : Val dp m d) (h1 : dp ≤ 64) (h2 : m ≤ SZ) (q : P) : d.showable = true ∧ d.depth ≤ 64 ∧ ND d ∧ d.shown.length ≤ SZ ∧ P := ⟨h.sh, Nat.le_trans h.dp h1, .inl h.nd, Nat.le_trans h.ln h2, q⟩
/-- may be shown: plain, or {} -/
def Shn (m : Nat) (d : D) : Prop := Val 60 m d ∨ d = .dict []
theorem Shn.rp {m : Nat} {d : D} {P : Prop} (h : Shn m d) (h2 : m ≤ SZ) (q : P) : d.showable = true ∧ d.depth ≤ 64 ∧ ND d ∧ d.shown.length ≤ SZ ∧ P := by
  rcases h with h | rfl
  · exact h.rp (by decide) h2 q
  · exact ⟨rfl, by decide, .inr rfl, by decide, q⟩
theorem Shn.nd {m : Nat} {d : D} (h : Shn m d) : ND d := by
  rcases h with h | rfl
  · exact .inl h.nd
  · exact .inr rfl
theorem eqw_bool {a : Bool} {b : D} {K : Bool → Prop} : eqW (.bool a) b K = (shaped (.bool a) ∧ shaped b ∧ K (PyData.eqv (.bool a) b)) := rfl
theorem shaped_bool {a : Bool} : shaped (.bool a) = True := eq_true (show SeqAt.shaped _ = true from rfl)
theorem eqv_bool {a b : Bool} : PyData.eqv (.bool a) (.bool b) = (a == b) := by simp only [PyData.eqv]
def stHd : Sts → St | .cons s _ => s | .nil => .pass
theorem stHd_c {s : St} {ss : Sts} : stHd (.cons s ss) = s := rfl
def ifA : St → Sts | .ifs _ a _ => a | _ => .nil
def ifB : St → Sts | .ifs _ _ b => b | _ => .nil
theorem ifA_c {t : Ts} {a b : Sts} : ifA (.ifs t a b) = a := rfl
theorem ifB_c {t : Ts} {a b : Sts} : ifB (.ifs t a b) = b := rfl
theorem sq0 (x : Int) : 0 ≤ x * x := by
  rcases Int.lt_or_le x 0 with h | h
  · exact Int.le_of_lt (Int.mul_pos_of_neg_of_neg h h)
  · exact Int.mul_nonneg h h
theorem x_dct0 {C : Calls} {r : En} {K : Rz → En → Prop} {X : XW} : exW C .dct0 r K X = K (.val (.dict [])) r := rfl
end G

set_option linter.all false
set_option maxRecDepth 100000
namespace G19
open PySem PySem.Spec PyProof.Rows L2 G
def topS (i : Nat) : Stmt := PySem.Challenge.pw_gridfields_k19_whole_nearest_fractions.main.body.getD i (.Pass ⟨0, 0, 0, 0⟩)
def d0_1 : Sts := (.cons (.par [0, 1] (.cons (.v 1) (.cons (.bin .mod (.v 0) (.v 1)) .nil))) .nil)
abbrev st0 : Stmt := topS 13
/-- _law_gcd -/
def d0 : Df := { nm := "_law_gcd", ps := ["a", "b"], N := ["a", "b"], b := (.cons (.par [0, 1] (.cons (.bi .abs (.cons (.v 0) .nil)) (.cons (.bi .abs (.cons (.v 1) .nil)) .nil))) (.cons (.whl (.e (.cmp .gt (.v 1) (.i (0)))) d0_1) (.cons (.ret (.v 0)) .nil))) }
abbrev st1 : Stmt := topS 15
/-- _law_lowest -/
def d1 : Df := { nm := "_law_lowest", ps := ["above", "below"], N := ["above", "below", "divisor"], b := (.cons (.set 2 (.call 0 (.cons (.v 0) (.cons (.v 1) .nil)))) (.cons (.ret (.tup (.cons (.bin .fdiv (.v 0) (.v 2)) (.cons (.bin .fdiv (.v 1) (.v 2)) .nil)))) .nil)) }
abbrev st2 : Stmt := topS 10
/-- _law_draw -/
def d2 : Df := { nm := "_law_draw", ps := ["deck", "many"], N := ["deck", "many", "one", "two", "whole"], b := (.cons (.ifs (.e (.cmp .lt (.v 1) (.i (2)))) (.cons (.ret (.i (0))) .nil) .nil) (.cons (.ifs (.e (.jn (.fld 0 (.inr "deep")))) (.cons (.set 4 (.jp (.fld 0 (.inr "deep")) false)) (.cons (.ifs (.e (.cmp .ge (.v 4) (.v 1))) (.cons (.ja (.fld 0 (.inr "deep")) (.bin .fdiv (.v 4) (.v 1))) .nil) .nil) (.cons (.ret (.bin .mod (.bi .int (.cons (.v 4) .nil)) (.v 1))) .nil))) .nil) (.cons (.set 2 (.bin .mod (.bi .int (.cons (.bin .add (.bin .mul (.jg 0 (.inr "state")) (.i (1181783497276652981))) (.i (88172645463325))) .nil)) (.i (2305843009213693951)))) (.cons (.js 0 (.inr "state") (.v 2)) (.cons (.set 3 (.bin .mod (.bi .int (.cons (.bin .add (.bin .add (.bin .mul (.v 2) (.v 2)) (.bin .mul (.i (374761393)) (.v 2))) (.i (11))) .nil)) (.i (2305843009213693921)))) (.cons (.ret (.bin .mod (.bi .int (.cons (.bin .fdiv (.v 3) (.i (1048576))) .nil)) (.v 1))) .nil)))))) }
abbrev st3 : Stmt := topS 11
/-- _law_pick -/
def d3 : Df := { nm := "_law_pick", ps := ["deck", "some"], N := ["deck", "some"], b := (.cons (.ret (.ix (.v 1) (.call 2 (.cons (.v 0) (.cons (.bi .len (.cons (.v 1) .nil)) .nil))))) .nil) }
abbrev st4 : Stmt := topS 4
/-- moved_on -/
def d4 : Df := { nm := "moved_on", ps := ["one", "other", "over", "under", "most"], N := ["one", "other", "over", "under", "most", "p", "q", "s", "t", "own", "far", "often"], b := (.cons (.unp (.t (.cons (.t (.cons (.v 5) (.cons (.v 6) .nil))) (.cons (.t (.cons (.v 7) (.cons (.v 8) .nil))) .nil))) (.tup (.cons (.v 0) (.cons (.v 1) .nil)))) (.cons (.par [9, 10] (.cons (.bi .abs (.cons (.bin .sub (.bin .mul (.v 2) (.v 6)) (.bin .mul (.v 5) (.v 3))) .nil)) (.cons (.bi .abs (.cons (.bin .sub (.bin .mul (.v 7) (.v 3)) (.bin .mul (.v 2) (.v 8))) .nil)) .nil))) (.cons (.set 11 (.bi .min2 (.cons (.bin .fdiv (.v 9) (.v 10)) (.cons (.bin .fdiv (.bin .sub (.v 4) (.v 6)) (.v 8)) .nil)))) (.cons (.ret (.tup (.cons (.bin .add (.v 5) (.bin .mul (.v 11) (.v 7))) (.cons (.bin .add (.v 6) (.bin .mul (.v 11) (.v 8))) .nil)))) .nil)))) }
def d5_1 : Sts := (.cons (.set 5 (.tup (.cons (.v 3) (.cons (.v 4) .nil)))) (.cons (.set 3 (.call 4 (.cons (.v 3) (.cons (.v 4) (.cons (.v 0) (.cons (.v 1) (.cons (.v 2) .nil))))))) (.cons (.set 4 (.call 4 (.cons (.v 4) (.cons (.v 3) (.cons (.v 0) (.cons (.v 1) (.cons (.v 2) .nil))))))) .nil)))
abbrev st5 : Stmt := topS 5
/-- near_fractions -/
def d5 : Df := { nm := "near_fractions", ps := ["over", "under", "most"], N := ["over", "under", "most", "low", "high", "last"], b := (.cons (.ifs (.e (.cmp .le (.v 1) (.v 2))) (.cons (.ret (.tup (.cons (.tup (.cons (.v 0) (.cons (.v 1) .nil))) (.cons (.tup (.cons (.v 0) (.cons (.v 1) .nil))) .nil)))) .nil) .nil) (.cons (.par [3, 4, 5] (.cons (.tup (.cons (.bin .fdiv (.v 0) (.v 1)) (.cons (.i (1)) .nil))) (.cons (.tup (.cons (.bin .add (.bin .fdiv (.v 0) (.v 1)) (.i (1))) (.cons (.i (1)) .nil))) (.cons .n .nil)))) (.cons (.whl (.e (.cmp .ne (.v 5) (.tup (.cons (.v 3) (.cons (.v 4) .nil))))) d5_1) (.cons (.ret (.tup (.cons (.v 3) (.cons (.v 4) .nil)))) .nil)))) }
abbrev st6 : Stmt := topS 12
/-- _law_same -/
def d6 : Df := { nm := "_law_same", ps := ["told", "due"], N := ["told", "due"], b := (.cons (.ret (.cmp .eq (.bi .repr (.cons (.v 0) .nil)) (.bi .repr (.cons (.v 1) .nil)))) .nil) }
abbrev st7 : Stmt := topS 18
/-- _law_is_fraction -/
def d7 : Df := { nm := "_law_is_fraction", ps := ["value"], N := ["value", "item"], b := (.cons (.ifs (.or (.nt (.e (.bi .isTuple (.cons (.v 0) .nil)))) (.e (.cmp .ne (.bi .len (.cons (.v 0) .nil)) (.i (2))))) (.cons (.ret (.b false)) .nil) .nil) (.cons (.ifs (.e (.cmp .ne (.comp (.v 1) (.v 1) (.e (.v 0)) (.or (.nt (.e (.bi .isInt (.cons (.v 1) .nil)))) (.e (.bi .isBool (.cons (.v 1) .nil)))) [("item", 1)]) (.lst .nil))) (.cons (.ret (.b false)) .nil) .nil) (.cons (.ret (.and (.cmp .gt (.ix (.v 0) (.i (1))) (.i (0))) (.cmp .eq (.call 0 (.cons (.ix (.v 0) (.i (0))) (.cons (.ix (.v 0) (.i (1))) .nil))) (.i (1))))) .nil))) }
abbrev st8 : Stmt := topS 14
/-- _law_is_less -/
def d8 : Df := { nm := "_law_is_less", ps := ["one", "other"], N := ["one", "other"], b := (.cons (.ret (.cmp .lt (.bin .mul (.ix (.v 0) (.i (0))) (.ix (.v 1) (.i (1)))) (.bin .mul (.ix (.v 1) (.i (0))) (.ix (.v 0) (.i (1)))))) .nil) }
abbrev st9 : Stmt := topS 17
/-- _law_is_pair -/
def d9 : Df := { nm := "_law_is_pair", ps := ["over", "under", "most", "told"], N := ["over", "under", "most", "told", "p", "q", "s", "t"], b := (.cons (.ifs (.or (.nt (.e (.bi .isTuple (.cons (.v 3) .nil)))) (.e (.cmp .ne (.bi .len (.cons (.v 3) .nil)) (.i (2))))) (.cons (.ret (.b false)) .nil) .nil) (.cons (.ifs (.or (.nt (.e (.call 7 (.cons (.ix (.v 3) (.i (0))) .nil)))) (.nt (.e (.call 7 (.cons (.ix (.v 3) (.i (1))) .nil))))) (.cons (.ret (.b false)) .nil) .nil) (.cons (.ifs (.e (.cmp .le (.v 1) (.v 2))) (.cons (.ret (.call 6 (.cons (.v 3) (.cons (.tup (.cons (.tup (.cons (.v 0) (.cons (.v 1) .nil))) (.cons (.tup (.cons (.v 0) (.cons (.v 1) .nil))) .nil))) .nil)))) .nil) .nil) (.cons (.unp (.t (.cons (.t (.cons (.v 4) (.cons (.v 5) .nil))) (.cons (.t (.cons (.v 6) (.cons (.v 7) .nil))) .nil))) (.v 3)) (.cons (.ifs (.or (.e (.cmp .gt (.v 5) (.v 2))) (.or (.e (.cmp .gt (.v 7) (.v 2))) (.or (.nt (.e (.call 8 (.cons (.tup (.cons (.v 4) (.cons (.v 5) .nil))) (.cons (.tup (.cons (.v 0) (.cons (.v 1) .nil))) .nil))))) (.nt (.e (.call 8 (.cons (.tup (.cons (.v 0) (.cons (.v 1) .nil))) (.cons (.tup (.cons (.v 6) (.cons (.v 7) .nil))) .nil)))))))) (.cons (.ret (.b false)) .nil) .nil) (.cons (.ret (.and (.cmp .eq (.bin .sub (.bin .mul (.v 6) (.v 5)) (.bin .mul (.v 4) (.v 7))) (.i (1))) (.cmp .gt (.bin .add (.v 5) (.v 7)) (.v 2)))) .nil)))))) }
def d10_1 : Sts := (.cons (.ifs (.e (.cmp .gt (.ix (.ix (.v 4) (.v 5)) (.i (1))) (.v 2))) (.cons (.ret (.tup (.cons (.s "great") (.cons (.v 5) .nil)))) .nil) .nil) .nil)
abbrev st10 : Stmt := topS 19
/-- _law_fault -/
def d10 : Df := { nm := "_law_fault", ps := ["over", "under", "most", "right", "value"], N := ["over", "under", "most", "right", "value", "k"], b := (.cons (.ifs (.or (.nt (.e (.bi .isTuple (.cons (.v 4) .nil)))) (.e (.cmp .ne (.bi .len (.cons (.v 4) .nil)) (.i (2))))) (.cons (.ret (.s "form")) .nil) .nil) (.cons (.ifs (.or (.nt (.e (.call 7 (.cons (.ix (.v 4) (.i (0))) .nil)))) (.nt (.e (.call 7 (.cons (.ix (.v 4) (.i (1))) .nil))))) (.cons (.ret (.s "form")) .nil) .nil) (.cons (.fr (.v 5) (.e (.tup (.cons (.i (0)) (.cons (.i (1)) .nil)))) d10_1) (.cons (.ifs (.or (.e (.call 8 (.cons (.tup (.cons (.v 0) (.cons (.v 1) .nil))) (.cons (.ix (.v 4) (.i (0))) .nil)))) (.e (.call 8 (.cons (.ix (.v 4) (.i (1))) (.cons (.tup (.cons (.v 0) (.cons (.v 1) .nil))) .nil))))) (.cons (.ret (.s "side")) .nil) .nil) (.cons (.ret (.ite (.e (.cmp .eq (.v 4) (.v 3))) .n (.s "far"))) .nil))))) }
abbrev st11 : Stmt := topS 20
/-- _law_bent -/
def d11 : Df := { nm := "_law_bent", ps := ["deck", "right"], N := ["deck", "right", "low", "high", "way", "further", "some"], b := (.cons (.unp (.t (.cons (.v 2) (.cons (.v 3) .nil))) (.v 1)) (.cons (.set 4 (.call 2 (.cons (.v 0) (.cons (.i (12)) .nil)))) (.cons (.set 5 (.call 2 (.cons (.v 0) (.cons (.i (5)) .nil)))) (.cons (.ifs (.e (.cmp .eq (.v 4) (.i (0)))) (.cons (.ret (.tup (.cons (.tup (.cons (.bin .sub (.bin .sub (.ix (.v 2) (.i (0))) (.i (1))) (.bin .mul (.v 5) (.ix (.v 2) (.i (1))))) (.cons (.ix (.v 2) (.i (1))) .nil))) (.cons (.v 3) .nil)))) .nil) .nil) (.cons (.ifs (.e (.cmp .eq (.v 4) (.i (1)))) (.cons (.ret (.tup (.cons (.v 2) (.cons (.tup (.cons (.bin .add (.ix (.v 3) (.i (0))) (.ix (.v 2) (.i (1)))) (.cons (.bin .add (.ix (.v 3) (.i (1))) (.i (1))) .nil))) .nil)))) .nil) .nil) (.cons (.ifs (.e (.cmp .eq (.v 4) (.i (2)))) (.cons (.ret (.tup (.cons (.v 3) (.cons (.v 2) .nil)))) .nil) .nil) (.cons (.ifs (.e (.cmp .eq (.v 4) (.i (3)))) (.cons (.ret (.tup (.cons (.tup (.cons (.bin .mul (.i (2)) (.ix (.v 2) (.i (0)))) (.cons (.bin .mul (.i (2)) (.ix (.v 2) (.i (1)))) .nil))) (.cons (.v 3) .nil)))) .nil) .nil) (.cons (.ifs (.e (.cmp .eq (.v 4) (.i (4)))) (.cons (.ret (.tup (.cons (.v 2) (.cons (.tup (.cons (.bin .add (.bin .mul (.ix (.v 3) (.i (0))) (.bin .pow (.i (10)) (.i (40)))) (.i (1))) (.cons (.bin .mul (.ix (.v 3) (.i (1))) (.bin .pow (.i (10)) (.i (40)))) .nil))) .nil)))) .nil) .nil) (.cons (.ifs (.e (.cmp .eq (.v 4) (.i (5)))) (.cons (.ret (.tup (.cons (.tup (.cons (.bin .add (.ix (.v 2) (.i (0))) (.ix (.v 3) (.i (0)))) (.cons (.bin .add (.ix (.v 2) (.i (1))) (.ix (.v 3) (.i (1)))) .nil))) (.cons (.v 3) .nil)))) .nil) .nil) (.cons (.ifs (.e (.cmp .eq (.v 4) (.i (6)))) (.cons (.ret (.tup (.cons (.v 2) (.cons (.call 1 (.cons (.bin .add (.ix (.v 2) (.i (0))) (.ix (.v 3) (.i (0)))) (.cons (.bin .add (.ix (.v 2) (.i (1))) (.ix (.v 3) (.i (1)))) .nil))) .nil)))) .nil) .nil) (.cons (.ifs (.e (.cmp .eq (.v 4) (.i (7)))) (.cons (.set 6 (.lst (.cons (.bi .list (.cons (.v 1) .nil)) (.cons (.bin .add (.v 1) (.tup (.cons (.v 3) .nil))) (.cons (.tup (.cons (.v 2) .nil)) (.cons (.v 2) (.cons .n (.cons (.s "") (.cons (.i (0)) (.cons (.tup (.cons (.v 2) (.cons (.bi .list (.cons (.v 3) .nil)) .nil))) (.cons (.tup (.cons (.v 2) (.cons .n .nil))) .nil))))))))))) (.cons (.ret (.call 3 (.cons (.v 0) (.cons (.v 6) .nil)))) .nil)) .nil) (.cons (.ifs (.e (.cmp .eq (.v 4) (.i (8)))) (.cons (.ret (.tup (.cons (.tup (.cons (.ix (.v 2) (.i (0))) (.cons (.bin .sub (.i (0)) (.ix (.v 2) (.i (1)))) .nil))) (.cons (.v 3) .nil)))) .nil) .nil) (.cons (.ifs (.e (.cmp .eq (.v 4) (.i (9)))) (.cons (.ret (.tup (.cons (.v 2) (.cons (.call 3 (.cons (.v 0) (.cons (.lst (.cons (.tup (.cons (.b true) (.cons (.i (1)) .nil))) (.cons (.tup (.cons (.ix (.v 3) (.i (0))) (.cons (.b true) .nil))) (.cons (.tup (.cons (.i (0)) (.cons (.i (1)) .nil))) (.cons (.tup (.cons (.i (0)) (.cons (.i (0)) .nil))) (.cons (.tup (.cons (.s "1") (.cons (.i (1)) .nil))) (.cons (.tup (.cons (.ix (.v 3) (.i (0))) .nil)) .nil))))))) .nil))) .nil)))) .nil) .nil) (.cons (.ifs (.e (.cmp .eq (.v 4) (.i (10)))) (.cons (.ret (.tup (.cons (.v 2) (.cons (.tup (.cons (.bin .add (.ix (.v 3) (.i (0))) (.bin .mul (.ix (.v 3) (.i (1))) (.bin .add (.i (1)) (.v 5)))) (.cons (.ix (.v 3) (.i (1))) .nil))) .nil)))) .nil) .nil) (.cons (.ret (.tup (.cons (.tup (.cons (.bin .sub (.ix (.v 2) (.i (0))) (.i (1))) (.cons (.ix (.v 2) (.i (1))) .nil))) (.cons (.tup (.cons (.bin .add (.ix (.v 3) (.i (0))) (.i (1))) (.cons (.ix (.v 3) (.i (1))) .nil))) .nil)))) .nil))))))))))))))) }
def d12_1 : Sts := (.cons (.par [6, 7] (.cons (.tup (.cons (.bin .fdiv (.bin .mul (.v 0) (.v 5)) (.v 1)) (.cons (.v 5) .nil))) (.cons (.tup (.cons (.bin .sub (.i (0)) (.bin .fdiv (.bin .sub (.i (0)) (.bin .mul (.v 0) (.v 5))) (.v 1))) (.cons (.v 5) .nil))) .nil))) (.cons (.set 3 (.ite (.e (.call 8 (.cons (.v 3) (.cons (.v 6) .nil)))) (.v 6) (.v 3))) (.cons (.set 4 (.ite (.e (.call 8 (.cons (.v 7) (.cons (.v 4) .nil)))) (.v 7) (.v 4))) .nil)))
abbrev st12 : Stmt := topS 16
/-- _law_nearest -/
def d12 : Df := { nm := "_law_nearest", ps := ["over", "under", "most"], N := ["over", "under", "most", "low", "high", "q", "below", "above"], b := (.cons (.par [3, 4] (.cons (.tup (.cons (.bin .fdiv (.v 0) (.v 1)) (.cons (.i (1)) .nil))) (.cons (.tup (.cons (.bin .sub (.i (0)) (.bin .fdiv (.bin .sub (.i (0)) (.v 0)) (.v 1))) (.cons (.i (1)) .nil))) .nil))) (.cons (.fr (.v 5) (.r2 (.i (2)) (.bin .add (.v 2) (.i (1)))) d12_1) (.cons (.ret (.tup (.cons (.call 1 (.cons (.ix (.v 3) (.i (0))) (.cons (.ix (.v 3) (.i (1))) .nil))) (.cons (.call 1 (.cons (.ix (.v 4) (.i (0))) (.cons (.ix (.v 4) (.i (1))) .nil))) .nil)))) .nil))) }
abbrev st13 : Stmt := topS 2
/-- is_number -/
def d13 : Df := { nm := "is_number", ps := ["value"], N := ["value"], b := (.cons (.ret (.and (.bi .isInt (.cons (.v 0) .nil)) (.nt (.bi .isBool (.cons (.v 0) .nil))))) .nil) }
abbrev st14 : Stmt := topS 6
/-- is_fraction -/
def d14 : Df := { nm := "is_fraction", ps := ["value"], N := ["value", "item"], b := (.cons (.ifs (.or (.nt (.e (.bi .isTuple (.cons (.v 0) .nil)))) (.or (.e (.cmp .ne (.bi .len (.cons (.v 0) .nil)) (.i (2)))) (.nt (.e (.bi .all (.cons (.comp (.call 13 (.cons (.v 1) .nil)) (.v 1) (.e (.v 0)) .yes [("item", 1)]) .nil)))))) (.cons (.ret (.b false)) .nil) .nil) (.cons (.ret (.and (.cmp .gt (.ix (.v 0) (.i (1))) (.i (0))) (.cmp .eq (.bi .gcd (.cons (.ix (.v 0) (.i (0))) (.cons (.ix (.v 0) (.i (1))) .nil))) (.i (1))))) .nil)) }
def d15_1 : Sts := (.cons (.ifs (.e (.cmp .gt (.v 6) (.v 2))) (.cons (.ret (.tup (.cons (.s "great") (.cons (.v 4) .nil)))) .nil) .nil) .nil)
abbrev st15 : Stmt := topS 7
/-- near_fractions_error -/
def d15 : Df := { nm := "near_fractions_error", ps := ["over", "under", "most", "value"], N := ["over", "under", "most", "value", "place", "above", "below", "low", "high", "item"], b := (.cons (.ifs (.or (.nt (.e (.bi .isTuple (.cons (.v 3) .nil)))) (.or (.e (.cmp .ne (.bi .len (.cons (.v 3) .nil)) (.i (2)))) (.nt (.e (.bi .all (.cons (.comp (.call 14 (.cons (.v 9) .nil)) (.v 9) (.e (.v 3)) .yes [("item", 9)]) .nil)))))) (.cons (.ret (.s "form")) .nil) .nil) (.cons (.fr (.t (.cons (.v 4) (.cons (.t (.cons (.v 5) (.cons (.v 6) .nil))) .nil))) (.en (.v 3)) d15_1) (.cons (.unp (.t (.cons (.v 7) (.cons (.v 8) .nil))) (.v 3)) (.cons (.ifs (.or (.e (.cmp .gt (.bin .mul (.ix (.v 7) (.i (0))) (.v 1)) (.bin .mul (.v 0) (.ix (.v 7) (.i (1)))))) (.e (.cmp .lt (.bin .mul (.ix (.v 8) (.i (0))) (.v 1)) (.bin .mul (.v 0) (.ix (.v 8) (.i (1))))))) (.cons (.ret (.s "side")) .nil) .nil) (.cons (.ret (.ite (.e (.cmp .eq (.v 3) (.call 5 (.cons (.v 0) (.cons (.v 1) (.cons (.v 2) .nil)))))) .n (.s "far"))) .nil))))) }
def d16_1 : Sts := (.cons (.set 8 (.call 10 (.cons (.v 1) (.cons (.v 2) (.cons (.v 3) (.cons (.v 4) (.cons (.v 7) .nil))))))) (.cons (.ifs (.nt (.e (.call 6 (.cons (.call 15 (.cons (.v 1) (.cons (.v 2) (.cons (.v 3) (.cons (.v 7) .nil))))) (.cons (.v 8) .nil))))) (.cons (.ret (.b false)) .nil) .nil) (.cons (.ifs (.nt (.e (.call 6 (.cons (.callk 15 .nil (.cons (.v 7) (.cons (.v 3) (.cons (.v 2) (.cons (.v 1) .nil)))) [3, 2, 1, 0]) (.cons (.v 8) .nil))))) (.cons (.ret (.b false)) .nil) .nil) .nil)))
abbrev st16 : Stmt := topS 21
/-- _law_is_right -/
def d16 : Df := { nm := "_law_is_right", ps := ["deck", "over", "under", "most"], N := ["deck", "over", "under", "most", "told", "values", "kept", "value", "due", "turn"], b := (.cons (.set 4 (.call 5 (.cons (.v 1) (.cons (.v 2) (.cons (.v 3) .nil))))) (.cons (.ifs (.nt (.e (.call 9 (.cons (.v 1) (.cons (.v 2) (.cons (.v 3) (.cons (.v 4) .nil))))))) (.cons (.ret (.b false)) .nil) .nil) (.cons (.ifs (.and (.e (.cmp .le (.v 3) (.i (70)))) (.nt (.e (.call 6 (.cons (.v 4) (.cons (.call 12 (.cons (.v 1) (.cons (.v 2) (.cons (.v 3) .nil)))) .nil)))))) (.cons (.ret (.b false)) .nil) .nil) (.cons (.ifs (.nt (.e (.call 6 (.cons (.callk 5 .nil (.cons (.v 3) (.cons (.v 2) (.cons (.v 1) .nil))) [2, 1, 0]) (.cons (.v 4) .nil))))) (.cons (.ret (.b false)) .nil) .nil) (.cons (.set 5 (.bin .add (.lst (.cons (.v 4) .nil)) (.comp (.call 11 (.cons (.v 0) (.cons (.v 4) .nil))) (.v 9) (.r1 (.i (7))) .yes [("turn", 9)]))) (.cons (.set 6 (.bi .repr (.cons (.v 5) .nil))) (.cons (.fr (.v 7) (.e (.v 5)) d16_1) (.cons (.ret (.cmp .eq (.bi .repr (.cons (.v 5) .nil)) (.v 6))) .nil)))))))) }
def bL_1 : Sts := (.cons (.set 3 (.ite (.e (.cmp .lt (.v 2) (.i (4)))) (.call 3 (.cons (.v 1) (.cons (.lst (.cons (.i (9)) (.cons (.i (40)) (.cons (.i (400)) (.cons (.bin .pow (.i (10)) (.i (40))) .nil))))) .nil))) (.bin .pow (.i (10)) (.i (40))))) (.cons (.par [4, 5] (.cons (.bin .sub (.call 2 (.cons (.v 1) (.cons (.bin .add (.bin .mul (.i (2)) (.v 3)) (.i (1))) .nil))) (.v 3)) (.cons (.bin .add (.i (1)) (.call 2 (.cons (.v 1) (.cons (.v 3) .nil)))) .nil))) (.cons (.unp (.t (.cons (.v 4) (.cons (.v 5) .nil))) (.call 1 (.cons (.v 4) (.cons (.v 5) .nil)))) (.cons (.set 6 (.lst (.cons (.i (1)) (.cons (.i (2)) (.cons (.bin .add (.i (1)) (.call 2 (.cons (.v 1) (.cons (.i (60)) .nil)))) (.cons (.v 5) (.cons (.bi .max2 (.cons (.i (1)) (.cons (.bin .sub (.v 5) (.i (1))) .nil))) (.cons (.bin .add (.v 5) (.i (1))) (.cons (.bin .add (.i (1)) (.call 2 (.cons (.v 1) (.cons (.v 5) .nil)))) .nil))))))))) (.cons (.set 7 (.bi .min2 (.cons (.bin .pow (.i (10)) (.i (40))) (.cons (.call 3 (.cons (.v 1) (.cons (.bin .add (.v 6) (.lst (.cons (.bin .pow (.i (10)) (.i (40))) (.cons (.bin .add (.i (1)) (.call 2 (.cons (.v 1) (.cons (.bin .pow (.i (10)) (.i (20))) .nil)))) .nil)))) .nil))) .nil)))) (.cons (.ifs (.nt (.e (.call 16 (.cons (.v 1) (.cons (.v 4) (.cons (.v 5) (.cons (.v 7) .nil))))))) (.cons (.ret (.b false)) .nil) .nil) .nil))))))
abbrev stL : Stmt := topS 22
def nL : List Str := ["script", "deck", "turn", "far", "over", "under", "some", "most"]
def bL : Sts := (.cons (.fr (.v 2) (.r1 (.i (6))) bL_1) (.cons (.ret (.b true)) .nil))
abbrev stM : Stmt := topS 9
def n0 : List Str := ["script", "seed", "deck", "cell", "whole"]
def es0 : List (Sum Int Str × Ex) := [(.inr "deep", (.lst .nil)), (.inr "state", (.bin .add (.bin .add (.i (362436069)) (.bin .mul (.v 1) (.i (7919)))) (.bi .len (.cons (.scut 0 (63)) .nil))))]
def mb0 : List Mt := [.dc (.e (.cmp .ge (.bi .abs (.cons (.v 3) .nil)) (.bin .pow (.i (10)) (.i (18))))) 2 "deep" (.bi .abs (.cons (.v 3) .nil)), .st (.set 4 (.bin .add (.bin .mul (.i (2)) (.bi .abs (.cons (.v 3) .nil))) (.bi .int (.cons (.cmp .lt (.v 3) (.i (0))) .nil)))), .st (.js 2 (.inr "state") (.bin .mod (.bi .int (.cons (.bin .add (.bin .mul (.bin .add (.bin .add (.jg 2 (.inr "state")) (.v 4)) (.i (1))) (.i (1181783497276652981))) (.i (521288629))) .nil)) (.i (2305843009213693951))))]
def mk0 : Mk := .two 2 es0 (.v 3) (.e (.scut 0 (63))) mb0
def cs0 : List Int := [19]
def dfs : List (Df × Stmt) := [(d0, st0), (d1, st1), (d2, st2), (d3, st3), (d4, st4), (d5, st5), (d6, st6), (d7, st7), (d8, st8), (d9, st9), (d10, st10), (d11, st11), (d12, st12), (d13, st13), (d14, st14), (d15, st15), (d16, st16)]
def excs : List (Str × Option Str) := []
def sub (a b : Nat) : Bool := (([] : List (List Bool)).getD a []).getD b false
def cf : Cfg := { fns := dfs.map fun p => (p.1.nm, p.1.ps), dfl := dfs.map fun p => p.1.dv, excs := excs, free := ["abs", "all", "bool", "enumerate", "int", "isinstance", "len", "list", "max", "min", "range", "repr", "tuple"], gcd := true, consts := [], jk := some true, js := false }
def cf0 : Cfg := { fns := [], free := ["abs", "int", "len"], gcd := false, consts := [], jk := none, js := true }
def mkN : Str := "_law_deck"
theorem c0 : chkDf cf d0 st0 = true := by decide +kernel
theorem c1 : chkDf cf d1 st1 = true := by decide +kernel
theorem c2 : chkDf cf d2 st2 = true := by decide +kernel
theorem c3 : chkDf cf d3 st3 = true := by decide +kernel
theorem c4 : chkDf cf d4 st4 = true := by decide +kernel
theorem c5 : chkDf cf d5 st5 = true := by decide +kernel
theorem c6 : chkDf cf d6 st6 = true := by decide +kernel
theorem c7 : chkDf cf d7 st7 = true := by decide +kernel
theorem c8 : chkDf cf d8 st8 = true := by decide +kernel
theorem c9 : chkDf cf d9 st9 = true := by decide +kernel
theorem c10 : chkDf cf d10 st10 = true := by decide +kernel
theorem c11 : chkDf cf d11 st11 = true := by decide +kernel
theorem c12 : chkDf cf d12 st12 = true := by decide +kernel
theorem c13 : chkDf cf d13 st13 = true := by decide +kernel
theorem c14 : chkDf cf d14 st14 = true := by decide +kernel
theorem c15 : chkDf cf d15 st15 = true := by decide +kernel
theorem c16 : chkDf cf d16 st16 = true := by decide +kernel
theorem cL : chkLaw cf nL mkN cs0 bL stL = true := by decide +kernel
theorem cM : chkMk cf0 n0 ["script", "seed"] mk0 stM = true := by decide +kernel
abbrev T : Tb := tbOf dfs sub
end G19

set_option linter.all false
set_option maxRecDepth 100000
/-! K19b: near fractions, in plain words. -/
namespace G19
open PySem PySem.Spec PyProof.Rows L2 G
abbrev P2 := Int × Int
def pD (p : P2) : D := .tuple [.int p.1, .int p.2]
def ppD (a b : P2) : D := .tuple [pD a, pD b]
/-- between two neighbours -/
structure Mid (o u m : Int) (L H : P2) : Prop where
  l1 : 1 ≤ L.2
  l2 : L.2 ≤ m
  h1 : 1 ≤ H.2
  h2 : H.2 ≤ m
  det : H.1 * L.2 - L.1 * H.2 = 1
  lo : L.1 * u < o * L.2
  hi : o * H.2 < H.1 * u
def Near (o u m : Int) (L H : P2) : Prop := if u ≤ m then L = (o, u) ∧ H = (o, u) else Mid o u m L H ∧ m < L.2 + H.2
theorem lt_trans' {a b c d o u : Int} (hu : 0 < u) (hb : 0 < b) (hd : 0 < d) (h1 : a * u ≤ o * b) (h2 : o * d < c * u) : a * d < c * b := by
  have e1 : a * d * u ≤ o * b * d := by
    have := Int.mul_le_mul_of_nonneg_right h1 (Int.le_of_lt hd)
    rw [Int.mul_right_comm] at this
    exact this
  have e2 : o * b * d < c * b * u := by
    have := Int.mul_lt_mul_of_pos_right h2 hb
    rw [Int.mul_right_comm o d b, Int.mul_right_comm c u b] at this
    exact this
  exact Int.lt_of_mul_lt_mul_right (Int.lt_of_le_of_lt e1 e2) (Int.le_of_lt hu)
theorem lt_trans2 {a b c d o u : Int} (hu : 0 < u) (hb : 0 < b) (hd : 0 < d) (h1 : a * u < o * b) (h2 : o * d ≤ c * u) : a * d < c * b := by
  have e1 : a * d * u < o * b * d := by
    have := Int.mul_lt_mul_of_pos_right h1 hd
    rw [Int.mul_right_comm] at this
    exact this
  have e2 : o * b * d ≤ c * b * u := by
    have := Int.mul_le_mul_of_nonneg_right h2 (Int.le_of_lt hb)
    rw [Int.mul_right_comm o d b, Int.mul_right_comm c u b] at this
    exact this
  exact Int.lt_of_mul_lt_mul_right (Int.lt_of_lt_of_le e1 e2) (Int.le_of_lt hu)
/-- nothing below is nearer -/
theorem Mid.best_lo {o u m : Int} {L H : P2} (h : Mid o u m L H) (n : m < L.2 + H.2) (hu : 0 < u) {a b : Int} (hb : 0 < b) (hm : b ≤ m) (hx : a * u ≤ o * b) : a * L.2 ≤ L.1 * b := by
  rcases Int.lt_or_le (L.1 * b) (a * L.2) with q | q
  · exfalso
    obtain ⟨p, r⟩ := L
    obtain ⟨s, t⟩ := H
    obtain ⟨l1, l2, h1, h2, det, lo, hi⟩ := h
    dsimp only at *
    have z := lt_trans' hu hb (show 0 < t by omega) hx hi
    have e : b = r * (s * b - a * t) + t * (a * r - p * b) := by
      have : b * (s * r - p * t) = b := by rw [det]; omega
      grind
    have y1 : r * 1 ≤ r * (s * b - a * t) := Int.mul_le_mul_of_nonneg_left (by omega) (by omega)
    have y2 : t * 1 ≤ t * (a * r - p * b) := Int.mul_le_mul_of_nonneg_left (by omega) (by omega)
    omega
  · exact q
theorem Mid.best_hi {o u m : Int} {L H : P2} (h : Mid o u m L H) (n : m < L.2 + H.2) (hu : 0 < u) {a b : Int} (hb : 0 < b) (hm : b ≤ m) (hx : o * b ≤ a * u) : H.1 * b ≤ a * H.2 := by
  rcases Int.lt_or_le (a * H.2) (H.1 * b) with q | q
  · exfalso
    obtain ⟨p, r⟩ := L
    obtain ⟨s, t⟩ := H
    obtain ⟨l1, l2, h1, h2, det, lo, hi⟩ := h
    dsimp only at *
    have z := lt_trans2 hu (show 0 < r by omega) hb lo hx
    have e : b = t * (a * r - p * b) + r * (s * b - a * t) := by
      have : b * (s * r - p * t) = b := by rw [det]; omega
      grind
    have y1 : t * 1 ≤ t * (a * r - p * b) := Int.mul_le_mul_of_nonneg_left (by omega) (by omega)
    have y2 : r * 1 ≤ r * (s * b - a * t) := Int.mul_le_mul_of_nonneg_left (by omega) (by omega)
    omega
  · exact q
theorem cop_dvd {o u b : Int} (h : u ∣ o * b) (g : Int.gcd u o = 1) : u ∣ b := by
  rw [← Int.natAbs_dvd_natAbs, Int.natAbs_mul] at h
  rw [← Int.natAbs_dvd_natAbs]
  rw [Nat.mul_comm] at h
  exact Nat.Coprime.dvd_of_dvd_mul_right (show Nat.Coprime u.natAbs o.natAbs from g) h
/-- equal, both in lowest terms -/
theorem low_eq {p q a b : Int} (hq : 0 < q) (hb : 0 < b) (h1 : Int.gcd p q = 1) (h2 : Int.gcd a b = 1) (e : a * q = p * b) : a = p ∧ b = q := by
  have d1 : q ∣ b := by
    have : q ∣ p * b := ⟨a, by rw [← e, Int.mul_comm]⟩
    exact cop_dvd this (by rw [Int.gcd_comm]; exact h1)
  have d2 : b ∣ q := by
    have : b ∣ a * q := ⟨p, by rw [e, Int.mul_comm]⟩
    exact cop_dvd this (by rw [Int.gcd_comm]; exact h2)
  have eb : b = q := Int.dvd_antisymm (by omega) (by omega) d2 d1
  subst eb
  exact ⟨Int.eq_of_mul_eq_mul_right (by omega) e, rfl⟩
theorem det_gcd {p q s t : Int} (h : s * q - p * t = 1) : Int.gcd p q = 1 := by
  have h1 : ((Int.gcd p q : Nat) : Int) ∣ p := Int.gcd_dvd_left ..
  have h2 : ((Int.gcd p q : Nat) : Int) ∣ q := Int.gcd_dvd_right ..
  have : ((Int.gcd p q : Nat) : Int) ∣ 1 := by
    rw [← h]
    exact Int.dvd_sub (Int.dvd_trans h2 ⟨s, Int.mul_comm ..⟩) (Int.dvd_trans h1 ⟨t, rfl⟩)
  have := Int.eq_one_of_dvd_one (by omega) this
  omega
theorem Mid.gl {o u m : Int} {L H : P2} (h : Mid o u m L H) : Int.gcd L.1 L.2 = 1 := det_gcd h.det
theorem Mid.gh {o u m : Int} {L H : P2} (h : Mid o u m L H) : Int.gcd H.1 H.2 = 1 := by
  have := det_gcd (p := -H.1) (q := H.2) (s := -L.1) (t := L.2) (by have := h.det; rw [Int.neg_mul, Int.neg_mul]; omega)
  rwa [Int.neg_gcd] at this
theorem near_unique {o u m : Int} {L H L' H' : P2} (hu : 0 < u) (h : Near o u m L H) (h' : Near o u m L' H') : L' = L ∧ H' = H := by
  unfold Near at h h'
  split at h
  · rename_i q
    rw [if_pos q] at h'
    exact ⟨h'.1.trans h.1.symm, h'.2.trans h.2.symm⟩
  · rename_i q
    rw [if_neg q] at h'
    obtain ⟨a, n⟩ := h
    obtain ⟨a', n'⟩ := h'
    have x1 := a.best_lo n hu (show 0 < L'.2 by have := a'.l1; omega) a'.l2 (Int.le_of_lt a'.lo)
    have x2 := a'.best_lo n' hu (show 0 < L.2 by have := a.l1; omega) a.l2 (Int.le_of_lt a.lo)
    have y1 := a.best_hi n hu (show 0 < H'.2 by have := a'.h1; omega) a'.h2 (Int.le_of_lt a'.hi)
    have y2 := a'.best_hi n' hu (show 0 < H.2 by have := a.h1; omega) a.h2 (Int.le_of_lt a.hi)
    have e1 := low_eq (p := L.1) (q := L.2) (a := L'.1) (b := L'.2) (by have := a.l1; omega) (by have := a'.l1; omega) a.gl a'.gl (by omega)
    have e2 := low_eq (p := H.1) (q := H.2) (a := H'.1) (b := H'.2) (by have := a.h1; omega) (by have := a'.h1; omega) a.gh a'.gh (by omega)
    exact ⟨Prod.ext e1.1 e1.2, Prod.ext e2.1 e2.2⟩
/-- one step from below -/
def stepT (a b q t m : Int) : Int := if (m - q).fdiv t < a.fdiv b then (m - q).fdiv t else a.fdiv b
theorem no_hit {o u a b : Int} (g : Int.gcd o u = 1) (hb : 0 < b) (hbu : b < u) : a * u ≠ o * b := fun e => by
  have : u ∣ o * b := ⟨a, by rw [← e, Int.mul_comm]⟩
  have := cop_dvd this (by rw [Int.gcd_comm]; exact g)
  have := Int.le_of_dvd hb this
  omega
theorem step_bd {a b q t m : Int} (ha : 0 < a) (hb : 0 < b) (hq : q ≤ m) (ht : 0 < t) : 0 ≤ stepT a b q t m ∧ stepT a b q t m * b ≤ a ∧ q + stepT a b q t m * t ≤ m := by
  have e1 : a.fdiv b = a / b := Int.fdiv_eq_ediv_of_nonneg _ (by omega)
  have e2 : (m - q).fdiv t = (m - q) / t := Int.fdiv_eq_ediv_of_nonneg _ (by omega)
  have n1 : 0 ≤ a / b := Int.ediv_nonneg (by omega) (by omega)
  have n2 : 0 ≤ (m - q) / t := Int.ediv_nonneg (by omega) (by omega)
  have m1 := Int.ediv_mul_le a (show b ≠ 0 by omega)
  have m2 := Int.ediv_mul_le (m - q) (show t ≠ 0 by omega)
  unfold stepT
  rw [e1, e2]
  split
  · have := Int.mul_le_mul_of_nonneg_right (show (m - q) / t ≤ a / b by omega) (show 0 ≤ b by omega)
    exact ⟨n2, by omega, by omega⟩
  · have := Int.mul_le_mul_of_nonneg_right (show a / b ≤ (m - q) / t by omega) (show 0 ≤ t by omega)
    exact ⟨n1, by omega, by omega⟩
theorem step_0 {a b q t m : Int} (ha : 0 < a) (hb : 0 < b) (hq : q ≤ m) (ht : 0 < t) (h : stepT a b q t m = 0) : a < b ∨ m < q + t := by
  have e1 : a.fdiv b = a / b := Int.fdiv_eq_ediv_of_nonneg _ (by omega)
  have e2 : (m - q).fdiv t = (m - q) / t := Int.fdiv_eq_ediv_of_nonneg _ (by omega)
  unfold stepT at h
  rw [e1, e2] at h
  split at h
  · have := Int.lt_ediv_add_one_mul_self (m - q) ht
    rw [h] at this
    omega
  · have := Int.lt_ediv_add_one_mul_self a hb
    rw [h] at this
    omega
theorem Mid.lowS {o u m : Int} {L H : P2} (h : Mid o u m L H) (g : Int.gcd o u = 1) (hm : m < u) : Mid o u m (L.1 + stepT (o * L.2 - L.1 * u) (H.1 * u - o * H.2) L.2 H.2 m * H.1, L.2 + stepT (o * L.2 - L.1 * u) (H.1 * u - o * H.2) L.2 H.2 m * H.2) H := by
  obtain ⟨p, r⟩ := L
  obtain ⟨s, t⟩ := H
  obtain ⟨l1, l2, h1, h2, det, lo, hi⟩ := h
  dsimp only at *
  obtain ⟨k0, k1, k2⟩ := step_bd (a := o * r - p * u) (b := s * u - o * t) (q := r) (t := t) (m := m) (by omega) (by omega) l2 (by omega)
  generalize stepT (o * r - p * u) (s * u - o * t) r t m = k at *
  have kt : 0 ≤ k * t := Int.mul_nonneg k0 (by omega)
  have ne := no_hit (a := p + k * s) g (show 0 < r + k * t by omega) (by omega)
  refine ⟨by dsimp only; omega, k2, h1, h2, ?_, ?_, hi⟩
  · dsimp only; grind
  · dsimp only
    have : (p + k * s) * u ≤ o * (r + k * t) := by
      have e1 : (p + k * s) * u = p * u + k * (s * u) := by grind
      have e2 : o * (r + k * t) = o * r + k * (o * t) := by grind
      have e3 : k * (s * u - o * t) = k * (s * u) - k * (o * t) := Int.mul_sub ..
      omega
    omega
theorem Mid.highS {o u m : Int} {L H : P2} (h : Mid o u m L H) (g : Int.gcd o u = 1) (hm : m < u) : Mid o u m L (H.1 + stepT (H.1 * u - o * H.2) (o * L.2 - L.1 * u) H.2 L.2 m * L.1, H.2 + stepT (H.1 * u - o * H.2) (o * L.2 - L.1 * u) H.2 L.2 m * L.2) := by
  obtain ⟨p, r⟩ := L
  obtain ⟨s, t⟩ := H
  obtain ⟨l1, l2, h1, h2, det, lo, hi⟩ := h
  dsimp only at *
  obtain ⟨k0, k1, k2⟩ := step_bd (a := s * u - o * t) (b := o * r - p * u) (q := t) (t := r) (m := m) (by omega) (by omega) h2 (by omega)
  generalize stepT (s * u - o * t) (o * r - p * u) t r m = k at *
  have kt : 0 ≤ k * r := Int.mul_nonneg k0 (by omega)
  have ne := no_hit (a := s + k * p) g (show 0 < t + k * r by omega) (by omega)
  refine ⟨l1, l2, by dsimp only; omega, k2, ?_, lo, ?_⟩
  · dsimp only; grind
  · dsimp only
    have : o * (t + k * r) ≤ (s + k * p) * u := by
      have e1 : (s + k * p) * u = s * u + k * (p * u) := by grind
      have e2 : o * (t + k * r) = o * t + k * (o * r) := by grind
      have e3 : k * (o * r - p * u) = k * (o * r) - k * (p * u) := Int.mul_sub ..
      omega
    omega
/-- lowest terms, found -/
theorem lowest_of {a b p q : Int} (hb : 0 < b) (hq : 0 < q) (g : Int.gcd p q = 1) (e : a * q = p * b) : a.fdiv (Int.gcd a b : Nat) = p ∧ b.fdiv (Int.gcd a b : Nat) = q := by
  have gp : 0 < Int.gcd a b := Int.gcd_pos_of_ne_zero_right _ (by omega)
  have f1 : ((Int.gcd a b : Nat) : Int) ∣ a := Int.gcd_dvd_left ..
  have f2 : ((Int.gcd a b : Nat) : Int) ∣ b := Int.gcd_dvd_right ..
  have e1 : a.fdiv (Int.gcd a b : Nat) = a / (Int.gcd a b : Nat) := Int.fdiv_eq_ediv_of_nonneg _ (by omega)
  have e2 : b.fdiv (Int.gcd a b : Nat) = b / (Int.gcd a b : Nat) := Int.fdiv_eq_ediv_of_nonneg _ (by omega)
  have c1 := Int.ediv_mul_cancel f1
  have c2 := Int.ediv_mul_cancel f2
  rw [e1, e2]
  have gg : Int.gcd (a / (Int.gcd a b : Nat)) (b / (Int.gcd a b : Nat)) = 1 := Int.gcd_ediv_gcd_ediv_gcd gp
  generalize hx : a / ((Int.gcd a b : Nat) : Int) = x at *
  generalize hy : b / ((Int.gcd a b : Nat) : Int) = y at *
  generalize hc : ((Int.gcd a b : Nat) : Int) = c at *
  have cp : 0 < c := by omega
  have yp : 0 < y := by
    rcases Int.lt_or_le 0 y with h | h
    · exact h
    · have := Int.mul_nonpos_of_nonpos_of_nonneg h (show 0 ≤ c by omega); omega
  refine low_eq hq yp g gg ?_
  refine Int.eq_of_mul_eq_mul_right (show c ≠ 0 by omega) ?_
  rw [← c1, ← c2] at e
  grind
end G19

-- BLK
set_option linter.all false
set_option maxRecDepth 100000
set_option exponentiation.threshold 200000
namespace G19
open PySem PySem.Spec PyProof.Rows L2 G
abbrev jar (a b : D) : Gh := [(.inr "deep", a), (.inr "state", b)]
theorem g1 {a b : D} : gget (jar a b) (.inr "deep") = some a := rfl
theorem g2 {a b : D} : gget (jar a b) (.inr "state") = some b := rfl
theorem u1 {a b d : D} : gput (jar a b) (.inr "deep") d = jar d b := rfl
theorem u2 {a b d : D} : gput (jar a b) (.inr "state") d = jar a d := rfl
def GOK (g : Gh) : Prop := ∃ (ns : List Int) (s : Int), g = jar (.list (ns.map .int)) (.int s) ∧ ns.length ≤ 100
theorem lg (a : Int) (h : a.natAbs < 2 ^ 700) : a.natAbs.log2 < 701 := by
  by_cases q : a.natAbs = 0
  · rw [q]; decide
  · exact Nat.lt_succ_of_lt ((Nat.log2_lt q).mpr h)
theorem mulB {a b : Int} (h1 : a.natAbs < 2 ^ 700) (h2 : b.natAbs < 2 ^ 700) : MulOk a b := by
  refine .inr (.inr ?_)
  have := lg a h1
  have := lg b h2
  omega
theorem mulS {a b : Int} (h : -(2 ^ 64) < a ∧ a < 2 ^ 64) : MulOk a b := .inl ⟨by omega, by omega⟩
theorem mulR {a b : Int} (h : -(2 ^ 64) < b ∧ b < 2 ^ 64) : MulOk a b := .inr (.inl ⟨by omega, by omega⟩)
theorem divB {b : Int} (h0 : 0 < b) (h : b.natAbs < 2 ^ 700) : DivOk b := by
  refine .inl ⟨h0, ?_⟩
  have := (Nat.log2_lt (show b.natAbs ≠ 0 by omega)).mpr h
  omega
theorem p_draw {n : Nat} {g : Gh} {many : Int} {K : D → Gh → Prop} {X : Exn → Gh → Prop} (hg : GOK g) (h2 : many.natAbs < 2 ^ 700) (h : ∀ x g', 0 ≤ x → (1 ≤ many → x < many) → GOK g' → K (.int x) g') :
    callW T (n + 1) 2 [JAR, .int many] g K X := by
  obtain ⟨ns, s, rfl, hl⟩ := hg
  refine call_df (np := 2) (ns := 5) (b := d2.b) rfl rfl ?_
  have e0 : startE 5 [JAR, .int many] (jar (.list (ns.map .int)) (.int s)) = ⟨[.fz JAR, .fz (.int many), .un, .un, .un], jar (.list (ns.map .int)) (.int s)⟩ := rfl
  rw [e0]
  simp -implicitDefEqProofs only [↓s_cs, ↓nx_ap, ↓s_nil, ↓s_set, ↓s_par, ↓s_unp, ↓s_ret, ↓s_retN, ↓s_drop, ↓s_if, ↓s_whl, ↓s_for, ↓s_app, ↓s_ext, ↓s_put, ↓s_ja, ↓s_ji, ↓s_js, ↓s_jl, ↓s_rais, ↓s_pass, ↓s_brk, ↓s_cont, ↓s_tri, ↓hd_nil, ↓hd_cons, ↓un_s, ↓un_n, ↓hu_ret, ↓hu_ifr, ↓hx_b, ↓hx_s, ↓hx_i, ↓hx_n, ↓hx_fld, ↓hx_isA, ↓hx_nt, ↓hx_and, ↓hx_ite, ↓hx_lst, ↓hx_tup, ↓hxs_nil, ↓hxs_cons, ↓ra_none, ↓ra_some, ↓x_calldB, ↓x_lw, ↓x_dct0, ↓x_v, ↓x_i, ↓x_b, ↓x_n, ↓x_st, ↓x_g, ↓x_tup, ↓x_lst, ↓x_bin, ↓x_neg, ↓x_nt, ↓x_cmp, ↓x_chain, ↓x_isN, ↓x_notN, ↓x_and, ↓x_or, ↓x_ite, ↓x_ix, ↓x_cut, ↓x_rev, ↓x_stp, ↓x_callB, ↓x_callkB, ↓x_bi, ↓x_comp, ↓x_pop, ↓x_popA, ↓x_jg, ↓x_jn, ↓x_jp, ↓x_scut, ↓x_slen, ↓srcK, ↓srcL, ↓t_yes, ↓t_and', ↓t_or', ↓t_nt', ↓t_ex, ↓e_nil, ↓e_cons, ↓a_nil', ↓a_cons', ↓rs_nil, ↓rs_cons, ↓frzS_v, ↓frzS_n, ↓asgs_nil, ↓asgs_cons, ↓rd_z, ↓rd_s, ↓set_z, ↓set_s, ↓at_mk, ↓isJar_j, ↓der_v, ↓der_n, ↓der_sl, ↓frz_v, ↓frz_n, ↓frz_sl, ↓asg_v, ↓asg_n, ↓asg_sl, ↓opW, ↓cmpW, ↓eqw_int, ↓eqw_str, ↓eqw_tup, ↓eqw_lst, ↓ordW, ↓truW, ↓noOw, ↓ixW, ↓biW, ↓tgW, ↓tgsW, ↓opwW, ↓itW, ↓wipe_nil, ↓wipe_cons, ↓unwipe, ↓isOw, true_and, Bool.and_true, Bool.not_true, Bool.not_false, Bool.false_eq_true, ↓reduceIte, ↓blk_ap, ↓d2, ↓g1, ↓g2, ↓u1, ↓u2]
  by_cases q : many < 2
  · rw [if_pos (decide_eq_true q)]
    exact h _ _ (Int.le_refl _) (by omega) ⟨ns, s, rfl, hl⟩
  rw [if_neg (by rw [decide_eq_true_eq]; exact q)]
  have dk : DivOk many := divB (by omega) h2
  have md : ∀ x : Int, many ≠ 0 ∧ 0 ≤ x.fmod many ∧ x.fmod many < many := fun x => ⟨by omega, Int.fmod_nonneg_of_pos _ (by omega), Int.fmod_lt_of_pos _ (by omega)⟩
  rcases List.eq_nil_or_concat ns with rfl | ⟨ms, w, rfl⟩
  · try simp -implicitDefEqProofs only [↓s_cs, ↓nx_ap, ↓s_nil, ↓s_set, ↓s_par, ↓s_unp, ↓s_ret, ↓s_retN, ↓s_drop, ↓s_if, ↓s_whl, ↓s_for, ↓s_app, ↓s_ext, ↓s_put, ↓s_ja, ↓s_ji, ↓s_js, ↓s_jl, ↓s_rais, ↓s_pass, ↓s_brk, ↓s_cont, ↓s_tri, ↓hd_nil, ↓hd_cons, ↓un_s, ↓un_n, ↓hu_ret, ↓hu_ifr, ↓hx_b, ↓hx_s, ↓hx_i, ↓hx_n, ↓hx_fld, ↓hx_isA, ↓hx_nt, ↓hx_and, ↓hx_ite, ↓hx_lst, ↓hx_tup, ↓hxs_nil, ↓hxs_cons, ↓ra_none, ↓ra_some, ↓x_calldB, ↓x_lw, ↓x_dct0, ↓x_v, ↓x_i, ↓x_b, ↓x_n, ↓x_st, ↓x_g, ↓x_tup, ↓x_lst, ↓x_bin, ↓x_neg, ↓x_nt, ↓x_cmp, ↓x_chain, ↓x_isN, ↓x_notN, ↓x_and, ↓x_or, ↓x_ite, ↓x_ix, ↓x_cut, ↓x_rev, ↓x_stp, ↓x_callB, ↓x_callkB, ↓x_bi, ↓x_comp, ↓x_pop, ↓x_popA, ↓x_jg, ↓x_jn, ↓x_jp, ↓x_scut, ↓x_slen, ↓srcK, ↓srcL, ↓t_yes, ↓t_and', ↓t_or', ↓t_nt', ↓t_ex, ↓e_nil, ↓e_cons, ↓a_nil', ↓a_cons', ↓rs_nil, ↓rs_cons, ↓frzS_v, ↓frzS_n, ↓asgs_nil, ↓asgs_cons, ↓rd_z, ↓rd_s, ↓set_z, ↓set_s, ↓at_mk, ↓isJar_j, ↓der_v, ↓der_n, ↓der_sl, ↓frz_v, ↓frz_n, ↓frz_sl, ↓asg_v, ↓asg_n, ↓asg_sl, ↓opW, ↓cmpW, ↓eqw_int, ↓eqw_str, ↓eqw_tup, ↓eqw_lst, ↓ordW, ↓truW, ↓noOw, ↓ixW, ↓biW, ↓tgW, ↓tgsW, ↓opwW, ↓itW, ↓wipe_nil, ↓wipe_cons, ↓unwipe, ↓isOw, true_and, Bool.and_true, Bool.not_true, Bool.not_false, Bool.false_eq_true, ↓reduceIte, ↓blk_ap, List.map_nil, List.isEmpty_nil, ↓g1, ↓g2, ↓u1, ↓u2]
    have mm : ∀ a b : Int, MulOk (a.fmod 2305843009213693951) b := fun a b => mulS ⟨by have := Int.fmod_nonneg_of_pos a (show (0 : Int) < 2305843009213693951 by decide); omega, by have := Int.fmod_lt_of_pos a (show (0 : Int) < 2305843009213693951 by decide); omega⟩
    refine ⟨mulR ⟨by decide, by decide⟩, by decide, mm _ _, mulS ⟨by decide, by decide⟩, by decide, .inl ⟨by decide, by decide⟩, (md 0).1, ?_⟩
    exact h _ _ (md _).2.1 (fun _ => (md _).2.2) ⟨[], _, rfl, by decide⟩
  · have e1 : (List.map PyData.int (ms ++ [w])).isEmpty = false := by rw [List.map_append]; cases ms <;> rfl
    have e2 : (List.map PyData.int (ms ++ [w])).getLast? = some (.int w) := by rw [List.map_append]; simp
    have e3 : (List.map PyData.int (ms ++ [w])).dropLast = ms.map .int := by rw [List.map_append]; simp
    rw [List.concat_eq_append, List.length_append, List.length_singleton] at hl
    try simp -implicitDefEqProofs only [↓s_cs, ↓nx_ap, ↓s_nil, ↓s_set, ↓s_par, ↓s_unp, ↓s_ret, ↓s_retN, ↓s_drop, ↓s_if, ↓s_whl, ↓s_for, ↓s_app, ↓s_ext, ↓s_put, ↓s_ja, ↓s_ji, ↓s_js, ↓s_jl, ↓s_rais, ↓s_pass, ↓s_brk, ↓s_cont, ↓s_tri, ↓hd_nil, ↓hd_cons, ↓un_s, ↓un_n, ↓hu_ret, ↓hu_ifr, ↓hx_b, ↓hx_s, ↓hx_i, ↓hx_n, ↓hx_fld, ↓hx_isA, ↓hx_nt, ↓hx_and, ↓hx_ite, ↓hx_lst, ↓hx_tup, ↓hxs_nil, ↓hxs_cons, ↓ra_none, ↓ra_some, ↓x_calldB, ↓x_lw, ↓x_dct0, ↓x_v, ↓x_i, ↓x_b, ↓x_n, ↓x_st, ↓x_g, ↓x_tup, ↓x_lst, ↓x_bin, ↓x_neg, ↓x_nt, ↓x_cmp, ↓x_chain, ↓x_isN, ↓x_notN, ↓x_and, ↓x_or, ↓x_ite, ↓x_ix, ↓x_cut, ↓x_rev, ↓x_stp, ↓x_callB, ↓x_callkB, ↓x_bi, ↓x_comp, ↓x_pop, ↓x_popA, ↓x_jg, ↓x_jn, ↓x_jp, ↓x_scut, ↓x_slen, ↓srcK, ↓srcL, ↓t_yes, ↓t_and', ↓t_or', ↓t_nt', ↓t_ex, ↓e_nil, ↓e_cons, ↓a_nil', ↓a_cons', ↓rs_nil, ↓rs_cons, ↓frzS_v, ↓frzS_n, ↓asgs_nil, ↓asgs_cons, ↓rd_z, ↓rd_s, ↓set_z, ↓set_s, ↓at_mk, ↓isJar_j, ↓der_v, ↓der_n, ↓der_sl, ↓frz_v, ↓frz_n, ↓frz_sl, ↓asg_v, ↓asg_n, ↓asg_sl, ↓opW, ↓cmpW, ↓eqw_int, ↓eqw_str, ↓eqw_tup, ↓eqw_lst, ↓ordW, ↓truW, ↓noOw, ↓ixW, ↓biW, ↓tgW, ↓tgsW, ↓opwW, ↓itW, ↓wipe_nil, ↓wipe_cons, ↓unwipe, ↓isOw, true_and, Bool.and_true, Bool.not_true, Bool.not_false, Bool.false_eq_true, ↓reduceIte, ↓blk_ap, List.concat_eq_append, e1, e2, e3, ↓g1, ↓g2, ↓u1, ↓u2]
    split
    · refine ⟨dk, by rw [List.length_map]; unfold SZ; omega, (md 0).1, h _ _ (md _).2.1 (fun _ => (md _).2.2) ⟨ms ++ [w.fdiv many], s, by rw [List.map_append]; rfl, by rw [List.length_append, List.length_singleton]; omega⟩⟩
    · exact ⟨(md 0).1, h _ _ (md _).2.1 (fun _ => (md _).2.2) ⟨ms, s, rfl, by omega⟩⟩
theorem p_pick {n : Nat} {g : Gh} {ds : List D} {d : D} {K : D → Gh → Prop} {X : Exn → Gh → Prop} (hd : d = .list ds ∨ d = .tuple ds) (hg : GOK g) (h1 : 1 ≤ ds.length) (h2 : ds.length < 10 ^ 9) (h : ∀ x g', x ∈ ds → GOK g' → K x g') :
    callW T (n + 2) 3 [JAR, d] g K X := by
  refine call_df (np := 2) (ns := 2) (b := d3.b) rfl rfl ?_
  have e0 : startE 2 [JAR, d] g = ⟨[.fz JAR, .fz d], g⟩ := rfl
  rw [e0]
  rcases hd with rfl | rfl
  all_goals
    simp -implicitDefEqProofs only [↓s_cs, ↓nx_ap, ↓s_nil, ↓s_set, ↓s_par, ↓s_unp, ↓s_ret, ↓s_retN, ↓s_drop, ↓s_if, ↓s_whl, ↓s_for, ↓s_app, ↓s_ext, ↓s_put, ↓s_ja, ↓s_ji, ↓s_js, ↓s_jl, ↓s_rais, ↓s_pass, ↓s_brk, ↓s_cont, ↓s_tri, ↓hd_nil, ↓hd_cons, ↓un_s, ↓un_n, ↓hu_ret, ↓hu_ifr, ↓hx_b, ↓hx_s, ↓hx_i, ↓hx_n, ↓hx_fld, ↓hx_isA, ↓hx_nt, ↓hx_and, ↓hx_ite, ↓hx_lst, ↓hx_tup, ↓hxs_nil, ↓hxs_cons, ↓ra_none, ↓ra_some, ↓x_calldB, ↓x_lw, ↓x_dct0, ↓x_v, ↓x_i, ↓x_b, ↓x_n, ↓x_st, ↓x_g, ↓x_tup, ↓x_lst, ↓x_bin, ↓x_neg, ↓x_nt, ↓x_cmp, ↓x_chain, ↓x_isN, ↓x_notN, ↓x_and, ↓x_or, ↓x_ite, ↓x_ix, ↓x_cut, ↓x_rev, ↓x_stp, ↓x_callB, ↓x_callkB, ↓x_bi, ↓x_comp, ↓x_pop, ↓x_popA, ↓x_jg, ↓x_jn, ↓x_jp, ↓x_scut, ↓x_slen, ↓srcK, ↓srcL, ↓t_yes, ↓t_and', ↓t_or', ↓t_nt', ↓t_ex, ↓e_nil, ↓e_cons, ↓a_nil', ↓a_cons', ↓rs_nil, ↓rs_cons, ↓frzS_v, ↓frzS_n, ↓asgs_nil, ↓asgs_cons, ↓rd_z, ↓rd_s, ↓set_z, ↓set_s, ↓at_mk, ↓isJar_j, ↓der_v, ↓der_n, ↓der_sl, ↓frz_v, ↓frz_n, ↓frz_sl, ↓asg_v, ↓asg_n, ↓asg_sl, ↓opW, ↓cmpW, ↓eqw_int, ↓eqw_str, ↓eqw_tup, ↓eqw_lst, ↓ordW, ↓truW, ↓noOw, ↓ixW, ↓biW, ↓tgW, ↓tgsW, ↓opwW, ↓itW, ↓wipe_nil, ↓wipe_cons, ↓unwipe, ↓isOw, true_and, Bool.and_true, Bool.not_true, Bool.not_false, Bool.false_eq_true, ↓reduceIte, ↓blk_ap, ↓d3]
    refine p_draw hg (by rw [Int.natAbs_natCast]; exact Nat.lt_trans h2 (by decide +kernel)) fun x g' hx hy hg' => ?_
    have hy := hy (by omega)
    obtain ⟨k, rfl⟩ : ∃ k : Nat, x = k := ⟨x.toNat, by omega⟩
    have hk : k < ds.length := by omega
    have e : atD ds (k : Int) = some ds[k] := at_nat' (List.getElem?_eq_getElem hk)
    try simp -implicitDefEqProofs only [↓s_cs, ↓nx_ap, ↓s_nil, ↓s_set, ↓s_par, ↓s_unp, ↓s_ret, ↓s_retN, ↓s_drop, ↓s_if, ↓s_whl, ↓s_for, ↓s_app, ↓s_ext, ↓s_put, ↓s_ja, ↓s_ji, ↓s_js, ↓s_jl, ↓s_rais, ↓s_pass, ↓s_brk, ↓s_cont, ↓s_tri, ↓hd_nil, ↓hd_cons, ↓un_s, ↓un_n, ↓hu_ret, ↓hu_ifr, ↓hx_b, ↓hx_s, ↓hx_i, ↓hx_n, ↓hx_fld, ↓hx_isA, ↓hx_nt, ↓hx_and, ↓hx_ite, ↓hx_lst, ↓hx_tup, ↓hxs_nil, ↓hxs_cons, ↓ra_none, ↓ra_some, ↓x_calldB, ↓x_lw, ↓x_dct0, ↓x_v, ↓x_i, ↓x_b, ↓x_n, ↓x_st, ↓x_g, ↓x_tup, ↓x_lst, ↓x_bin, ↓x_neg, ↓x_nt, ↓x_cmp, ↓x_chain, ↓x_isN, ↓x_notN, ↓x_and, ↓x_or, ↓x_ite, ↓x_ix, ↓x_cut, ↓x_rev, ↓x_stp, ↓x_callB, ↓x_callkB, ↓x_bi, ↓x_comp, ↓x_pop, ↓x_popA, ↓x_jg, ↓x_jn, ↓x_jp, ↓x_scut, ↓x_slen, ↓srcK, ↓srcL, ↓t_yes, ↓t_and', ↓t_or', ↓t_nt', ↓t_ex, ↓e_nil, ↓e_cons, ↓a_nil', ↓a_cons', ↓rs_nil, ↓rs_cons, ↓frzS_v, ↓frzS_n, ↓asgs_nil, ↓asgs_cons, ↓rd_z, ↓rd_s, ↓set_z, ↓set_s, ↓at_mk, ↓isJar_j, ↓der_v, ↓der_n, ↓der_sl, ↓frz_v, ↓frz_n, ↓frz_sl, ↓asg_v, ↓asg_n, ↓asg_sl, ↓opW, ↓cmpW, ↓eqw_int, ↓eqw_str, ↓eqw_tup, ↓eqw_lst, ↓ordW, ↓truW, ↓noOw, ↓ixW, ↓biW, ↓tgW, ↓tgsW, ↓opwW, ↓itW, ↓wipe_nil, ↓wipe_cons, ↓unwipe, ↓isOw, true_and, Bool.and_true, Bool.not_true, Bool.not_false, Bool.false_eq_true, ↓reduceIte, ↓blk_ap, e]
    exact h _ g' (List.getElem_mem hk) hg'
theorem deckW {ns : List Int} {k : Gh → Prop} (h : ∀ g, GOK g → k g) : mkW (fun _ _ _ _ _ => False) sub n0.length mk0 (SCR ns :: cs0.map .int) [] k := by
  show mk2 (fun _ _ _ _ _ => False) sub n0.length 2 es0 (.v 3) (.e (.scut 0 63)) mb0 [SCR ns, .int 19] [] k
  unfold mk2
  have e0 : startE n0.length [SCR ns, .int 19] [] = ⟨[.fz (.dict [(.none, .list (ns.map .int))]), .fz (.int 19), .un, .un, .un], []⟩ := rfl
  rw [e0]
  have ct : ∀ xs : List D, cutD xs none (some 63) = xs.take 63 := fun xs => cut_take (by decide)
  have fin : ∀ (cs : List Int) (st : Int) (hc : cs.length ≤ 63), forL (fun d r k => tgW (.v 3) d r fun r3 => mtsW (fun _ _ _ _ _ => False) sub mb0 r3 k) (fun r4 => isJar (rd r4 2) = true ∧ k r4.g) (cs.map .int) ⟨[.fz (.dict [(.none, .list (ns.map .int))]), .fz (.int 19), .fz JAR, .un, .un], jar (.list []) (.int st)⟩ := by
    intro cs st hc
    refine for_inv (fun i r => ∃ (ms : List Int) (st : Int) (s3 s4 : Slot), (s3 = .un ∨ ∃ d, s3 = .fz d) ∧ (s4 = .un ∨ ∃ d, s4 = .fz d) ∧ ms.length ≤ i ∧ r = ⟨[.fz (.dict [(.none, .list (ns.map .int))]), .fz (.int 19), .fz JAR, s3, s4], jar (.list (ms.map .int)) (.int st)⟩) ?_ ?_ ?_
    · exact ⟨[], st, _, _, .inl rfl, .inl rfl, by decide, rfl⟩
    · rintro i d r hd ⟨ms, st, s3, s4, h3, h4, hm, rfl⟩ kk hk
      obtain ⟨c, hc, rfl⟩ : ∃ c : Int, c ∈ cs ∧ d = .int c := by
        obtain ⟨c, h1, h2⟩ := List.mem_map.mp (List.mem_of_getElem? hd)
        exact ⟨c, h1, h2.symm⟩
      have hi : i < 63 := by
        have := (List.getElem?_eq_some_iff.mp hd).1
        rw [List.length_map] at this
        omega
      have e18 : (10 : Int) ^ Int.toNat 18 = 10 ^ 18 := rfl
      simp -implicitDefEqProofs only [↓s_cs, ↓nx_ap, ↓s_nil, ↓s_set, ↓s_par, ↓s_unp, ↓s_ret, ↓s_retN, ↓s_drop, ↓s_if, ↓s_whl, ↓s_for, ↓s_app, ↓s_ext, ↓s_put, ↓s_ja, ↓s_ji, ↓s_js, ↓s_jl, ↓s_rais, ↓s_pass, ↓s_brk, ↓s_cont, ↓s_tri, ↓hd_nil, ↓hd_cons, ↓un_s, ↓un_n, ↓hu_ret, ↓hu_ifr, ↓hx_b, ↓hx_s, ↓hx_i, ↓hx_n, ↓hx_fld, ↓hx_isA, ↓hx_nt, ↓hx_and, ↓hx_ite, ↓hx_lst, ↓hx_tup, ↓hxs_nil, ↓hxs_cons, ↓ra_none, ↓ra_some, ↓x_calldB, ↓x_lw, ↓x_dct0, ↓x_v, ↓x_i, ↓x_b, ↓x_n, ↓x_st, ↓x_g, ↓x_tup, ↓x_lst, ↓x_bin, ↓x_neg, ↓x_nt, ↓x_cmp, ↓x_chain, ↓x_isN, ↓x_notN, ↓x_and, ↓x_or, ↓x_ite, ↓x_ix, ↓x_cut, ↓x_rev, ↓x_stp, ↓x_callB, ↓x_callkB, ↓x_bi, ↓x_comp, ↓x_pop, ↓x_popA, ↓x_jg, ↓x_jn, ↓x_jp, ↓x_scut, ↓x_slen, ↓srcK, ↓srcL, ↓t_yes, ↓t_and', ↓t_or', ↓t_nt', ↓t_ex, ↓e_nil, ↓e_cons, ↓a_nil', ↓a_cons', ↓rs_nil, ↓rs_cons, ↓frzS_v, ↓frzS_n, ↓asgs_nil, ↓asgs_cons, ↓rd_z, ↓rd_s, ↓set_z, ↓set_s, ↓at_mk, ↓isJar_j, ↓der_v, ↓der_n, ↓der_sl, ↓frz_v, ↓frz_n, ↓frz_sl, ↓asg_v, ↓asg_n, ↓asg_sl, ↓opW, ↓cmpW, ↓eqw_int, ↓eqw_str, ↓eqw_tup, ↓eqw_lst, ↓ordW, ↓truW, ↓noOw, ↓ixW, ↓biW, ↓tgW, ↓tgsW, ↓opwW, ↓itW, ↓wipe_nil, ↓wipe_cons, ↓unwipe, ↓isOw, true_and, Bool.and_true, Bool.not_true, Bool.not_false, Bool.false_eq_true, ↓reduceIte, ↓blk_ap, ↓mb0, ↓mtsW, ↓mtW, ↓g1, ↓g2, ↓u1, ↓u2, e18]
      refine ⟨⟨by decide, by decide, by decide⟩, ?_⟩
      generalize (if c < 0 then -c else c) = z
      by_cases q : (10 : Int) ^ 18 ≤ z
      · rw [if_pos (decide_eq_true q)]
        refine ⟨by rcases h4 with rfl | ⟨d, rfl⟩ <;> rfl, by rw [List.length_map]; unfold SZ; omega, mulS ⟨by decide, by decide⟩, mulR ⟨by decide, by decide⟩, by decide, hk _ ⟨z :: ms, _, _, _, .inr ⟨_, rfl⟩, .inr ⟨_, rfl⟩, by rw [List.length_cons]; omega, rfl⟩⟩
      · rw [if_neg (by rw [decide_eq_true_eq]; exact q)]
        exact ⟨mulS ⟨by decide, by decide⟩, mulR ⟨by decide, by decide⟩, by decide, hk _ ⟨ms, _, _, _, .inr ⟨_, rfl⟩, .inr ⟨_, rfl⟩, by omega, rfl⟩⟩
    · rintro r ⟨ms, st, s3, s4, h3, h4, hm, rfl⟩
      refine ⟨rfl, h _ ⟨ms, st, rfl, by rw [List.length_map] at hm; omega⟩⟩
  simp -implicitDefEqProofs only [↓s_cs, ↓nx_ap, ↓s_nil, ↓s_set, ↓s_par, ↓s_unp, ↓s_ret, ↓s_retN, ↓s_drop, ↓s_if, ↓s_whl, ↓s_for, ↓s_app, ↓s_ext, ↓s_put, ↓s_ja, ↓s_ji, ↓s_js, ↓s_jl, ↓s_rais, ↓s_pass, ↓s_brk, ↓s_cont, ↓s_tri, ↓hd_nil, ↓hd_cons, ↓un_s, ↓un_n, ↓hu_ret, ↓hu_ifr, ↓hx_b, ↓hx_s, ↓hx_i, ↓hx_n, ↓hx_fld, ↓hx_isA, ↓hx_nt, ↓hx_and, ↓hx_ite, ↓hx_lst, ↓hx_tup, ↓hxs_nil, ↓hxs_cons, ↓ra_none, ↓ra_some, ↓x_calldB, ↓x_lw, ↓x_dct0, ↓x_v, ↓x_i, ↓x_b, ↓x_n, ↓x_st, ↓x_g, ↓x_tup, ↓x_lst, ↓x_bin, ↓x_neg, ↓x_nt, ↓x_cmp, ↓x_chain, ↓x_isN, ↓x_notN, ↓x_and, ↓x_or, ↓x_ite, ↓x_ix, ↓x_cut, ↓x_rev, ↓x_stp, ↓x_callB, ↓x_callkB, ↓x_bi, ↓x_comp, ↓x_pop, ↓x_popA, ↓x_jg, ↓x_jn, ↓x_jp, ↓x_scut, ↓x_slen, ↓srcK, ↓srcL, ↓t_yes, ↓t_and', ↓t_or', ↓t_nt', ↓t_ex, ↓e_nil, ↓e_cons, ↓a_nil', ↓a_cons', ↓rs_nil, ↓rs_cons, ↓frzS_v, ↓frzS_n, ↓asgs_nil, ↓asgs_cons, ↓rd_z, ↓rd_s, ↓set_z, ↓set_s, ↓at_mk, ↓isJar_j, ↓der_v, ↓der_n, ↓der_sl, ↓frz_v, ↓frz_n, ↓frz_sl, ↓asg_v, ↓asg_n, ↓asg_sl, ↓opW, ↓cmpW, ↓eqw_int, ↓eqw_str, ↓eqw_tup, ↓eqw_lst, ↓ordW, ↓truW, ↓noOw, ↓ixW, ↓biW, ↓tgW, ↓tgsW, ↓opwW, ↓itW, ↓wipe_nil, ↓wipe_cons, ↓unwipe, ↓isOw, true_and, Bool.and_true, Bool.not_true, Bool.not_false, Bool.false_eq_true, ↓reduceIte, ↓blk_ap, ↓es0, ↓jarE, ct]
  refine ⟨rfl, mulR ⟨by decide, by decide⟩, rfl, ?_⟩
  rw [← List.map_take]
  exact fin _ _ (by rw [List.length_take]; omega)
end G19

-- BLK
set_option linter.all false
set_option maxRecDepth 100000
set_option exponentiation.threshold 200000
namespace G19
open PySem PySem.Spec PyProof.Rows L2 G
theorem q0 {a b : D} : atD [a, b] 0 = some a := rfl
theorem q1 {a b : D} : atD [a, b] 1 = some b := rfl
theorem i_val {x : Int} {k : Nat} (h : x.natAbs < 10 ^ 200) (hk : 201 ≤ k) : G.Val 0 k (.int x) := (val_int (k := 200) (by decide) (by decide) h).mono (Nat.le_refl _) hk
theorem s_val {s : Str} {m : Nat} (h : (PyData.str s).shown.length ≤ m) : G.Val 0 m (.str s) := ⟨rfl, Nat.le_refl _, rfl, h⟩
theorem p_same {n : Nat} {g : Gh} {d : D} {dp m : Nat} {K : D → Gh → Prop} {X : Exn → Gh → Prop} (hd : G.Val dp m d) (h1 : dp ≤ 64) (h2 : m ≤ SZ) (h : K (.bool true) g) : callW T (n + 1) 6 [d, d] g K X := by
  refine call_df (np := 2) (ns := 2) (b := d6.b) rfl rfl ?_
  have e0 : startE 2 [d, d] g = ⟨[.fz d, .fz d], g⟩ := rfl
  rw [e0]
  simp -implicitDefEqProofs only [↓s_cs, ↓nx_ap, ↓s_nil, ↓s_set, ↓s_par, ↓s_unp, ↓s_ret, ↓s_retN, ↓s_drop, ↓s_if, ↓s_whl, ↓s_for, ↓s_app, ↓s_ext, ↓s_put, ↓s_ja, ↓s_ji, ↓s_js, ↓s_jl, ↓s_rais, ↓s_pass, ↓s_brk, ↓s_cont, ↓s_tri, ↓hd_nil, ↓hd_cons, ↓un_s, ↓un_n, ↓hu_ret, ↓hu_ifr, ↓hx_b, ↓hx_s, ↓hx_i, ↓hx_n, ↓hx_fld, ↓hx_isA, ↓hx_nt, ↓hx_and, ↓hx_ite, ↓hx_lst, ↓hx_tup, ↓hxs_nil, ↓hxs_cons, ↓ra_none, ↓ra_some, ↓x_calldB, ↓x_lw, ↓x_dct0, ↓x_v, ↓x_i, ↓x_b, ↓x_n, ↓x_st, ↓x_g, ↓x_tup, ↓x_lst, ↓x_bin, ↓x_neg, ↓x_nt, ↓x_cmp, ↓x_chain, ↓x_isN, ↓x_notN, ↓x_and, ↓x_or, ↓x_ite, ↓x_ix, ↓x_cut, ↓x_rev, ↓x_stp, ↓x_callB, ↓x_callkB, ↓x_bi, ↓x_comp, ↓x_pop, ↓x_popA, ↓x_jg, ↓x_jn, ↓x_jp, ↓x_scut, ↓x_slen, ↓srcK, ↓srcL, ↓t_yes, ↓t_and', ↓t_or', ↓t_nt', ↓t_ex, ↓e_nil, ↓e_cons, ↓a_nil', ↓a_cons', ↓rs_nil, ↓rs_cons, ↓frzS_v, ↓frzS_n, ↓asgs_nil, ↓asgs_cons, ↓rd_z, ↓rd_s, ↓set_z, ↓set_s, ↓at_mk, ↓isJar_j, ↓der_v, ↓der_n, ↓der_sl, ↓frz_v, ↓frz_n, ↓frz_sl, ↓asg_v, ↓asg_n, ↓asg_sl, ↓opW, ↓cmpW, ↓eqw_int, ↓eqw_str, ↓eqw_tup, ↓eqw_lst, ↓ordW, ↓truW, ↓noOw, ↓ixW, ↓biW, ↓tgW, ↓tgsW, ↓opwW, ↓itW, ↓wipe_nil, ↓wipe_cons, ↓unwipe, ↓isOw, true_and, Bool.and_true, Bool.not_true, Bool.not_false, Bool.false_eq_true, ↓reduceIte, ↓blk_ap, ↓d6]
  refine hd.rp h1 h2 (hd.rp h1 h2 ?_)
  simpa using h
theorem gcd_step {a b : Int} (ha : 0 ≤ a) (hb : 0 ≤ b) : Int.gcd b (a % b) = Int.gcd a b := by
  obtain ⟨A, rfl⟩ := Int.eq_ofNat_of_zero_le ha
  obtain ⟨B, rfl⟩ := Int.eq_ofNat_of_zero_le hb
  show Nat.gcd B ((A : Int) % B).natAbs = Nat.gcd A B
  rw [← Int.natCast_emod, Int.natAbs_natCast, Nat.gcd_comm, ← Nat.gcd_rec, Nat.gcd_comm]
theorem p_gcd {n : Nat} {g : Gh} {x y : Int} {K : D → Gh → Prop} {X : Exn → Gh → Prop} (h : K (.int (Int.gcd x y)) g) : callW T (n + 1) 0 [.int x, .int y] g K X := by
  refine call_df (np := 2) (ns := 2) (b := d0.b) rfl rfl ?_
  have e0 : startE 2 [.int x, .int y] g = ⟨[.fz (.int x), .fz (.int y)], g⟩ := rfl
  rw [e0]
  simp -implicitDefEqProofs only [↓s_cs, ↓nx_ap, ↓s_nil, ↓s_set, ↓s_par, ↓s_unp, ↓s_ret, ↓s_retN, ↓s_drop, ↓s_if, ↓s_whl, ↓s_for, ↓s_app, ↓s_ext, ↓s_put, ↓s_ja, ↓s_ji, ↓s_js, ↓s_jl, ↓s_rais, ↓s_pass, ↓s_brk, ↓s_cont, ↓s_tri, ↓hd_nil, ↓hd_cons, ↓un_s, ↓un_n, ↓hu_ret, ↓hu_ifr, ↓hx_b, ↓hx_s, ↓hx_i, ↓hx_n, ↓hx_fld, ↓hx_isA, ↓hx_nt, ↓hx_and, ↓hx_ite, ↓hx_lst, ↓hx_tup, ↓hxs_nil, ↓hxs_cons, ↓ra_none, ↓ra_some, ↓x_calldB, ↓x_lw, ↓x_dct0, ↓x_v, ↓x_i, ↓x_b, ↓x_n, ↓x_st, ↓x_g, ↓x_tup, ↓x_lst, ↓x_bin, ↓x_neg, ↓x_nt, ↓x_cmp, ↓x_chain, ↓x_isN, ↓x_notN, ↓x_and, ↓x_or, ↓x_ite, ↓x_ix, ↓x_cut, ↓x_rev, ↓x_stp, ↓x_callB, ↓x_callkB, ↓x_bi, ↓x_comp, ↓x_pop, ↓x_popA, ↓x_jg, ↓x_jn, ↓x_jp, ↓x_scut, ↓x_slen, ↓srcK, ↓srcL, ↓t_yes, ↓t_and', ↓t_or', ↓t_nt', ↓t_ex, ↓e_nil, ↓e_cons, ↓a_nil', ↓a_cons', ↓rs_nil, ↓rs_cons, ↓frzS_v, ↓frzS_n, ↓asgs_nil, ↓asgs_cons, ↓rd_z, ↓rd_s, ↓set_z, ↓set_s, ↓at_mk, ↓isJar_j, ↓der_v, ↓der_n, ↓der_sl, ↓frz_v, ↓frz_n, ↓frz_sl, ↓asg_v, ↓asg_n, ↓asg_sl, ↓opW, ↓cmpW, ↓eqw_int, ↓eqw_str, ↓eqw_tup, ↓eqw_lst, ↓ordW, ↓truW, ↓noOw, ↓ixW, ↓biW, ↓tgW, ↓tgsW, ↓opwW, ↓itW, ↓wipe_nil, ↓wipe_cons, ↓unwipe, ↓isOw, true_and, Bool.and_true, Bool.not_true, Bool.not_false, Bool.false_eq_true, ↓reduceIte, ↓blk_ap, ↓d0]
  have eg : Int.gcd (if x < 0 then -x else x) (if y < 0 then -y else y) = Int.gcd x y := by
    split <;> split <;> simp [Int.gcd]
  rw [← eg] at h
  have hx : 0 ≤ (if x < 0 then -x else x) := by split <;> omega
  have hy : 0 ≤ (if y < 0 then -y else y) := by split <;> omega
  generalize (if x < 0 then -x else x) = x at *
  generalize (if y < 0 then -y else y) = y at *
  refine whl_inv (fun o r => ∃ (a b : Int), r = ⟨[.fz (.int a), .fz (.int b)], g⟩ ∧ 0 ≤ a ∧ 0 ≤ b ∧ Int.gcd a b = Int.gcd x y ∧ o = b.toNat) (m := y.toNat) ⟨x, y, rfl, hx, hy, rfl, rfl⟩ ?_
  rintro o r ⟨a, b, rfl, ha, hb, hg, rfl⟩
  unfold whT
  try simp -implicitDefEqProofs only [↓s_cs, ↓nx_ap, ↓s_nil, ↓s_set, ↓s_par, ↓s_unp, ↓s_ret, ↓s_retN, ↓s_drop, ↓s_if, ↓s_whl, ↓s_for, ↓s_app, ↓s_ext, ↓s_put, ↓s_ja, ↓s_ji, ↓s_js, ↓s_jl, ↓s_rais, ↓s_pass, ↓s_brk, ↓s_cont, ↓s_tri, ↓hd_nil, ↓hd_cons, ↓un_s, ↓un_n, ↓hu_ret, ↓hu_ifr, ↓hx_b, ↓hx_s, ↓hx_i, ↓hx_n, ↓hx_fld, ↓hx_isA, ↓hx_nt, ↓hx_and, ↓hx_ite, ↓hx_lst, ↓hx_tup, ↓hxs_nil, ↓hxs_cons, ↓ra_none, ↓ra_some, ↓x_calldB, ↓x_lw, ↓x_dct0, ↓x_v, ↓x_i, ↓x_b, ↓x_n, ↓x_st, ↓x_g, ↓x_tup, ↓x_lst, ↓x_bin, ↓x_neg, ↓x_nt, ↓x_cmp, ↓x_chain, ↓x_isN, ↓x_notN, ↓x_and, ↓x_or, ↓x_ite, ↓x_ix, ↓x_cut, ↓x_rev, ↓x_stp, ↓x_callB, ↓x_callkB, ↓x_bi, ↓x_comp, ↓x_pop, ↓x_popA, ↓x_jg, ↓x_jn, ↓x_jp, ↓x_scut, ↓x_slen, ↓srcK, ↓srcL, ↓t_yes, ↓t_and', ↓t_or', ↓t_nt', ↓t_ex, ↓e_nil, ↓e_cons, ↓a_nil', ↓a_cons', ↓rs_nil, ↓rs_cons, ↓frzS_v, ↓frzS_n, ↓asgs_nil, ↓asgs_cons, ↓rd_z, ↓rd_s, ↓set_z, ↓set_s, ↓at_mk, ↓isJar_j, ↓der_v, ↓der_n, ↓der_sl, ↓frz_v, ↓frz_n, ↓frz_sl, ↓asg_v, ↓asg_n, ↓asg_sl, ↓opW, ↓cmpW, ↓eqw_int, ↓eqw_str, ↓eqw_tup, ↓eqw_lst, ↓ordW, ↓truW, ↓noOw, ↓ixW, ↓biW, ↓tgW, ↓tgsW, ↓opwW, ↓itW, ↓wipe_nil, ↓wipe_cons, ↓unwipe, ↓isOw, true_and, Bool.and_true, Bool.not_true, Bool.not_false, Bool.false_eq_true, ↓reduceIte, ↓blk_ap]
  by_cases q : 0 < b
  · rw [if_pos (decide_eq_true q)]
    unfold whB
    simp -implicitDefEqProofs only [↓s_cs, ↓nx_ap, ↓s_nil, ↓s_set, ↓s_par, ↓s_unp, ↓s_ret, ↓s_retN, ↓s_drop, ↓s_if, ↓s_whl, ↓s_for, ↓s_app, ↓s_ext, ↓s_put, ↓s_ja, ↓s_ji, ↓s_js, ↓s_jl, ↓s_rais, ↓s_pass, ↓s_brk, ↓s_cont, ↓s_tri, ↓hd_nil, ↓hd_cons, ↓un_s, ↓un_n, ↓hu_ret, ↓hu_ifr, ↓hx_b, ↓hx_s, ↓hx_i, ↓hx_n, ↓hx_fld, ↓hx_isA, ↓hx_nt, ↓hx_and, ↓hx_ite, ↓hx_lst, ↓hx_tup, ↓hxs_nil, ↓hxs_cons, ↓ra_none, ↓ra_some, ↓x_calldB, ↓x_lw, ↓x_dct0, ↓x_v, ↓x_i, ↓x_b, ↓x_n, ↓x_st, ↓x_g, ↓x_tup, ↓x_lst, ↓x_bin, ↓x_neg, ↓x_nt, ↓x_cmp, ↓x_chain, ↓x_isN, ↓x_notN, ↓x_and, ↓x_or, ↓x_ite, ↓x_ix, ↓x_cut, ↓x_rev, ↓x_stp, ↓x_callB, ↓x_callkB, ↓x_bi, ↓x_comp, ↓x_pop, ↓x_popA, ↓x_jg, ↓x_jn, ↓x_jp, ↓x_scut, ↓x_slen, ↓srcK, ↓srcL, ↓t_yes, ↓t_and', ↓t_or', ↓t_nt', ↓t_ex, ↓e_nil, ↓e_cons, ↓a_nil', ↓a_cons', ↓rs_nil, ↓rs_cons, ↓frzS_v, ↓frzS_n, ↓asgs_nil, ↓asgs_cons, ↓rd_z, ↓rd_s, ↓set_z, ↓set_s, ↓at_mk, ↓isJar_j, ↓der_v, ↓der_n, ↓der_sl, ↓frz_v, ↓frz_n, ↓frz_sl, ↓asg_v, ↓asg_n, ↓asg_sl, ↓opW, ↓cmpW, ↓eqw_int, ↓eqw_str, ↓eqw_tup, ↓eqw_lst, ↓ordW, ↓truW, ↓noOw, ↓ixW, ↓biW, ↓tgW, ↓tgsW, ↓opwW, ↓itW, ↓wipe_nil, ↓wipe_cons, ↓unwipe, ↓isOw, true_and, Bool.and_true, Bool.not_true, Bool.not_false, Bool.false_eq_true, ↓reduceIte, ↓blk_ap, ↓d0_1]
    have e1 : a.fmod b = a % b := Int.fmod_eq_emod_of_nonneg _ hb
    have p1 := Int.emod_nonneg a (show b ≠ 0 by omega)
    have p2 := Int.emod_lt_of_pos a q
    refine ⟨by omega, ?_⟩
    rw [e1]
    exact ⟨(a % b).toNat, by omega, b, a % b, rfl, hb, p1, by rw [gcd_step ha hb, hg], rfl⟩
  · rw [if_neg (by rw [decide_eq_true_eq]; exact q)]
    try simp -implicitDefEqProofs only [↓s_cs, ↓nx_ap, ↓s_nil, ↓s_set, ↓s_par, ↓s_unp, ↓s_ret, ↓s_retN, ↓s_drop, ↓s_if, ↓s_whl, ↓s_for, ↓s_app, ↓s_ext, ↓s_put, ↓s_ja, ↓s_ji, ↓s_js, ↓s_jl, ↓s_rais, ↓s_pass, ↓s_brk, ↓s_cont, ↓s_tri, ↓hd_nil, ↓hd_cons, ↓un_s, ↓un_n, ↓hu_ret, ↓hu_ifr, ↓hx_b, ↓hx_s, ↓hx_i, ↓hx_n, ↓hx_fld, ↓hx_isA, ↓hx_nt, ↓hx_and, ↓hx_ite, ↓hx_lst, ↓hx_tup, ↓hxs_nil, ↓hxs_cons, ↓ra_none, ↓ra_some, ↓x_calldB, ↓x_lw, ↓x_dct0, ↓x_v, ↓x_i, ↓x_b, ↓x_n, ↓x_st, ↓x_g, ↓x_tup, ↓x_lst, ↓x_bin, ↓x_neg, ↓x_nt, ↓x_cmp, ↓x_chain, ↓x_isN, ↓x_notN, ↓x_and, ↓x_or, ↓x_ite, ↓x_ix, ↓x_cut, ↓x_rev, ↓x_stp, ↓x_callB, ↓x_callkB, ↓x_bi, ↓x_comp, ↓x_pop, ↓x_popA, ↓x_jg, ↓x_jn, ↓x_jp, ↓x_scut, ↓x_slen, ↓srcK, ↓srcL, ↓t_yes, ↓t_and', ↓t_or', ↓t_nt', ↓t_ex, ↓e_nil, ↓e_cons, ↓a_nil', ↓a_cons', ↓rs_nil, ↓rs_cons, ↓frzS_v, ↓frzS_n, ↓asgs_nil, ↓asgs_cons, ↓rd_z, ↓rd_s, ↓set_z, ↓set_s, ↓at_mk, ↓isJar_j, ↓der_v, ↓der_n, ↓der_sl, ↓frz_v, ↓frz_n, ↓frz_sl, ↓asg_v, ↓asg_n, ↓asg_sl, ↓opW, ↓cmpW, ↓eqw_int, ↓eqw_str, ↓eqw_tup, ↓eqw_lst, ↓ordW, ↓truW, ↓noOw, ↓ixW, ↓biW, ↓tgW, ↓tgsW, ↓opwW, ↓itW, ↓wipe_nil, ↓wipe_cons, ↓unwipe, ↓isOw, true_and, Bool.and_true, Bool.not_true, Bool.not_false, Bool.false_eq_true, ↓reduceIte, ↓blk_ap]
    have : b = 0 := by omega
    subst this
    have : Int.gcd a 0 = a := by
      rw [Int.gcd_zero_right]
      omega
    rw [← hg, this] at h
    exact h
theorem p_lowest {n : Nat} {g : Gh} {x y : Int} {K : D → Gh → Prop} {X : Exn → Gh → Prop} (hy : 0 < y) (hb : y.natAbs < 2 ^ 700) (h : K (pD (x.fdiv (Int.gcd x y : Nat), y.fdiv (Int.gcd x y : Nat))) g) : callW T (n + 2) 1 [.int x, .int y] g K X := by
  refine call_df (np := 2) (ns := 3) (b := d1.b) rfl rfl ?_
  have e0 : startE 3 [.int x, .int y] g = ⟨[.fz (.int x), .fz (.int y), .un], g⟩ := rfl
  rw [e0]
  simp -implicitDefEqProofs only [↓s_cs, ↓nx_ap, ↓s_nil, ↓s_set, ↓s_par, ↓s_unp, ↓s_ret, ↓s_retN, ↓s_drop, ↓s_if, ↓s_whl, ↓s_for, ↓s_app, ↓s_ext, ↓s_put, ↓s_ja, ↓s_ji, ↓s_js, ↓s_jl, ↓s_rais, ↓s_pass, ↓s_brk, ↓s_cont, ↓s_tri, ↓hd_nil, ↓hd_cons, ↓un_s, ↓un_n, ↓hu_ret, ↓hu_ifr, ↓hx_b, ↓hx_s, ↓hx_i, ↓hx_n, ↓hx_fld, ↓hx_isA, ↓hx_nt, ↓hx_and, ↓hx_ite, ↓hx_lst, ↓hx_tup, ↓hxs_nil, ↓hxs_cons, ↓ra_none, ↓ra_some, ↓x_calldB, ↓x_lw, ↓x_dct0, ↓x_v, ↓x_i, ↓x_b, ↓x_n, ↓x_st, ↓x_g, ↓x_tup, ↓x_lst, ↓x_bin, ↓x_neg, ↓x_nt, ↓x_cmp, ↓x_chain, ↓x_isN, ↓x_notN, ↓x_and, ↓x_or, ↓x_ite, ↓x_ix, ↓x_cut, ↓x_rev, ↓x_stp, ↓x_callB, ↓x_callkB, ↓x_bi, ↓x_comp, ↓x_pop, ↓x_popA, ↓x_jg, ↓x_jn, ↓x_jp, ↓x_scut, ↓x_slen, ↓srcK, ↓srcL, ↓t_yes, ↓t_and', ↓t_or', ↓t_nt', ↓t_ex, ↓e_nil, ↓e_cons, ↓a_nil', ↓a_cons', ↓rs_nil, ↓rs_cons, ↓frzS_v, ↓frzS_n, ↓asgs_nil, ↓asgs_cons, ↓rd_z, ↓rd_s, ↓set_z, ↓set_s, ↓at_mk, ↓isJar_j, ↓der_v, ↓der_n, ↓der_sl, ↓frz_v, ↓frz_n, ↓frz_sl, ↓asg_v, ↓asg_n, ↓asg_sl, ↓opW, ↓cmpW, ↓eqw_int, ↓eqw_str, ↓eqw_tup, ↓eqw_lst, ↓ordW, ↓truW, ↓noOw, ↓ixW, ↓biW, ↓tgW, ↓tgsW, ↓opwW, ↓itW, ↓wipe_nil, ↓wipe_cons, ↓unwipe, ↓isOw, true_and, Bool.and_true, Bool.not_true, Bool.not_false, Bool.false_eq_true, ↓reduceIte, ↓blk_ap, ↓d1]
  refine p_gcd (n := n) ?_
  have gp : 0 < Int.gcd x y := Int.gcd_pos_of_ne_zero_right _ (by omega)
  have gb : Int.gcd x y ≤ y.natAbs := Nat.gcd_le_right _ (by omega)
  have dk : DivOk (Int.gcd x y : Nat) := divB (by omega) (by rw [Int.natAbs_natCast]; exact Nat.lt_of_le_of_lt gb hb)
  try simp -implicitDefEqProofs only [↓s_cs, ↓nx_ap, ↓s_nil, ↓s_set, ↓s_par, ↓s_unp, ↓s_ret, ↓s_retN, ↓s_drop, ↓s_if, ↓s_whl, ↓s_for, ↓s_app, ↓s_ext, ↓s_put, ↓s_ja, ↓s_ji, ↓s_js, ↓s_jl, ↓s_rais, ↓s_pass, ↓s_brk, ↓s_cont, ↓s_tri, ↓hd_nil, ↓hd_cons, ↓un_s, ↓un_n, ↓hu_ret, ↓hu_ifr, ↓hx_b, ↓hx_s, ↓hx_i, ↓hx_n, ↓hx_fld, ↓hx_isA, ↓hx_nt, ↓hx_and, ↓hx_ite, ↓hx_lst, ↓hx_tup, ↓hxs_nil, ↓hxs_cons, ↓ra_none, ↓ra_some, ↓x_calldB, ↓x_lw, ↓x_dct0, ↓x_v, ↓x_i, ↓x_b, ↓x_n, ↓x_st, ↓x_g, ↓x_tup, ↓x_lst, ↓x_bin, ↓x_neg, ↓x_nt, ↓x_cmp, ↓x_chain, ↓x_isN, ↓x_notN, ↓x_and, ↓x_or, ↓x_ite, ↓x_ix, ↓x_cut, ↓x_rev, ↓x_stp, ↓x_callB, ↓x_callkB, ↓x_bi, ↓x_comp, ↓x_pop, ↓x_popA, ↓x_jg, ↓x_jn, ↓x_jp, ↓x_scut, ↓x_slen, ↓srcK, ↓srcL, ↓t_yes, ↓t_and', ↓t_or', ↓t_nt', ↓t_ex, ↓e_nil, ↓e_cons, ↓a_nil', ↓a_cons', ↓rs_nil, ↓rs_cons, ↓frzS_v, ↓frzS_n, ↓asgs_nil, ↓asgs_cons, ↓rd_z, ↓rd_s, ↓set_z, ↓set_s, ↓at_mk, ↓isJar_j, ↓der_v, ↓der_n, ↓der_sl, ↓frz_v, ↓frz_n, ↓frz_sl, ↓asg_v, ↓asg_n, ↓asg_sl, ↓opW, ↓cmpW, ↓eqw_int, ↓eqw_str, ↓eqw_tup, ↓eqw_lst, ↓ordW, ↓truW, ↓noOw, ↓ixW, ↓biW, ↓tgW, ↓tgsW, ↓opwW, ↓itW, ↓wipe_nil, ↓wipe_cons, ↓unwipe, ↓isOw, true_and, Bool.and_true, Bool.not_true, Bool.not_false, Bool.false_eq_true, ↓reduceIte, ↓blk_ap]
  exact ⟨dk, dk, h⟩
theorem p_less {n : Nat} {g : Gh} {u v : P2} {K : D → Gh → Prop} {X : Exn → Gh → Prop} (h1 : MulOk u.1 v.2) (h2 : MulOk v.1 u.2) (h : K (.bool (decide (u.1 * v.2 < v.1 * u.2))) g) : callW T (n + 1) 8 [pD u, pD v] g K X := by
  refine call_df (np := 2) (ns := 2) (b := d8.b) rfl rfl ?_
  have e0 : startE 2 [pD u, pD v] g = ⟨[.fz (pD u), .fz (pD v)], g⟩ := rfl
  rw [e0]
  simp -implicitDefEqProofs only [↓s_cs, ↓nx_ap, ↓s_nil, ↓s_set, ↓s_par, ↓s_unp, ↓s_ret, ↓s_retN, ↓s_drop, ↓s_if, ↓s_whl, ↓s_for, ↓s_app, ↓s_ext, ↓s_put, ↓s_ja, ↓s_ji, ↓s_js, ↓s_jl, ↓s_rais, ↓s_pass, ↓s_brk, ↓s_cont, ↓s_tri, ↓hd_nil, ↓hd_cons, ↓un_s, ↓un_n, ↓hu_ret, ↓hu_ifr, ↓hx_b, ↓hx_s, ↓hx_i, ↓hx_n, ↓hx_fld, ↓hx_isA, ↓hx_nt, ↓hx_and, ↓hx_ite, ↓hx_lst, ↓hx_tup, ↓hxs_nil, ↓hxs_cons, ↓ra_none, ↓ra_some, ↓x_calldB, ↓x_lw, ↓x_dct0, ↓x_v, ↓x_i, ↓x_b, ↓x_n, ↓x_st, ↓x_g, ↓x_tup, ↓x_lst, ↓x_bin, ↓x_neg, ↓x_nt, ↓x_cmp, ↓x_chain, ↓x_isN, ↓x_notN, ↓x_and, ↓x_or, ↓x_ite, ↓x_ix, ↓x_cut, ↓x_rev, ↓x_stp, ↓x_callB, ↓x_callkB, ↓x_bi, ↓x_comp, ↓x_pop, ↓x_popA, ↓x_jg, ↓x_jn, ↓x_jp, ↓x_scut, ↓x_slen, ↓srcK, ↓srcL, ↓t_yes, ↓t_and', ↓t_or', ↓t_nt', ↓t_ex, ↓e_nil, ↓e_cons, ↓a_nil', ↓a_cons', ↓rs_nil, ↓rs_cons, ↓frzS_v, ↓frzS_n, ↓asgs_nil, ↓asgs_cons, ↓rd_z, ↓rd_s, ↓set_z, ↓set_s, ↓at_mk, ↓isJar_j, ↓der_v, ↓der_n, ↓der_sl, ↓frz_v, ↓frz_n, ↓frz_sl, ↓asg_v, ↓asg_n, ↓asg_sl, ↓opW, ↓cmpW, ↓eqw_int, ↓eqw_str, ↓eqw_tup, ↓eqw_lst, ↓ordW, ↓truW, ↓noOw, ↓ixW, ↓biW, ↓tgW, ↓tgsW, ↓opwW, ↓itW, ↓wipe_nil, ↓wipe_cons, ↓unwipe, ↓isOw, true_and, Bool.and_true, Bool.not_true, Bool.not_false, Bool.false_eq_true, ↓reduceIte, ↓blk_ap, ↓d8, pD, q0, q1]
  exact ⟨h1, h2, h⟩
theorem p_moved {n : Nat} {g : Gh} {u v : P2} {o d m : Int} {K : D → Gh → Prop} {X : Exn → Gh → Prop} (m1 : MulOk o u.2) (m2 : MulOk u.1 d) (m3 : MulOk v.1 d) (m4 : MulOk o v.2) (d1_ : DivOk (if v.1 * d - o * v.2 < 0 then -(v.1 * d - o * v.2) else v.1 * d - o * v.2)) (d2_ : DivOk v.2)
    (m5 : ∀ x, x = stepT (if o * u.2 - u.1 * d < 0 then -(o * u.2 - u.1 * d) else o * u.2 - u.1 * d) (if v.1 * d - o * v.2 < 0 then -(v.1 * d - o * v.2) else v.1 * d - o * v.2) u.2 v.2 m → MulOk x v.1 ∧ MulOk x v.2)
    (h : ∀ x, x = stepT (if o * u.2 - u.1 * d < 0 then -(o * u.2 - u.1 * d) else o * u.2 - u.1 * d) (if v.1 * d - o * v.2 < 0 then -(v.1 * d - o * v.2) else v.1 * d - o * v.2) u.2 v.2 m → K (pD (u.1 + x * v.1, u.2 + x * v.2)) g) : callW T (n + 1) 4 [pD u, pD v, .int o, .int d, .int m] g K X := by
  refine call_df (np := 5) (ns := 12) (b := d4.b) rfl rfl ?_
  have e0 : startE 12 [pD u, pD v, .int o, .int d, .int m] g = ⟨[.fz (pD u), .fz (pD v), .fz (.int o), .fz (.int d), .fz (.int m), .un, .un, .un, .un, .un, .un, .un], g⟩ := rfl
  rw [e0]
  simp -implicitDefEqProofs only [↓s_cs, ↓nx_ap, ↓s_nil, ↓s_set, ↓s_par, ↓s_unp, ↓s_ret, ↓s_retN, ↓s_drop, ↓s_if, ↓s_whl, ↓s_for, ↓s_app, ↓s_ext, ↓s_put, ↓s_ja, ↓s_ji, ↓s_js, ↓s_jl, ↓s_rais, ↓s_pass, ↓s_brk, ↓s_cont, ↓s_tri, ↓hd_nil, ↓hd_cons, ↓un_s, ↓un_n, ↓hu_ret, ↓hu_ifr, ↓hx_b, ↓hx_s, ↓hx_i, ↓hx_n, ↓hx_fld, ↓hx_isA, ↓hx_nt, ↓hx_and, ↓hx_ite, ↓hx_lst, ↓hx_tup, ↓hxs_nil, ↓hxs_cons, ↓ra_none, ↓ra_some, ↓x_calldB, ↓x_lw, ↓x_dct0, ↓x_v, ↓x_i, ↓x_b, ↓x_n, ↓x_st, ↓x_g, ↓x_tup, ↓x_lst, ↓x_bin, ↓x_neg, ↓x_nt, ↓x_cmp, ↓x_chain, ↓x_isN, ↓x_notN, ↓x_and, ↓x_or, ↓x_ite, ↓x_ix, ↓x_cut, ↓x_rev, ↓x_stp, ↓x_callB, ↓x_callkB, ↓x_bi, ↓x_comp, ↓x_pop, ↓x_popA, ↓x_jg, ↓x_jn, ↓x_jp, ↓x_scut, ↓x_slen, ↓srcK, ↓srcL, ↓t_yes, ↓t_and', ↓t_or', ↓t_nt', ↓t_ex, ↓e_nil, ↓e_cons, ↓a_nil', ↓a_cons', ↓rs_nil, ↓rs_cons, ↓frzS_v, ↓frzS_n, ↓asgs_nil, ↓asgs_cons, ↓rd_z, ↓rd_s, ↓set_z, ↓set_s, ↓at_mk, ↓isJar_j, ↓der_v, ↓der_n, ↓der_sl, ↓frz_v, ↓frz_n, ↓frz_sl, ↓asg_v, ↓asg_n, ↓asg_sl, ↓opW, ↓cmpW, ↓eqw_int, ↓eqw_str, ↓eqw_tup, ↓eqw_lst, ↓ordW, ↓truW, ↓noOw, ↓ixW, ↓biW, ↓tgW, ↓tgsW, ↓opwW, ↓itW, ↓wipe_nil, ↓wipe_cons, ↓unwipe, ↓isOw, true_and, Bool.and_true, Bool.not_true, Bool.not_false, Bool.false_eq_true, ↓reduceIte, ↓blk_ap, ↓d4, pD]
  refine ⟨m1, m2, m3, m4, d1_, d2_, (m5 _ rfl).1, (m5 _ rfl).2, h _ rfl⟩
end G19

-- BLK
set_option linter.all false
set_option maxRecDepth 100000
set_option exponentiation.threshold 200000
namespace G19
open PySem PySem.Spec PyProof.Rows L2 G
theorem mul_nb {a b : Int} {A B : Nat} (h1 : a.natAbs ≤ A) (h2 : b.natAbs ≤ B) : (a * b).natAbs ≤ A * B := by
  rw [Int.natAbs_mul]
  exact Nat.mul_le_mul h1 h2
/-- how great the numbers are -/
theorem Mid.bd {o u m : Int} {L H : P2} (h : Mid o u m L H) (ho : o.natAbs ≤ 10 ^ 41) (hm : m ≤ 10 ^ 40) (hu : 0 < u) : L.1.natAbs ≤ 10 ^ 125 ∧ H.1.natAbs ≤ 10 ^ 125 ∧ L.2.natAbs ≤ 10 ^ 40 ∧ H.2.natAbs ≤ 10 ^ 40 := by
  obtain ⟨p, r⟩ := L
  obtain ⟨s, t⟩ := H
  obtain ⟨l1, l2, h1, h2, det, lo, hi⟩ := h
  dsimp only at *
  have r40 : r.natAbs ≤ 10 ^ 40 := by omega
  have t40 : t.natAbs ≤ 10 ^ 40 := by omega
  have a1 := mul_nb ho r40
  have a2 := mul_nb ho t40
  have e1 : 10 ^ 41 * 10 ^ 40 = 10 ^ 81 := by decide
  rw [e1] at a1 a2
  have p1 : p < 10 ^ 81 := by
    rcases Int.lt_or_le p 0 with q | q
    · omega
    · have := Int.mul_le_mul_of_nonneg_left (show (1 : Int) ≤ u by omega) q
      omega
  have s1 : -(10 ^ 81) < s := by
    rcases Int.lt_or_le s 0 with q | q
    · have := Int.mul_le_mul_of_nonneg_left (show (1 : Int) ≤ u by omega) (show 0 ≤ -s by omega)
      rw [Int.neg_mul, Int.neg_mul] at this
      omega
    · omega
  have p2 : -(10 ^ 123) ≤ p := by
    rcases Int.lt_or_le p 0 with q | q
    · have x1 := Int.mul_le_mul_of_nonneg_left (show (1 : Int) ≤ t by omega) (show 0 ≤ -p by omega)
      rw [Int.neg_mul, Int.neg_mul] at x1
      have x2 : -(10 ^ 122) ≤ s * r := by
        rcases Int.lt_or_le s 0 with z | z
        · have := mul_nb (a := s) (b := r) (A := 10 ^ 81) (B := 10 ^ 40) (by omega) r40
          have e2 : 10 ^ 81 * 10 ^ 40 = 10 ^ 121 := by decide
          rw [e2] at this
          omega
        · have := Int.mul_nonneg z (show 0 ≤ r by omega)
          omega
      omega
    · omega
  have s2 : s ≤ 10 ^ 123 := by
    rcases Int.lt_or_le 0 s with q | q
    · have x1 := Int.mul_le_mul_of_nonneg_left (show (1 : Int) ≤ r by omega) (show 0 ≤ s by omega)
      have x2 : p * t ≤ 10 ^ 122 := by
        rcases Int.lt_or_le 0 p with z | z
        · have := mul_nb (a := p) (b := t) (A := 10 ^ 81) (B := 10 ^ 40) (by omega) t40
          have e2 : 10 ^ 81 * 10 ^ 40 = 10 ^ 121 := by decide
          rw [e2] at this
          omega
        · have := Int.mul_nonpos_of_nonpos_of_nonneg z (show 0 ≤ t by omega)
          omega
      omega
    · omega
  have e3 : (10 : Int) ^ 123 ≤ 10 ^ 125 := by decide
  exact ⟨by omega, by omega, r40, t40⟩
theorem ab_pos {a : Int} (h : 0 < a) : (if a < 0 then -a else a) = a := if_neg (by omega)
theorem b2 {a : Int} (h : a.natAbs ≤ 10 ^ 125) : a.natAbs < 2 ^ 700 := Nat.lt_of_le_of_lt h (by decide +kernel)
structure Ask (o u m : Int) : Prop where
  oB : o.natAbs ≤ 10 ^ 41
  u0 : 0 < u
  u1 : u ≤ 10 ^ 41
  m0 : 1 ≤ m
  m1 : m ≤ 10 ^ 40
  cop : Int.gcd o u = 1
theorem p_low {n : Nat} {g : Gh} {o u m : Int} {L H : P2} {K : D → Gh → Prop} {X : Exn → Gh → Prop} (a : Ask o u m) (hm : m < u) (h : Mid o u m L H)
    (hk : K (pD (L.1 + stepT (o * L.2 - L.1 * u) (H.1 * u - o * H.2) L.2 H.2 m * H.1, L.2 + stepT (o * L.2 - L.1 * u) (H.1 * u - o * H.2) L.2 H.2 m * H.2)) g) : callW T (n + 1) 4 [pD L, pD H, .int o, .int u, .int m] g K X := by
  obtain ⟨b1, b2_, b3, b4⟩ := h.bd a.oB a.m1 a.u0
  have lo := h.lo
  have hi := h.hi
  have ob := a.oB
  have ub := a.u1
  have u0 := a.u0
  have m1 := a.m1
  have l1 := h.l1
  have h1 := h.h1
  have l2 := h.l2
  have e1 := ab_pos (show 0 < o * L.2 - L.1 * u by omega)
  have e2 := ab_pos (show 0 < H.1 * u - o * H.2 by omega)
  have x1 := mul_nb (a := H.1) (b := u) (A := 10 ^ 125) (B := 10 ^ 41) b2_ (by omega)
  have x2 := mul_nb (a := o) (b := H.2) ob b4
  have e3 : 10 ^ 125 * 10 ^ 41 = 10 ^ 166 := by decide
  have e4 : 10 ^ 41 * 10 ^ 40 = 10 ^ 81 := by decide
  rw [e3] at x1
  rw [e4] at x2
  have big : (10 : Nat) ^ 167 < 2 ^ 700 := by decide +kernel
  have o700 : o.natAbs < 2 ^ 700 := Nat.lt_of_le_of_lt ob (by decide +kernel)
  have u700 : u.natAbs < 2 ^ 700 := Nat.lt_of_le_of_lt (show u.natAbs ≤ 10 ^ 41 by omega) (by decide +kernel)
  have L1 := b2 b1
  have H1 := b2 b2_
  have L2 : L.2.natAbs < 2 ^ 700 := Nat.lt_of_le_of_lt b3 (by decide +kernel)
  have H2 : H.2.natAbs < 2 ^ 700 := Nat.lt_of_le_of_lt b4 (by decide +kernel)
  refine p_moved (n := n) (mulB o700 L2) (mulB L1 u700) (mulB H1 u700) (mulB o700 H2) (by rw [e2]; exact divB (by omega) (by omega)) (divB (by omega) H2) ?_ ?_
  · intro x hx
    rw [e1, e2] at hx
    obtain ⟨k0, k1, k2⟩ := step_bd (a := o * L.2 - L.1 * u) (b := H.1 * u - o * H.2) (q := L.2) (t := H.2) (m := m) (by omega) (by omega) l2 (by omega)
    rw [← hx] at k0 k2
    have : x ≤ 10 ^ 40 := by
      have := Int.mul_le_mul_of_nonneg_left (show (1 : Int) ≤ H.2 by omega) k0
      omega
    have xb : x.natAbs < 2 ^ 700 := Nat.lt_of_le_of_lt (show x.natAbs ≤ 10 ^ 40 by omega) (by decide +kernel)
    exact ⟨mulB xb H1, mulB xb H2⟩
  · intro x hx
    rw [e1, e2] at hx
    rw [hx]
    exact hk
theorem p_high {n : Nat} {g : Gh} {o u m : Int} {L H : P2} {K : D → Gh → Prop} {X : Exn → Gh → Prop} (a : Ask o u m) (hm : m < u) (h : Mid o u m L H)
    (hk : K (pD (H.1 + stepT (H.1 * u - o * H.2) (o * L.2 - L.1 * u) H.2 L.2 m * L.1, H.2 + stepT (H.1 * u - o * H.2) (o * L.2 - L.1 * u) H.2 L.2 m * L.2)) g) : callW T (n + 1) 4 [pD H, pD L, .int o, .int u, .int m] g K X := by
  obtain ⟨b1, b2_, b3, b4⟩ := h.bd a.oB a.m1 a.u0
  have lo := h.lo
  have hi := h.hi
  have ob := a.oB
  have ub := a.u1
  have u0 := a.u0
  have m1 := a.m1
  have l1 := h.l1
  have h1 := h.h1
  have h2 := h.h2
  have e1 : (if o * H.2 - H.1 * u < 0 then -(o * H.2 - H.1 * u) else o * H.2 - H.1 * u) = H.1 * u - o * H.2 := by rw [if_pos (by omega)]; omega
  have e2 : (if L.1 * u - o * L.2 < 0 then -(L.1 * u - o * L.2) else L.1 * u - o * L.2) = o * L.2 - L.1 * u := by rw [if_pos (by omega)]; omega
  have x1 := mul_nb (a := L.1) (b := u) (A := 10 ^ 125) (B := 10 ^ 41) b1 (by omega)
  have x2 := mul_nb (a := o) (b := L.2) ob b3
  have e3 : 10 ^ 125 * 10 ^ 41 = 10 ^ 166 := by decide
  have e4 : 10 ^ 41 * 10 ^ 40 = 10 ^ 81 := by decide
  rw [e3] at x1
  rw [e4] at x2
  have big : (10 : Nat) ^ 167 < 2 ^ 700 := by decide +kernel
  have o700 : o.natAbs < 2 ^ 700 := Nat.lt_of_le_of_lt ob (by decide +kernel)
  have u700 : u.natAbs < 2 ^ 700 := Nat.lt_of_le_of_lt (show u.natAbs ≤ 10 ^ 41 by omega) (by decide +kernel)
  have L1 := b2 b1
  have H1 := b2 b2_
  have L2 : L.2.natAbs < 2 ^ 700 := Nat.lt_of_le_of_lt b3 (by decide +kernel)
  have H2 : H.2.natAbs < 2 ^ 700 := Nat.lt_of_le_of_lt b4 (by decide +kernel)
  refine p_moved (n := n) (mulB o700 H2) (mulB H1 u700) (mulB L1 u700) (mulB o700 L2) (by rw [e2]; exact divB (by omega) (by omega)) (divB (by omega) L2) ?_ ?_
  · intro x hx
    rw [e1, e2] at hx
    obtain ⟨k0, k1, k2⟩ := step_bd (a := H.1 * u - o * H.2) (b := o * L.2 - L.1 * u) (q := H.2) (t := L.2) (m := m) (by omega) (by omega) h2 (by omega)
    rw [← hx] at k0 k2
    have : x ≤ 10 ^ 40 := by
      have := Int.mul_le_mul_of_nonneg_left (show (1 : Int) ≤ L.2 by omega) k0
      omega
    have xb : x.natAbs < 2 ^ 700 := Nat.lt_of_le_of_lt (show x.natAbs ≤ 10 ^ 40 by omega) (by decide +kernel)
    exact ⟨mulB xb L1, mulB xb L2⟩
  · intro x hx
    rw [e1, e2] at hx
    rw [hx]
    exact hk
end G19

-- BLK
set_option linter.all false
set_option maxRecDepth 100000
set_option exponentiation.threshold 200000
namespace G19
open PySem PySem.Spec PyProof.Rows L2 G
theorem shaped_pp {a b : P2} : shaped (ppD a b) := show SeqAt.shaped _ = true from rfl
theorem eqv_pp {a b c d : P2} : PyData.eqv (ppD a b) (ppD c d) = decide (a = c ∧ b = d) := by
  obtain ⟨a1, a2⟩ := a
  obtain ⟨b1, b2⟩ := b
  obtain ⟨c1, c2⟩ := c
  obtain ⟨d1, d2⟩ := d
  unfold ppD pD
  simp only [PyData.eqv, PyData.eqvAll, Bool.and_true, Prod.mk.injEq, Bool.decide_and]
  rfl
theorem eqw_non {b : D} {K : Bool → Prop} : eqW .none b K = (shaped .none ∧ shaped b ∧ K (PyData.eqv .none b)) := rfl
theorem shaped_non : shaped .none := show SeqAt.shaped _ = true from rfl
def stepL (o u m : Int) (L H : P2) : P2 := (L.1 + stepT (o * L.2 - L.1 * u) (H.1 * u - o * H.2) L.2 H.2 m * H.1, L.2 + stepT (o * L.2 - L.1 * u) (H.1 * u - o * H.2) L.2 H.2 m * H.2)
def stepH (o u m : Int) (L H : P2) : P2 := (H.1 + stepT (H.1 * u - o * H.2) (o * L.2 - L.1 * u) H.2 L.2 m * L.1, H.2 + stepT (H.1 * u - o * H.2) (o * L.2 - L.1 * u) H.2 L.2 m * L.2)
theorem still {o u m : Int} {L H : P2} (h : Mid o u m L H) (e1 : stepL o u m L H = L) (e2 : stepH o u m L H = H) : m < L.2 + H.2 := by
  have lo := h.lo
  have hi := h.hi
  have l1 := h.l1
  have h1 := h.h1
  have f1 : stepT (o * L.2 - L.1 * u) (H.1 * u - o * H.2) L.2 H.2 m * H.2 = 0 := by
    have := congrArg Prod.snd e1
    unfold stepL at this
    dsimp only at this
    omega
  have f2 : stepT (H.1 * u - o * H.2) (o * L.2 - L.1 * u) H.2 L.2 m * L.2 = 0 := by
    have := congrArg Prod.snd e2
    unfold stepH at this
    dsimp only at this
    omega
  have g1 := (Int.mul_eq_zero.mp f1).resolve_right (by omega)
  have g2 := (Int.mul_eq_zero.mp f2).resolve_right (by omega)
  have z1 := step_0 (by omega) (by omega) h.l2 (by omega) g1
  have z2 := step_0 (by omega) (by omega) h.h2 (by omega) g2
  omega
theorem up1 {o u m : Int} {L H : P2} (h : Mid o u m L H) : L.2 ≤ (stepL o u m L H).2 ∧ ((stepL o u m L H).2 = L.2 → stepL o u m L H = L) := by
  have lo := h.lo
  have hi := h.hi
  have h1 := h.h1
  obtain ⟨k0, _, _⟩ := step_bd (a := o * L.2 - L.1 * u) (b := H.1 * u - o * H.2) (q := L.2) (t := H.2) (m := m) (by omega) (by omega) h.l2 (by omega)
  unfold stepL
  dsimp only
  generalize stepT (o * L.2 - L.1 * u) (H.1 * u - o * H.2) L.2 H.2 m = k at *
  refine ⟨by have := Int.mul_nonneg k0 (show 0 ≤ H.2 by omega); omega, fun e => ?_⟩
  have : k = 0 := (Int.mul_eq_zero.mp (show k * H.2 = 0 by omega)).resolve_right (by omega)
  subst this
  exact Prod.ext (by show L.1 + 0 * H.1 = L.1; omega) (by show L.2 + 0 * H.2 = L.2; omega)
theorem up2 {o u m : Int} {L H : P2} (h : Mid o u m L H) : H.2 ≤ (stepH o u m L H).2 ∧ ((stepH o u m L H).2 = H.2 → stepH o u m L H = H) := by
  have lo := h.lo
  have hi := h.hi
  have h1 := h.l1
  obtain ⟨k0, _, _⟩ := step_bd (a := H.1 * u - o * H.2) (b := o * L.2 - L.1 * u) (q := H.2) (t := L.2) (m := m) (by omega) (by omega) h.h2 (by omega)
  unfold stepH
  dsimp only
  generalize stepT (H.1 * u - o * H.2) (o * L.2 - L.1 * u) H.2 L.2 m = k at *
  refine ⟨by have := Int.mul_nonneg k0 (show 0 ≤ L.2 by omega); omega, fun e => ?_⟩
  have : k = 0 := (Int.mul_eq_zero.mp (show k * L.2 = 0 by omega)).resolve_right (by omega)
  subst this
  exact Prod.ext (by show H.1 + 0 * L.1 = H.1; omega) (by show H.2 + 0 * L.2 = H.2; omega)
theorem mid0 {o u m : Int} (a : Ask o u m) (hm : m < u) : Mid o u m (o.fdiv u, 1) (o.fdiv u + 1, 1) := by
  have u0 := a.u0
  have m0 := a.m0
  have e : o.fdiv u = o / u := Int.fdiv_eq_ediv_of_nonneg _ (by omega)
  rw [e]
  have d1 := Int.ediv_mul_le o (show u ≠ 0 by omega)
  have d2 := Int.lt_ediv_add_one_mul_self o u0
  have ne := no_hit (a := o / u) a.cop (show (0 : Int) < 1 by decide) (by omega)
  exact ⟨by dsimp only; omega, m0, by dsimp only; omega, m0, by dsimp only; omega, by dsimp only; omega, by dsimp only; omega⟩
theorem p_near {n : Nat} {g : Gh} {o u m : Int} {K : D → Gh → Prop} {X : Exn → Gh → Prop} (a : Ask o u m) (h : ∀ L H, Near o u m L H → K (ppD L H) g) : callW T (n + 2) 5 [.int o, .int u, .int m] g K X := by
  refine call_df (np := 3) (ns := 6) (b := d5.b) rfl rfl ?_
  have e0 : startE 6 [.int o, .int u, .int m] g = ⟨[.fz (.int o), .fz (.int u), .fz (.int m), .un, .un, .un], g⟩ := rfl
  rw [e0]
  have u0 := a.u0
  have dk : DivOk u := divB u0 (Nat.lt_of_le_of_lt (show u.natAbs ≤ 10 ^ 41 by have := a.u1; omega) (by decide +kernel))
  simp -implicitDefEqProofs only [↓s_cs, ↓nx_ap, ↓s_nil, ↓s_set, ↓s_par, ↓s_unp, ↓s_ret, ↓s_retN, ↓s_drop, ↓s_if, ↓s_whl, ↓s_for, ↓s_app, ↓s_ext, ↓s_put, ↓s_ja, ↓s_ji, ↓s_js, ↓s_jl, ↓s_rais, ↓s_pass, ↓s_brk, ↓s_cont, ↓s_tri, ↓hd_nil, ↓hd_cons, ↓un_s, ↓un_n, ↓hu_ret, ↓hu_ifr, ↓hx_b, ↓hx_s, ↓hx_i, ↓hx_n, ↓hx_fld, ↓hx_isA, ↓hx_nt, ↓hx_and, ↓hx_ite, ↓hx_lst, ↓hx_tup, ↓hxs_nil, ↓hxs_cons, ↓ra_none, ↓ra_some, ↓x_calldB, ↓x_lw, ↓x_dct0, ↓x_v, ↓x_i, ↓x_b, ↓x_n, ↓x_st, ↓x_g, ↓x_tup, ↓x_lst, ↓x_bin, ↓x_neg, ↓x_nt, ↓x_cmp, ↓x_chain, ↓x_isN, ↓x_notN, ↓x_and, ↓x_or, ↓x_ite, ↓x_ix, ↓x_cut, ↓x_rev, ↓x_stp, ↓x_callB, ↓x_callkB, ↓x_bi, ↓x_comp, ↓x_pop, ↓x_popA, ↓x_jg, ↓x_jn, ↓x_jp, ↓x_scut, ↓x_slen, ↓srcK, ↓srcL, ↓t_yes, ↓t_and', ↓t_or', ↓t_nt', ↓t_ex, ↓e_nil, ↓e_cons, ↓a_nil', ↓a_cons', ↓rs_nil, ↓rs_cons, ↓frzS_v, ↓frzS_n, ↓asgs_nil, ↓asgs_cons, ↓rd_z, ↓rd_s, ↓set_z, ↓set_s, ↓at_mk, ↓isJar_j, ↓der_v, ↓der_n, ↓der_sl, ↓frz_v, ↓frz_n, ↓frz_sl, ↓asg_v, ↓asg_n, ↓asg_sl, ↓opW, ↓cmpW, ↓eqw_int, ↓eqw_str, ↓eqw_tup, ↓eqw_lst, ↓ordW, ↓truW, ↓noOw, ↓ixW, ↓biW, ↓tgW, ↓tgsW, ↓opwW, ↓itW, ↓wipe_nil, ↓wipe_cons, ↓unwipe, ↓isOw, true_and, Bool.and_true, Bool.not_true, Bool.not_false, Bool.false_eq_true, ↓reduceIte, ↓blk_ap, ↓d5]
  by_cases q : u ≤ m
  · rw [if_pos (decide_eq_true q)]
    exact h (o, u) (o, u) (by unfold Near; rw [if_pos q]; exact ⟨rfl, rfl⟩)
  rw [if_neg (by rw [decide_eq_true_eq]; exact q)]
  have hm : m < u := by omega
  refine ⟨dk, dk, ?_⟩
  refine whl_inv (fun k r => ∃ (L H : P2) (last : D), r = ⟨[.fz (.int o), .fz (.int u), .fz (.int m), .fz (pD L), .fz (pD H), .fz last], g⟩ ∧ Mid o u m L H ∧
      ((last = .none ∧ k = 2 * (2 * m - L.2 - H.2).toNat + 1) ∨ ∃ L0 H0, last = ppD L0 H0 ∧ Mid o u m L0 H0 ∧ L = stepL o u m L0 H0 ∧ H = stepH o u m (stepL o u m L0 H0) H0 ∧ k = 2 * (2 * m - L.2 - H.2).toNat + if L0 = L ∧ H0 = H then 0 else 1)) (m := 2 * (2 * m - 1 - 1).toNat + 1) ⟨(o.fdiv u, 1), (o.fdiv u + 1, 1), .none, rfl, mid0 a hm, .inl ⟨rfl, rfl⟩⟩ ?_
  rintro k r ⟨L, H, last, rfl, M, hl⟩
  have body : ∀ last : D, k = 2 * (2 * m - L.2 - H.2).toNat + 1 → whB (callW T (n + 1)) T.sub d5_1 { nx := nxS (callW T (n + 1)) T.sub (.cons (.ret (.tup (.cons (.v 3) (.cons (.v 4) .nil)))) .nil) { nx := fun r => K .none r.g, rt := fun d r => K d r.g, bk := fun _ => False, ct := fun _ => False, ex := fun e r => X e r.g }, rt := fun d r => K d r.g, bk := fun _ => False, ct := fun _ => False, ex := fun e r => X e r.g } ⟨[.fz (.int o), .fz (.int u), .fz (.int m), .fz (pD L), .fz (pD H), .fz last], g⟩ fun r2 => ∃ m', m' < k ∧ ∃ (L H : P2) (last : D), r2 = ⟨[.fz (.int o), .fz (.int u), .fz (.int m), .fz (pD L), .fz (pD H), .fz last], g⟩ ∧ Mid o u m L H ∧
      ((last = .none ∧ m' = 2 * (2 * m - L.2 - H.2).toNat + 1) ∨ ∃ L0 H0, last = ppD L0 H0 ∧ Mid o u m L0 H0 ∧ L = stepL o u m L0 H0 ∧ H = stepH o u m (stepL o u m L0 H0) H0 ∧ m' = 2 * (2 * m - L.2 - H.2).toNat + if L0 = L ∧ H0 = H then 0 else 1) := by
    intro last hk
    unfold whB
    simp -implicitDefEqProofs only [↓s_cs, ↓nx_ap, ↓s_nil, ↓s_set, ↓s_par, ↓s_unp, ↓s_ret, ↓s_retN, ↓s_drop, ↓s_if, ↓s_whl, ↓s_for, ↓s_app, ↓s_ext, ↓s_put, ↓s_ja, ↓s_ji, ↓s_js, ↓s_jl, ↓s_rais, ↓s_pass, ↓s_brk, ↓s_cont, ↓s_tri, ↓hd_nil, ↓hd_cons, ↓un_s, ↓un_n, ↓hu_ret, ↓hu_ifr, ↓hx_b, ↓hx_s, ↓hx_i, ↓hx_n, ↓hx_fld, ↓hx_isA, ↓hx_nt, ↓hx_and, ↓hx_ite, ↓hx_lst, ↓hx_tup, ↓hxs_nil, ↓hxs_cons, ↓ra_none, ↓ra_some, ↓x_calldB, ↓x_lw, ↓x_dct0, ↓x_v, ↓x_i, ↓x_b, ↓x_n, ↓x_st, ↓x_g, ↓x_tup, ↓x_lst, ↓x_bin, ↓x_neg, ↓x_nt, ↓x_cmp, ↓x_chain, ↓x_isN, ↓x_notN, ↓x_and, ↓x_or, ↓x_ite, ↓x_ix, ↓x_cut, ↓x_rev, ↓x_stp, ↓x_callB, ↓x_callkB, ↓x_bi, ↓x_comp, ↓x_pop, ↓x_popA, ↓x_jg, ↓x_jn, ↓x_jp, ↓x_scut, ↓x_slen, ↓srcK, ↓srcL, ↓t_yes, ↓t_and', ↓t_or', ↓t_nt', ↓t_ex, ↓e_nil, ↓e_cons, ↓a_nil', ↓a_cons', ↓rs_nil, ↓rs_cons, ↓frzS_v, ↓frzS_n, ↓asgs_nil, ↓asgs_cons, ↓rd_z, ↓rd_s, ↓set_z, ↓set_s, ↓at_mk, ↓isJar_j, ↓der_v, ↓der_n, ↓der_sl, ↓frz_v, ↓frz_n, ↓frz_sl, ↓asg_v, ↓asg_n, ↓asg_sl, ↓opW, ↓cmpW, ↓eqw_int, ↓eqw_str, ↓eqw_tup, ↓eqw_lst, ↓ordW, ↓truW, ↓noOw, ↓ixW, ↓biW, ↓tgW, ↓tgsW, ↓opwW, ↓itW, ↓wipe_nil, ↓wipe_cons, ↓unwipe, ↓isOw, true_and, Bool.and_true, Bool.not_true, Bool.not_false, Bool.false_eq_true, ↓reduceIte, ↓blk_ap, ↓d5_1]
    refine p_low (n := n) a hm M ?_
    have ML := M.lowS a.cop hm
    have eL : (L.1 + stepT (o * L.2 - L.1 * u) (H.1 * u - o * H.2) L.2 H.2 m * H.1, L.2 + stepT (o * L.2 - L.1 * u) (H.1 * u - o * H.2) L.2 H.2 m * H.2) = stepL o u m L H := rfl
    rw [eL] at ML ⊢
    try simp -implicitDefEqProofs only [↓s_cs, ↓nx_ap, ↓s_nil, ↓s_set, ↓s_par, ↓s_unp, ↓s_ret, ↓s_retN, ↓s_drop, ↓s_if, ↓s_whl, ↓s_for, ↓s_app, ↓s_ext, ↓s_put, ↓s_ja, ↓s_ji, ↓s_js, ↓s_jl, ↓s_rais, ↓s_pass, ↓s_brk, ↓s_cont, ↓s_tri, ↓hd_nil, ↓hd_cons, ↓un_s, ↓un_n, ↓hu_ret, ↓hu_ifr, ↓hx_b, ↓hx_s, ↓hx_i, ↓hx_n, ↓hx_fld, ↓hx_isA, ↓hx_nt, ↓hx_and, ↓hx_ite, ↓hx_lst, ↓hx_tup, ↓hxs_nil, ↓hxs_cons, ↓ra_none, ↓ra_some, ↓x_calldB, ↓x_lw, ↓x_dct0, ↓x_v, ↓x_i, ↓x_b, ↓x_n, ↓x_st, ↓x_g, ↓x_tup, ↓x_lst, ↓x_bin, ↓x_neg, ↓x_nt, ↓x_cmp, ↓x_chain, ↓x_isN, ↓x_notN, ↓x_and, ↓x_or, ↓x_ite, ↓x_ix, ↓x_cut, ↓x_rev, ↓x_stp, ↓x_callB, ↓x_callkB, ↓x_bi, ↓x_comp, ↓x_pop, ↓x_popA, ↓x_jg, ↓x_jn, ↓x_jp, ↓x_scut, ↓x_slen, ↓srcK, ↓srcL, ↓t_yes, ↓t_and', ↓t_or', ↓t_nt', ↓t_ex, ↓e_nil, ↓e_cons, ↓a_nil', ↓a_cons', ↓rs_nil, ↓rs_cons, ↓frzS_v, ↓frzS_n, ↓asgs_nil, ↓asgs_cons, ↓rd_z, ↓rd_s, ↓set_z, ↓set_s, ↓at_mk, ↓isJar_j, ↓der_v, ↓der_n, ↓der_sl, ↓frz_v, ↓frz_n, ↓frz_sl, ↓asg_v, ↓asg_n, ↓asg_sl, ↓opW, ↓cmpW, ↓eqw_int, ↓eqw_str, ↓eqw_tup, ↓eqw_lst, ↓ordW, ↓truW, ↓noOw, ↓ixW, ↓biW, ↓tgW, ↓tgsW, ↓opwW, ↓itW, ↓wipe_nil, ↓wipe_cons, ↓unwipe, ↓isOw, true_and, Bool.and_true, Bool.not_true, Bool.not_false, Bool.false_eq_true, ↓reduceIte, ↓blk_ap]
    refine p_high (n := n) a hm ML ?_
    have MH := ML.highS a.cop hm
    have u1' := up1 M
    have u2' := up2 ML
    have eH : (H.1 + stepT (H.1 * u - o * H.2) (o * (stepL o u m L H).2 - (stepL o u m L H).1 * u) H.2 (stepL o u m L H).2 m * (stepL o u m L H).1, H.2 + stepT (H.1 * u - o * H.2) (o * (stepL o u m L H).2 - (stepL o u m L H).1 * u) H.2 (stepL o u m L H).2 m * (stepL o u m L H).2) = stepH o u m (stepL o u m L H) H := rfl
    rw [eH] at MH ⊢
    try simp -implicitDefEqProofs only [↓s_cs, ↓nx_ap, ↓s_nil, ↓s_set, ↓s_par, ↓s_unp, ↓s_ret, ↓s_retN, ↓s_drop, ↓s_if, ↓s_whl, ↓s_for, ↓s_app, ↓s_ext, ↓s_put, ↓s_ja, ↓s_ji, ↓s_js, ↓s_jl, ↓s_rais, ↓s_pass, ↓s_brk, ↓s_cont, ↓s_tri, ↓hd_nil, ↓hd_cons, ↓un_s, ↓un_n, ↓hu_ret, ↓hu_ifr, ↓hx_b, ↓hx_s, ↓hx_i, ↓hx_n, ↓hx_fld, ↓hx_isA, ↓hx_nt, ↓hx_and, ↓hx_ite, ↓hx_lst, ↓hx_tup, ↓hxs_nil, ↓hxs_cons, ↓ra_none, ↓ra_some, ↓x_calldB, ↓x_lw, ↓x_dct0, ↓x_v, ↓x_i, ↓x_b, ↓x_n, ↓x_st, ↓x_g, ↓x_tup, ↓x_lst, ↓x_bin, ↓x_neg, ↓x_nt, ↓x_cmp, ↓x_chain, ↓x_isN, ↓x_notN, ↓x_and, ↓x_or, ↓x_ite, ↓x_ix, ↓x_cut, ↓x_rev, ↓x_stp, ↓x_callB, ↓x_callkB, ↓x_bi, ↓x_comp, ↓x_pop, ↓x_popA, ↓x_jg, ↓x_jn, ↓x_jp, ↓x_scut, ↓x_slen, ↓srcK, ↓srcL, ↓t_yes, ↓t_and', ↓t_or', ↓t_nt', ↓t_ex, ↓e_nil, ↓e_cons, ↓a_nil', ↓a_cons', ↓rs_nil, ↓rs_cons, ↓frzS_v, ↓frzS_n, ↓asgs_nil, ↓asgs_cons, ↓rd_z, ↓rd_s, ↓set_z, ↓set_s, ↓at_mk, ↓isJar_j, ↓der_v, ↓der_n, ↓der_sl, ↓frz_v, ↓frz_n, ↓frz_sl, ↓asg_v, ↓asg_n, ↓asg_sl, ↓opW, ↓cmpW, ↓eqw_int, ↓eqw_str, ↓eqw_tup, ↓eqw_lst, ↓ordW, ↓truW, ↓noOw, ↓ixW, ↓biW, ↓tgW, ↓tgsW, ↓opwW, ↓itW, ↓wipe_nil, ↓wipe_cons, ↓unwipe, ↓isOw, true_and, Bool.and_true, Bool.not_true, Bool.not_false, Bool.false_eq_true, ↓reduceIte, ↓blk_ap]
    refine ⟨_, ?_, _, _, _, rfl, MH, .inr ⟨L, H, rfl, M, rfl, rfl, rfl⟩⟩
    have b1 := MH.l2
    have b2 := MH.h2
    split
    · rename_i e
      have f1 : (stepL o u m L H).2 = L.2 := (congrArg Prod.snd e.1).symm
      have f2 : (stepH o u m (stepL o u m L H) H).2 = H.2 := (congrArg Prod.snd e.2).symm
      omega
    · rename_i e
      have : (stepL o u m L H).2 ≠ L.2 ∨ (stepH o u m (stepL o u m L H) H).2 ≠ H.2 := by
        rcases Decidable.em ((stepL o u m L H).2 = L.2) with z | z
        · right
          intro z2
          exact e ⟨(u1'.2 z).symm, (u2'.2 z2).symm⟩
        · exact .inl z
      omega
  unfold whT
  rcases hl with ⟨rfl, hk⟩ | ⟨L0, H0, rfl, M0, eL, eH, hk⟩
  · try simp -implicitDefEqProofs only [↓s_cs, ↓nx_ap, ↓s_nil, ↓s_set, ↓s_par, ↓s_unp, ↓s_ret, ↓s_retN, ↓s_drop, ↓s_if, ↓s_whl, ↓s_for, ↓s_app, ↓s_ext, ↓s_put, ↓s_ja, ↓s_ji, ↓s_js, ↓s_jl, ↓s_rais, ↓s_pass, ↓s_brk, ↓s_cont, ↓s_tri, ↓hd_nil, ↓hd_cons, ↓un_s, ↓un_n, ↓hu_ret, ↓hu_ifr, ↓hx_b, ↓hx_s, ↓hx_i, ↓hx_n, ↓hx_fld, ↓hx_isA, ↓hx_nt, ↓hx_and, ↓hx_ite, ↓hx_lst, ↓hx_tup, ↓hxs_nil, ↓hxs_cons, ↓ra_none, ↓ra_some, ↓x_calldB, ↓x_lw, ↓x_dct0, ↓x_v, ↓x_i, ↓x_b, ↓x_n, ↓x_st, ↓x_g, ↓x_tup, ↓x_lst, ↓x_bin, ↓x_neg, ↓x_nt, ↓x_cmp, ↓x_chain, ↓x_isN, ↓x_notN, ↓x_and, ↓x_or, ↓x_ite, ↓x_ix, ↓x_cut, ↓x_rev, ↓x_stp, ↓x_callB, ↓x_callkB, ↓x_bi, ↓x_comp, ↓x_pop, ↓x_popA, ↓x_jg, ↓x_jn, ↓x_jp, ↓x_scut, ↓x_slen, ↓srcK, ↓srcL, ↓t_yes, ↓t_and', ↓t_or', ↓t_nt', ↓t_ex, ↓e_nil, ↓e_cons, ↓a_nil', ↓a_cons', ↓rs_nil, ↓rs_cons, ↓frzS_v, ↓frzS_n, ↓asgs_nil, ↓asgs_cons, ↓rd_z, ↓rd_s, ↓set_z, ↓set_s, ↓at_mk, ↓isJar_j, ↓der_v, ↓der_n, ↓der_sl, ↓frz_v, ↓frz_n, ↓frz_sl, ↓asg_v, ↓asg_n, ↓asg_sl, ↓opW, ↓cmpW, ↓eqw_int, ↓eqw_str, ↓eqw_tup, ↓eqw_lst, ↓ordW, ↓truW, ↓noOw, ↓ixW, ↓biW, ↓tgW, ↓tgsW, ↓opwW, ↓itW, ↓wipe_nil, ↓wipe_cons, ↓unwipe, ↓isOw, true_and, Bool.and_true, Bool.not_true, Bool.not_false, Bool.false_eq_true, ↓reduceIte, ↓blk_ap, eqw_non]
    refine ⟨shaped_non, shaped_pp, ?_⟩
    rw [show PyData.eqv .none (.tuple [pD L, pD H]) = false from by simp only [PyData.eqv]]
    rw [if_pos (by decide)]
    exact body _ hk
  · have ew : ∀ {Q : Bool → Prop}, eqW (ppD L0 H0) (.tuple [pD L, pD H]) Q = (shaped (ppD L0 H0) ∧ shaped (ppD L H) ∧ Q (PyData.eqv (ppD L0 H0) (ppD L H))) := fun {Q} => rfl
    try simp -implicitDefEqProofs only [↓s_cs, ↓nx_ap, ↓s_nil, ↓s_set, ↓s_par, ↓s_unp, ↓s_ret, ↓s_retN, ↓s_drop, ↓s_if, ↓s_whl, ↓s_for, ↓s_app, ↓s_ext, ↓s_put, ↓s_ja, ↓s_ji, ↓s_js, ↓s_jl, ↓s_rais, ↓s_pass, ↓s_brk, ↓s_cont, ↓s_tri, ↓hd_nil, ↓hd_cons, ↓un_s, ↓un_n, ↓hu_ret, ↓hu_ifr, ↓hx_b, ↓hx_s, ↓hx_i, ↓hx_n, ↓hx_fld, ↓hx_isA, ↓hx_nt, ↓hx_and, ↓hx_ite, ↓hx_lst, ↓hx_tup, ↓hxs_nil, ↓hxs_cons, ↓ra_none, ↓ra_some, ↓x_calldB, ↓x_lw, ↓x_dct0, ↓x_v, ↓x_i, ↓x_b, ↓x_n, ↓x_st, ↓x_g, ↓x_tup, ↓x_lst, ↓x_bin, ↓x_neg, ↓x_nt, ↓x_cmp, ↓x_chain, ↓x_isN, ↓x_notN, ↓x_and, ↓x_or, ↓x_ite, ↓x_ix, ↓x_cut, ↓x_rev, ↓x_stp, ↓x_callB, ↓x_callkB, ↓x_bi, ↓x_comp, ↓x_pop, ↓x_popA, ↓x_jg, ↓x_jn, ↓x_jp, ↓x_scut, ↓x_slen, ↓srcK, ↓srcL, ↓t_yes, ↓t_and', ↓t_or', ↓t_nt', ↓t_ex, ↓e_nil, ↓e_cons, ↓a_nil', ↓a_cons', ↓rs_nil, ↓rs_cons, ↓frzS_v, ↓frzS_n, ↓asgs_nil, ↓asgs_cons, ↓rd_z, ↓rd_s, ↓set_z, ↓set_s, ↓at_mk, ↓isJar_j, ↓der_v, ↓der_n, ↓der_sl, ↓frz_v, ↓frz_n, ↓frz_sl, ↓asg_v, ↓asg_n, ↓asg_sl, ↓opW, ↓cmpW, ↓eqw_int, ↓eqw_str, ↓eqw_tup, ↓eqw_lst, ↓ordW, ↓truW, ↓noOw, ↓ixW, ↓biW, ↓tgW, ↓tgsW, ↓opwW, ↓itW, ↓wipe_nil, ↓wipe_cons, ↓unwipe, ↓isOw, true_and, Bool.and_true, Bool.not_true, Bool.not_false, Bool.false_eq_true, ↓reduceIte, ↓blk_ap, ew, eqv_pp]
    refine ⟨shaped_pp, shaped_pp, ?_⟩
    by_cases e : L0 = L ∧ H0 = H
    · rw [decide_eq_true e, if_neg (by decide)]
      try simp -implicitDefEqProofs only [↓s_cs, ↓nx_ap, ↓s_nil, ↓s_set, ↓s_par, ↓s_unp, ↓s_ret, ↓s_retN, ↓s_drop, ↓s_if, ↓s_whl, ↓s_for, ↓s_app, ↓s_ext, ↓s_put, ↓s_ja, ↓s_ji, ↓s_js, ↓s_jl, ↓s_rais, ↓s_pass, ↓s_brk, ↓s_cont, ↓s_tri, ↓hd_nil, ↓hd_cons, ↓un_s, ↓un_n, ↓hu_ret, ↓hu_ifr, ↓hx_b, ↓hx_s, ↓hx_i, ↓hx_n, ↓hx_fld, ↓hx_isA, ↓hx_nt, ↓hx_and, ↓hx_ite, ↓hx_lst, ↓hx_tup, ↓hxs_nil, ↓hxs_cons, ↓ra_none, ↓ra_some, ↓x_calldB, ↓x_lw, ↓x_dct0, ↓x_v, ↓x_i, ↓x_b, ↓x_n, ↓x_st, ↓x_g, ↓x_tup, ↓x_lst, ↓x_bin, ↓x_neg, ↓x_nt, ↓x_cmp, ↓x_chain, ↓x_isN, ↓x_notN, ↓x_and, ↓x_or, ↓x_ite, ↓x_ix, ↓x_cut, ↓x_rev, ↓x_stp, ↓x_callB, ↓x_callkB, ↓x_bi, ↓x_comp, ↓x_pop, ↓x_popA, ↓x_jg, ↓x_jn, ↓x_jp, ↓x_scut, ↓x_slen, ↓srcK, ↓srcL, ↓t_yes, ↓t_and', ↓t_or', ↓t_nt', ↓t_ex, ↓e_nil, ↓e_cons, ↓a_nil', ↓a_cons', ↓rs_nil, ↓rs_cons, ↓frzS_v, ↓frzS_n, ↓asgs_nil, ↓asgs_cons, ↓rd_z, ↓rd_s, ↓set_z, ↓set_s, ↓at_mk, ↓isJar_j, ↓der_v, ↓der_n, ↓der_sl, ↓frz_v, ↓frz_n, ↓frz_sl, ↓asg_v, ↓asg_n, ↓asg_sl, ↓opW, ↓cmpW, ↓eqw_int, ↓eqw_str, ↓eqw_tup, ↓eqw_lst, ↓ordW, ↓truW, ↓noOw, ↓ixW, ↓biW, ↓tgW, ↓tgsW, ↓opwW, ↓itW, ↓wipe_nil, ↓wipe_cons, ↓unwipe, ↓isOw, true_and, Bool.and_true, Bool.not_true, Bool.not_false, Bool.false_eq_true, ↓reduceIte, ↓blk_ap]
      refine h L H ?_
      unfold Near
      rw [if_neg q]
      obtain ⟨rfl, rfl⟩ := e
      rw [← eL] at eH
      exact ⟨M, still M eL.symm eH.symm⟩
    · rw [decide_eq_false e, if_pos (by decide)]
      rw [if_neg e] at hk
      exact body _ hk
end G19

-- BLK
set_option linter.all false
set_option maxRecDepth 100000
set_option exponentiation.threshold 200000
namespace G19
open PySem PySem.Spec PyProof.Rows L2 G
/-- may be shown and compared -/
structure VS (dp m : Nat) (d : D) : Prop where
  v : G.Val dp m d
  s : Shp dp d
theorem VS.mono {dp dp' m m' : Nat} {d : D} (h : VS dp m d) (h1 : dp ≤ dp') (h2 : m ≤ m') : VS dp' m' d := ⟨h.v.mono h1 h2, h.s.mono h1⟩
theorem vs_int {x : Int} {m : Nat} (h : x.natAbs < 10 ^ 200) (hm : 201 ≤ m) : VS 0 m (.int x) := ⟨i_val h hm, shp_int⟩
theorem vs_non : VS 0 4 .none := ⟨val_non, rfl, Nat.le_refl _⟩
theorem vs_bool {b : Bool} : VS 0 5 (.bool b) := ⟨val_bool, rfl, Nat.le_refl _⟩
theorem vs_str {s : Str} {m : Nat} (h : (PyData.str s).shown.length ≤ m) (h2 : (PyData.str s).canLay0 = true) : VS 0 m (.str s) := ⟨s_val h, h2, Nat.le_refl _⟩
theorem vs_tup {dp m c : Nat} {ds : List D} (h : ∀ d ∈ ds, VS dp m d) (hl : ds.length ≤ c) : VS (dp + 1) (c * (m + 2) + 4) (.tuple ds) := ⟨val_tup (fun d hd => (h d hd).v) hl, shp_tup fun d hd => (h d hd).s⟩
theorem vs_lst {dp m c : Nat} {ds : List D} (h : ∀ d ∈ ds, VS dp m d) (hl : ds.length ≤ c) : VS (dp + 1) (c * (m + 2) + 4) (.list ds) := ⟨val_lst (fun d hd => (h d hd).v) hl, shp_lst fun d hd => (h d hd).s⟩
theorem nd_mem : ∀ {ds : List D}, PyData.hasDictAll ds = false → ∀ d ∈ ds, d.hasDict = false
  | [], _, d, h => by cases h
  | x :: xs, hh, d, h => by
    simp only [PyData.hasDictAll, Bool.or_eq_false_iff] at hh
    rcases List.mem_cons.mp h with rfl | h
    · exact hh.1
    · exact nd_mem hh.2 d h
theorem sh_all : ∀ {n : Nat} {ds : List D}, PyData.canLayAll0 ds = true → PyData.depthAll ds ≤ n → ∀ d ∈ ds, Shp n d
  | n, [], _, _, d, hd => by cases hd
  | n, x :: xs, h1, h2, d, hd => by
    simp only [PyData.canLayAll0, Bool.and_eq_true] at h1
    simp only [PyData.depthAll] at h2
    rcases List.mem_cons.mp hd with rfl | hd
    · exact ⟨h1.1, by omega⟩
    · exact sh_all h1.2 (by omega) d hd
theorem sh_mem {n : Nat} {ds : List D} (h : Shp (n + 1) (.tuple ds)) : ∀ d ∈ ds, Shp n d := by
  obtain ⟨h1, h2⟩ := h
  simp only [PyData.canLay0] at h1
  simp only [PyData.depth] at h2
  exact sh_all h1 (by omega)
def isNum (d : D) : Bool := isD .isInt d && !isD .isBool d
theorem num_int {d : D} (h : isNum d = true) : ∃ i, d = .int i := by
  cases d with
  | int i => exact ⟨i, rfl⟩
  | bool b => cases h
  | _ => cases h
def isFrac (d : D) : Bool := match d with | .tuple [.int x, .int y] => decide (0 < y) && decide (Int.gcd x y = 1) | _ => false
theorem isFrac_pt {d : D} (h : isFrac d = true) : ∃ u : P2, d = pD u ∧ 0 < u.2 ∧ Int.gcd u.1 u.2 = 1 := by
  unfold isFrac at h
  split at h
  · rename_i x y
    rw [Bool.and_eq_true, decide_eq_true_eq, decide_eq_true_eq] at h
    exact ⟨(x, y), rfl, h.1, h.2⟩
  · cases h
theorem frac_len {ds : List D} (h : ds.length ≠ 2) : isFrac (.tuple ds) = false := by
  unfold isFrac
  split
  · rename_i e; cases e; exact absurd rfl h
  · rfl
theorem frac_num {a b : D} (h : ¬ (isNum a = true ∧ isNum b = true)) : isFrac (.tuple [a, b]) = false := by
  unfold isFrac
  split
  · rename_i e; cases e; exact absurd ⟨rfl, rfl⟩ h
  · rfl
theorem p_lfrac {n : Nat} {g : Gh} {d : D} {K : D → Gh → Prop} {X : Exn → Gh → Prop} (hn : d.hasDict = false) (hs : Shp 5 d) (h : K (.bool (isFrac d)) g) : callW T (n + 2) 7 [d] g K X := by
  refine call_df (np := 1) (ns := 2) (b := d7.b) rfl rfl ?_
  have e0 : startE 2 [d] g = ⟨[.fz d, .un], g⟩ := rfl
  rw [e0]
  simp -implicitDefEqProofs only [↓s_cs, ↓nx_ap, ↓s_nil, ↓s_set, ↓s_par, ↓s_unp, ↓s_ret, ↓s_retN, ↓s_drop, ↓s_if, ↓s_whl, ↓s_for, ↓s_app, ↓s_ext, ↓s_put, ↓s_ja, ↓s_ji, ↓s_js, ↓s_jl, ↓s_rais, ↓s_pass, ↓s_brk, ↓s_cont, ↓s_tri, ↓hd_nil, ↓hd_cons, ↓un_s, ↓un_n, ↓hu_ret, ↓hu_ifr, ↓hx_b, ↓hx_s, ↓hx_i, ↓hx_n, ↓hx_fld, ↓hx_isA, ↓hx_nt, ↓hx_and, ↓hx_ite, ↓hx_lst, ↓hx_tup, ↓hxs_nil, ↓hxs_cons, ↓ra_none, ↓ra_some, ↓x_calldB, ↓x_lw, ↓x_dct0, ↓x_v, ↓x_i, ↓x_b, ↓x_n, ↓x_st, ↓x_g, ↓x_tup, ↓x_lst, ↓x_bin, ↓x_neg, ↓x_nt, ↓x_cmp, ↓x_chain, ↓x_isN, ↓x_notN, ↓x_and, ↓x_or, ↓x_ite, ↓x_ix, ↓x_cut, ↓x_rev, ↓x_stp, ↓x_callB, ↓x_callkB, ↓x_bi, ↓x_comp, ↓x_pop, ↓x_popA, ↓x_jg, ↓x_jn, ↓x_jp, ↓x_scut, ↓x_slen, ↓srcK, ↓srcL, ↓t_yes, ↓t_and', ↓t_or', ↓t_nt', ↓t_ex, ↓e_nil, ↓e_cons, ↓a_nil', ↓a_cons', ↓rs_nil, ↓rs_cons, ↓frzS_v, ↓frzS_n, ↓asgs_nil, ↓asgs_cons, ↓rd_z, ↓rd_s, ↓set_z, ↓set_s, ↓at_mk, ↓isJar_j, ↓der_v, ↓der_n, ↓der_sl, ↓frz_v, ↓frz_n, ↓frz_sl, ↓asg_v, ↓asg_n, ↓asg_sl, ↓opW, ↓cmpW, ↓eqw_int, ↓eqw_str, ↓eqw_tup, ↓eqw_lst, ↓ordW, ↓truW, ↓noOw, ↓ixW, ↓biW, ↓tgW, ↓tgsW, ↓opwW, ↓itW, ↓wipe_nil, ↓wipe_cons, ↓unwipe, ↓isOw, true_and, Bool.and_true, Bool.not_true, Bool.not_false, Bool.false_eq_true, ↓reduceIte, ↓blk_ap, ↓d7, ↓bi_isT]
  refine ⟨.inl hn, ?_⟩
  cases d with
  | tuple ds =>
    rw [show isD .isTuple (.tuple ds) = true from rfl, if_neg (by decide)]
    have nd := nd_mem (ds := ds) (by simpa only [PyData.hasDict] using hn)
    have sh := sh_mem hs
    try simp -implicitDefEqProofs only [↓s_cs, ↓nx_ap, ↓s_nil, ↓s_set, ↓s_par, ↓s_unp, ↓s_ret, ↓s_retN, ↓s_drop, ↓s_if, ↓s_whl, ↓s_for, ↓s_app, ↓s_ext, ↓s_put, ↓s_ja, ↓s_ji, ↓s_js, ↓s_jl, ↓s_rais, ↓s_pass, ↓s_brk, ↓s_cont, ↓s_tri, ↓hd_nil, ↓hd_cons, ↓un_s, ↓un_n, ↓hu_ret, ↓hu_ifr, ↓hx_b, ↓hx_s, ↓hx_i, ↓hx_n, ↓hx_fld, ↓hx_isA, ↓hx_nt, ↓hx_and, ↓hx_ite, ↓hx_lst, ↓hx_tup, ↓hxs_nil, ↓hxs_cons, ↓ra_none, ↓ra_some, ↓x_calldB, ↓x_lw, ↓x_dct0, ↓x_v, ↓x_i, ↓x_b, ↓x_n, ↓x_st, ↓x_g, ↓x_tup, ↓x_lst, ↓x_bin, ↓x_neg, ↓x_nt, ↓x_cmp, ↓x_chain, ↓x_isN, ↓x_notN, ↓x_and, ↓x_or, ↓x_ite, ↓x_ix, ↓x_cut, ↓x_rev, ↓x_stp, ↓x_callB, ↓x_callkB, ↓x_bi, ↓x_comp, ↓x_pop, ↓x_popA, ↓x_jg, ↓x_jn, ↓x_jp, ↓x_scut, ↓x_slen, ↓srcK, ↓srcL, ↓t_yes, ↓t_and', ↓t_or', ↓t_nt', ↓t_ex, ↓e_nil, ↓e_cons, ↓a_nil', ↓a_cons', ↓rs_nil, ↓rs_cons, ↓frzS_v, ↓frzS_n, ↓asgs_nil, ↓asgs_cons, ↓rd_z, ↓rd_s, ↓set_z, ↓set_s, ↓at_mk, ↓isJar_j, ↓der_v, ↓der_n, ↓der_sl, ↓frz_v, ↓frz_n, ↓frz_sl, ↓asg_v, ↓asg_n, ↓asg_sl, ↓opW, ↓cmpW, ↓eqw_int, ↓eqw_str, ↓eqw_tup, ↓eqw_lst, ↓ordW, ↓truW, ↓noOw, ↓ixW, ↓biW, ↓tgW, ↓tgsW, ↓opwW, ↓itW, ↓wipe_nil, ↓wipe_cons, ↓unwipe, ↓isOw, true_and, Bool.and_true, Bool.not_true, Bool.not_false, Bool.false_eq_true, ↓reduceIte, ↓blk_ap]
    by_cases l2 : ds.length = 2
    · rw [if_neg (by rw [decide_eq_true (show (ds.length : Int) = 2 by omega)]; decide)]
      obtain ⟨a, b, rfl⟩ : ∃ a b, ds = [a, b] := by
        match ds, l2 with
        | [a, b], _ => exact ⟨a, b, rfl⟩
      refine turns_flt (fun d => !isNum d) (fun d => d) ?_ ?_
      · intro x hx kk h1 h2
        have nx := nd x hx
        unfold isNum at h1 h2
        simp -implicitDefEqProofs only [↓s_cs, ↓nx_ap, ↓s_nil, ↓s_set, ↓s_par, ↓s_unp, ↓s_ret, ↓s_retN, ↓s_drop, ↓s_if, ↓s_whl, ↓s_for, ↓s_app, ↓s_ext, ↓s_put, ↓s_ja, ↓s_ji, ↓s_js, ↓s_jl, ↓s_rais, ↓s_pass, ↓s_brk, ↓s_cont, ↓s_tri, ↓hd_nil, ↓hd_cons, ↓un_s, ↓un_n, ↓hu_ret, ↓hu_ifr, ↓hx_b, ↓hx_s, ↓hx_i, ↓hx_n, ↓hx_fld, ↓hx_isA, ↓hx_nt, ↓hx_and, ↓hx_ite, ↓hx_lst, ↓hx_tup, ↓hxs_nil, ↓hxs_cons, ↓ra_none, ↓ra_some, ↓x_calldB, ↓x_lw, ↓x_dct0, ↓x_v, ↓x_i, ↓x_b, ↓x_n, ↓x_st, ↓x_g, ↓x_tup, ↓x_lst, ↓x_bin, ↓x_neg, ↓x_nt, ↓x_cmp, ↓x_chain, ↓x_isN, ↓x_notN, ↓x_and, ↓x_or, ↓x_ite, ↓x_ix, ↓x_cut, ↓x_rev, ↓x_stp, ↓x_callB, ↓x_callkB, ↓x_bi, ↓x_comp, ↓x_pop, ↓x_popA, ↓x_jg, ↓x_jn, ↓x_jp, ↓x_scut, ↓x_slen, ↓srcK, ↓srcL, ↓t_yes, ↓t_and', ↓t_or', ↓t_nt', ↓t_ex, ↓e_nil, ↓e_cons, ↓a_nil', ↓a_cons', ↓rs_nil, ↓rs_cons, ↓frzS_v, ↓frzS_n, ↓asgs_nil, ↓asgs_cons, ↓rd_z, ↓rd_s, ↓set_z, ↓set_s, ↓at_mk, ↓isJar_j, ↓der_v, ↓der_n, ↓der_sl, ↓frz_v, ↓frz_n, ↓frz_sl, ↓asg_v, ↓asg_n, ↓asg_sl, ↓opW, ↓cmpW, ↓eqw_int, ↓eqw_str, ↓eqw_tup, ↓eqw_lst, ↓ordW, ↓truW, ↓noOw, ↓ixW, ↓biW, ↓tgW, ↓tgsW, ↓opwW, ↓itW, ↓wipe_nil, ↓wipe_cons, ↓unwipe, ↓isOw, true_and, Bool.and_true, Bool.not_true, Bool.not_false, Bool.false_eq_true, ↓reduceIte, ↓blk_ap, ↓compF, ↓bi_isI, ↓bi_isB]
        refine ⟨.inl nx, ?_⟩
        cases e : isD .isInt x with
        | false => rw [e] at h1; rw [if_pos (by decide)]; exact h1 rfl
        | true =>
          rw [e] at h1 h2
          rw [if_neg (by decide)]
          refine ⟨.inl nx, ?_⟩
          cases e2 : isD .isBool x with
          | true => rw [e2] at h1; rw [if_pos rfl]; exact h1 rfl
          | false => rw [e2] at h2; rw [if_neg (by decide)]; exact h2 rfl
      · rw [List.nil_append, List.map_id']
        try simp -implicitDefEqProofs only [↓s_cs, ↓nx_ap, ↓s_nil, ↓s_set, ↓s_par, ↓s_unp, ↓s_ret, ↓s_retN, ↓s_drop, ↓s_if, ↓s_whl, ↓s_for, ↓s_app, ↓s_ext, ↓s_put, ↓s_ja, ↓s_ji, ↓s_js, ↓s_jl, ↓s_rais, ↓s_pass, ↓s_brk, ↓s_cont, ↓s_tri, ↓hd_nil, ↓hd_cons, ↓un_s, ↓un_n, ↓hu_ret, ↓hu_ifr, ↓hx_b, ↓hx_s, ↓hx_i, ↓hx_n, ↓hx_fld, ↓hx_isA, ↓hx_nt, ↓hx_and, ↓hx_ite, ↓hx_lst, ↓hx_tup, ↓hxs_nil, ↓hxs_cons, ↓ra_none, ↓ra_some, ↓x_calldB, ↓x_lw, ↓x_dct0, ↓x_v, ↓x_i, ↓x_b, ↓x_n, ↓x_st, ↓x_g, ↓x_tup, ↓x_lst, ↓x_bin, ↓x_neg, ↓x_nt, ↓x_cmp, ↓x_chain, ↓x_isN, ↓x_notN, ↓x_and, ↓x_or, ↓x_ite, ↓x_ix, ↓x_cut, ↓x_rev, ↓x_stp, ↓x_callB, ↓x_callkB, ↓x_bi, ↓x_comp, ↓x_pop, ↓x_popA, ↓x_jg, ↓x_jn, ↓x_jp, ↓x_scut, ↓x_slen, ↓srcK, ↓srcL, ↓t_yes, ↓t_and', ↓t_or', ↓t_nt', ↓t_ex, ↓e_nil, ↓e_cons, ↓a_nil', ↓a_cons', ↓rs_nil, ↓rs_cons, ↓frzS_v, ↓frzS_n, ↓asgs_nil, ↓asgs_cons, ↓rd_z, ↓rd_s, ↓set_z, ↓set_s, ↓at_mk, ↓isJar_j, ↓der_v, ↓der_n, ↓der_sl, ↓frz_v, ↓frz_n, ↓frz_sl, ↓asg_v, ↓asg_n, ↓asg_sl, ↓opW, ↓cmpW, ↓eqw_int, ↓eqw_str, ↓eqw_tup, ↓eqw_lst, ↓ordW, ↓truW, ↓noOw, ↓ixW, ↓biW, ↓tgW, ↓tgsW, ↓opwW, ↓itW, ↓wipe_nil, ↓wipe_cons, ↓unwipe, ↓isOw, true_and, Bool.and_true, Bool.not_true, Bool.not_false, Bool.false_eq_true, ↓reduceIte, ↓blk_ap]
        have fsh : ∀ d ∈ [a, b].filter (fun d => !isNum d), Shp 4 d := fun d hd => sh d ((List.mem_filter.mp hd).1)
        refine ⟨(shp_lst fsh).ok (by decide), (shp_lst (n := 0) (ds := []) fun d hd => by cases hd).ok (by decide), ?_⟩
        rw [eqv_nil]
        by_cases q : isNum a = true ∧ isNum b = true
        · obtain ⟨qa, qb⟩ := q
          obtain ⟨x, rfl⟩ := num_int qa
          obtain ⟨y, rfl⟩ := num_int qb
          have ef : ([.int x, .int y] : List D).filter (fun d => !isNum d) = [] := rfl
          rw [ef, if_neg (by decide)]
          try simp -implicitDefEqProofs only [↓s_cs, ↓nx_ap, ↓s_nil, ↓s_set, ↓s_par, ↓s_unp, ↓s_ret, ↓s_retN, ↓s_drop, ↓s_if, ↓s_whl, ↓s_for, ↓s_app, ↓s_ext, ↓s_put, ↓s_ja, ↓s_ji, ↓s_js, ↓s_jl, ↓s_rais, ↓s_pass, ↓s_brk, ↓s_cont, ↓s_tri, ↓hd_nil, ↓hd_cons, ↓un_s, ↓un_n, ↓hu_ret, ↓hu_ifr, ↓hx_b, ↓hx_s, ↓hx_i, ↓hx_n, ↓hx_fld, ↓hx_isA, ↓hx_nt, ↓hx_and, ↓hx_ite, ↓hx_lst, ↓hx_tup, ↓hxs_nil, ↓hxs_cons, ↓ra_none, ↓ra_some, ↓x_calldB, ↓x_lw, ↓x_dct0, ↓x_v, ↓x_i, ↓x_b, ↓x_n, ↓x_st, ↓x_g, ↓x_tup, ↓x_lst, ↓x_bin, ↓x_neg, ↓x_nt, ↓x_cmp, ↓x_chain, ↓x_isN, ↓x_notN, ↓x_and, ↓x_or, ↓x_ite, ↓x_ix, ↓x_cut, ↓x_rev, ↓x_stp, ↓x_callB, ↓x_callkB, ↓x_bi, ↓x_comp, ↓x_pop, ↓x_popA, ↓x_jg, ↓x_jn, ↓x_jp, ↓x_scut, ↓x_slen, ↓srcK, ↓srcL, ↓t_yes, ↓t_and', ↓t_or', ↓t_nt', ↓t_ex, ↓e_nil, ↓e_cons, ↓a_nil', ↓a_cons', ↓rs_nil, ↓rs_cons, ↓frzS_v, ↓frzS_n, ↓asgs_nil, ↓asgs_cons, ↓rd_z, ↓rd_s, ↓set_z, ↓set_s, ↓at_mk, ↓isJar_j, ↓der_v, ↓der_n, ↓der_sl, ↓frz_v, ↓frz_n, ↓frz_sl, ↓asg_v, ↓asg_n, ↓asg_sl, ↓opW, ↓cmpW, ↓eqw_int, ↓eqw_str, ↓eqw_tup, ↓eqw_lst, ↓ordW, ↓truW, ↓noOw, ↓ixW, ↓biW, ↓tgW, ↓tgsW, ↓opwW, ↓itW, ↓wipe_nil, ↓wipe_cons, ↓unwipe, ↓isOw, true_and, Bool.and_true, Bool.not_true, Bool.not_false, Bool.false_eq_true, ↓reduceIte, ↓blk_ap, q0, q1]
          have ei : isFrac (.tuple [.int x, .int y]) = (decide (0 < y) && decide (Int.gcd x y = 1)) := rfl
          rw [ei] at h
          by_cases z : 0 < y
          · rw [if_pos (decide_eq_true z)]
            refine p_gcd (n := n) ?_
            try simp -implicitDefEqProofs only [↓s_cs, ↓nx_ap, ↓s_nil, ↓s_set, ↓s_par, ↓s_unp, ↓s_ret, ↓s_retN, ↓s_drop, ↓s_if, ↓s_whl, ↓s_for, ↓s_app, ↓s_ext, ↓s_put, ↓s_ja, ↓s_ji, ↓s_js, ↓s_jl, ↓s_rais, ↓s_pass, ↓s_brk, ↓s_cont, ↓s_tri, ↓hd_nil, ↓hd_cons, ↓un_s, ↓un_n, ↓hu_ret, ↓hu_ifr, ↓hx_b, ↓hx_s, ↓hx_i, ↓hx_n, ↓hx_fld, ↓hx_isA, ↓hx_nt, ↓hx_and, ↓hx_ite, ↓hx_lst, ↓hx_tup, ↓hxs_nil, ↓hxs_cons, ↓ra_none, ↓ra_some, ↓x_calldB, ↓x_lw, ↓x_dct0, ↓x_v, ↓x_i, ↓x_b, ↓x_n, ↓x_st, ↓x_g, ↓x_tup, ↓x_lst, ↓x_bin, ↓x_neg, ↓x_nt, ↓x_cmp, ↓x_chain, ↓x_isN, ↓x_notN, ↓x_and, ↓x_or, ↓x_ite, ↓x_ix, ↓x_cut, ↓x_rev, ↓x_stp, ↓x_callB, ↓x_callkB, ↓x_bi, ↓x_comp, ↓x_pop, ↓x_popA, ↓x_jg, ↓x_jn, ↓x_jp, ↓x_scut, ↓x_slen, ↓srcK, ↓srcL, ↓t_yes, ↓t_and', ↓t_or', ↓t_nt', ↓t_ex, ↓e_nil, ↓e_cons, ↓a_nil', ↓a_cons', ↓rs_nil, ↓rs_cons, ↓frzS_v, ↓frzS_n, ↓asgs_nil, ↓asgs_cons, ↓rd_z, ↓rd_s, ↓set_z, ↓set_s, ↓at_mk, ↓isJar_j, ↓der_v, ↓der_n, ↓der_sl, ↓frz_v, ↓frz_n, ↓frz_sl, ↓asg_v, ↓asg_n, ↓asg_sl, ↓opW, ↓cmpW, ↓eqw_int, ↓eqw_str, ↓eqw_tup, ↓eqw_lst, ↓ordW, ↓truW, ↓noOw, ↓ixW, ↓biW, ↓tgW, ↓tgsW, ↓opwW, ↓itW, ↓wipe_nil, ↓wipe_cons, ↓unwipe, ↓isOw, true_and, Bool.and_true, Bool.not_true, Bool.not_false, Bool.false_eq_true, ↓reduceIte, ↓blk_ap]
            rw [decide_eq_true z, Bool.true_and] at h
            have : decide (((Int.gcd x y : Nat) : Int) = 1) = decide (Int.gcd x y = 1) := by rw [Bool.eq_iff_iff, decide_eq_true_eq, decide_eq_true_eq]; omega
            rw [this]
            exact h
          · rw [if_neg (by rw [decide_eq_true_eq]; exact z)]
            rw [decide_eq_false z] at h
            exact h
        · have : ([a, b].filter fun d => !isNum d).isEmpty = false := by
            cases ha : isNum a with
            | false => rw [List.filter_cons_of_pos (by rw [ha]; rfl)]; rfl
            | true =>
              rw [List.filter_cons_of_neg (by rw [ha]; decide)]
              cases hb : isNum b with
              | false => rw [List.filter_cons_of_pos (by rw [hb]; rfl)]; rfl
              | true => exact absurd ⟨ha, hb⟩ q
          rw [this, if_pos (by decide)]
          rw [frac_num q] at h
          exact h
    · rw [if_pos (by rw [decide_eq_false (show ¬ (ds.length : Int) = 2 by omega)]; rfl)]
      rw [frac_len l2] at h
      exact h
  | _ => exact h
theorem p_isnum {n : Nat} {g : Gh} {d : D} {K : D → Gh → Prop} {X : Exn → Gh → Prop} (hd : d.hasDict = false) (h : K (.bool (isNum d)) g) : callW T (n + 1) 13 [d] g K X := by
  refine call_df (np := 1) (ns := 1) (b := d13.b) rfl rfl ?_
  have e0 : startE 1 [d] g = ⟨[.fz d], g⟩ := rfl
  rw [e0]
  simp -implicitDefEqProofs only [↓s_cs, ↓nx_ap, ↓s_nil, ↓s_set, ↓s_par, ↓s_unp, ↓s_ret, ↓s_retN, ↓s_drop, ↓s_if, ↓s_whl, ↓s_for, ↓s_app, ↓s_ext, ↓s_put, ↓s_ja, ↓s_ji, ↓s_js, ↓s_jl, ↓s_rais, ↓s_pass, ↓s_brk, ↓s_cont, ↓s_tri, ↓hd_nil, ↓hd_cons, ↓un_s, ↓un_n, ↓hu_ret, ↓hu_ifr, ↓hx_b, ↓hx_s, ↓hx_i, ↓hx_n, ↓hx_fld, ↓hx_isA, ↓hx_nt, ↓hx_and, ↓hx_ite, ↓hx_lst, ↓hx_tup, ↓hxs_nil, ↓hxs_cons, ↓ra_none, ↓ra_some, ↓x_calldB, ↓x_lw, ↓x_dct0, ↓x_v, ↓x_i, ↓x_b, ↓x_n, ↓x_st, ↓x_g, ↓x_tup, ↓x_lst, ↓x_bin, ↓x_neg, ↓x_nt, ↓x_cmp, ↓x_chain, ↓x_isN, ↓x_notN, ↓x_and, ↓x_or, ↓x_ite, ↓x_ix, ↓x_cut, ↓x_rev, ↓x_stp, ↓x_callB, ↓x_callkB, ↓x_bi, ↓x_comp, ↓x_pop, ↓x_popA, ↓x_jg, ↓x_jn, ↓x_jp, ↓x_scut, ↓x_slen, ↓srcK, ↓srcL, ↓t_yes, ↓t_and', ↓t_or', ↓t_nt', ↓t_ex, ↓e_nil, ↓e_cons, ↓a_nil', ↓a_cons', ↓rs_nil, ↓rs_cons, ↓frzS_v, ↓frzS_n, ↓asgs_nil, ↓asgs_cons, ↓rd_z, ↓rd_s, ↓set_z, ↓set_s, ↓at_mk, ↓isJar_j, ↓der_v, ↓der_n, ↓der_sl, ↓frz_v, ↓frz_n, ↓frz_sl, ↓asg_v, ↓asg_n, ↓asg_sl, ↓opW, ↓cmpW, ↓eqw_int, ↓eqw_str, ↓eqw_tup, ↓eqw_lst, ↓ordW, ↓truW, ↓noOw, ↓ixW, ↓biW, ↓tgW, ↓tgsW, ↓opwW, ↓itW, ↓wipe_nil, ↓wipe_cons, ↓unwipe, ↓isOw, true_and, Bool.and_true, Bool.not_true, Bool.not_false, Bool.false_eq_true, ↓reduceIte, ↓blk_ap, ↓d13, ↓bi_isI, ↓bi_isB]
  refine ⟨.inl hd, ?_⟩
  unfold isNum at h
  cases e : isD .isInt d with
  | true => rw [e] at h; rw [if_pos rfl]; exact ⟨.inl hd, h⟩
  | false => rw [e] at h; rw [if_neg (by decide)]; exact h
theorem p_frac {n : Nat} {g : Gh} {d : D} {K : D → Gh → Prop} {X : Exn → Gh → Prop} (hd : d.hasDict = false) (h : K (.bool (isFrac d)) g) : callW T (n + 2) 14 [d] g K X := by
  refine call_df (np := 1) (ns := 2) (b := d14.b) rfl rfl ?_
  have e0 : startE 2 [d] g = ⟨[.fz d, .un], g⟩ := rfl
  rw [e0]
  simp -implicitDefEqProofs only [↓s_cs, ↓nx_ap, ↓s_nil, ↓s_set, ↓s_par, ↓s_unp, ↓s_ret, ↓s_retN, ↓s_drop, ↓s_if, ↓s_whl, ↓s_for, ↓s_app, ↓s_ext, ↓s_put, ↓s_ja, ↓s_ji, ↓s_js, ↓s_jl, ↓s_rais, ↓s_pass, ↓s_brk, ↓s_cont, ↓s_tri, ↓hd_nil, ↓hd_cons, ↓un_s, ↓un_n, ↓hu_ret, ↓hu_ifr, ↓hx_b, ↓hx_s, ↓hx_i, ↓hx_n, ↓hx_fld, ↓hx_isA, ↓hx_nt, ↓hx_and, ↓hx_ite, ↓hx_lst, ↓hx_tup, ↓hxs_nil, ↓hxs_cons, ↓ra_none, ↓ra_some, ↓x_calldB, ↓x_lw, ↓x_dct0, ↓x_v, ↓x_i, ↓x_b, ↓x_n, ↓x_st, ↓x_g, ↓x_tup, ↓x_lst, ↓x_bin, ↓x_neg, ↓x_nt, ↓x_cmp, ↓x_chain, ↓x_isN, ↓x_notN, ↓x_and, ↓x_or, ↓x_ite, ↓x_ix, ↓x_cut, ↓x_rev, ↓x_stp, ↓x_callB, ↓x_callkB, ↓x_bi, ↓x_comp, ↓x_pop, ↓x_popA, ↓x_jg, ↓x_jn, ↓x_jp, ↓x_scut, ↓x_slen, ↓srcK, ↓srcL, ↓t_yes, ↓t_and', ↓t_or', ↓t_nt', ↓t_ex, ↓e_nil, ↓e_cons, ↓a_nil', ↓a_cons', ↓rs_nil, ↓rs_cons, ↓frzS_v, ↓frzS_n, ↓asgs_nil, ↓asgs_cons, ↓rd_z, ↓rd_s, ↓set_z, ↓set_s, ↓at_mk, ↓isJar_j, ↓der_v, ↓der_n, ↓der_sl, ↓frz_v, ↓frz_n, ↓frz_sl, ↓asg_v, ↓asg_n, ↓asg_sl, ↓opW, ↓cmpW, ↓eqw_int, ↓eqw_str, ↓eqw_tup, ↓eqw_lst, ↓ordW, ↓truW, ↓noOw, ↓ixW, ↓biW, ↓tgW, ↓tgsW, ↓opwW, ↓itW, ↓wipe_nil, ↓wipe_cons, ↓unwipe, ↓isOw, true_and, Bool.and_true, Bool.not_true, Bool.not_false, Bool.false_eq_true, ↓reduceIte, ↓blk_ap, ↓d14, ↓bi_isT]
  refine ⟨.inl hd, ?_⟩
  cases d with
  | tuple ds =>
    rw [show isD .isTuple (.tuple ds) = true from rfl, if_neg (by decide)]
    have nd := nd_mem (ds := ds) (by simpa only [PyData.hasDict] using hd)
    try simp -implicitDefEqProofs only [↓s_cs, ↓nx_ap, ↓s_nil, ↓s_set, ↓s_par, ↓s_unp, ↓s_ret, ↓s_retN, ↓s_drop, ↓s_if, ↓s_whl, ↓s_for, ↓s_app, ↓s_ext, ↓s_put, ↓s_ja, ↓s_ji, ↓s_js, ↓s_jl, ↓s_rais, ↓s_pass, ↓s_brk, ↓s_cont, ↓s_tri, ↓hd_nil, ↓hd_cons, ↓un_s, ↓un_n, ↓hu_ret, ↓hu_ifr, ↓hx_b, ↓hx_s, ↓hx_i, ↓hx_n, ↓hx_fld, ↓hx_isA, ↓hx_nt, ↓hx_and, ↓hx_ite, ↓hx_lst, ↓hx_tup, ↓hxs_nil, ↓hxs_cons, ↓ra_none, ↓ra_some, ↓x_calldB, ↓x_lw, ↓x_dct0, ↓x_v, ↓x_i, ↓x_b, ↓x_n, ↓x_st, ↓x_g, ↓x_tup, ↓x_lst, ↓x_bin, ↓x_neg, ↓x_nt, ↓x_cmp, ↓x_chain, ↓x_isN, ↓x_notN, ↓x_and, ↓x_or, ↓x_ite, ↓x_ix, ↓x_cut, ↓x_rev, ↓x_stp, ↓x_callB, ↓x_callkB, ↓x_bi, ↓x_comp, ↓x_pop, ↓x_popA, ↓x_jg, ↓x_jn, ↓x_jp, ↓x_scut, ↓x_slen, ↓srcK, ↓srcL, ↓t_yes, ↓t_and', ↓t_or', ↓t_nt', ↓t_ex, ↓e_nil, ↓e_cons, ↓a_nil', ↓a_cons', ↓rs_nil, ↓rs_cons, ↓frzS_v, ↓frzS_n, ↓asgs_nil, ↓asgs_cons, ↓rd_z, ↓rd_s, ↓set_z, ↓set_s, ↓at_mk, ↓isJar_j, ↓der_v, ↓der_n, ↓der_sl, ↓frz_v, ↓frz_n, ↓frz_sl, ↓asg_v, ↓asg_n, ↓asg_sl, ↓opW, ↓cmpW, ↓eqw_int, ↓eqw_str, ↓eqw_tup, ↓eqw_lst, ↓ordW, ↓truW, ↓noOw, ↓ixW, ↓biW, ↓tgW, ↓tgsW, ↓opwW, ↓itW, ↓wipe_nil, ↓wipe_cons, ↓unwipe, ↓isOw, true_and, Bool.and_true, Bool.not_true, Bool.not_false, Bool.false_eq_true, ↓reduceIte, ↓blk_ap]
    by_cases l2 : ds.length = 2
    · rw [if_neg (by rw [decide_eq_true (show (ds.length : Int) = 2 by omega)]; decide)]
      obtain ⟨a, b, rfl⟩ : ∃ a b, ds = [a, b] := by
        match ds, l2 with
        | [a, b], _ => exact ⟨a, b, rfl⟩
      refine turns_all (fun d => .bool (isNum d)) ?_ ?_
      · intro x hx kk hk
        simp -implicitDefEqProofs only [↓s_cs, ↓nx_ap, ↓s_nil, ↓s_set, ↓s_par, ↓s_unp, ↓s_ret, ↓s_retN, ↓s_drop, ↓s_if, ↓s_whl, ↓s_for, ↓s_app, ↓s_ext, ↓s_put, ↓s_ja, ↓s_ji, ↓s_js, ↓s_jl, ↓s_rais, ↓s_pass, ↓s_brk, ↓s_cont, ↓s_tri, ↓hd_nil, ↓hd_cons, ↓un_s, ↓un_n, ↓hu_ret, ↓hu_ifr, ↓hx_b, ↓hx_s, ↓hx_i, ↓hx_n, ↓hx_fld, ↓hx_isA, ↓hx_nt, ↓hx_and, ↓hx_ite, ↓hx_lst, ↓hx_tup, ↓hxs_nil, ↓hxs_cons, ↓ra_none, ↓ra_some, ↓x_calldB, ↓x_lw, ↓x_dct0, ↓x_v, ↓x_i, ↓x_b, ↓x_n, ↓x_st, ↓x_g, ↓x_tup, ↓x_lst, ↓x_bin, ↓x_neg, ↓x_nt, ↓x_cmp, ↓x_chain, ↓x_isN, ↓x_notN, ↓x_and, ↓x_or, ↓x_ite, ↓x_ix, ↓x_cut, ↓x_rev, ↓x_stp, ↓x_callB, ↓x_callkB, ↓x_bi, ↓x_comp, ↓x_pop, ↓x_popA, ↓x_jg, ↓x_jn, ↓x_jp, ↓x_scut, ↓x_slen, ↓srcK, ↓srcL, ↓t_yes, ↓t_and', ↓t_or', ↓t_nt', ↓t_ex, ↓e_nil, ↓e_cons, ↓a_nil', ↓a_cons', ↓rs_nil, ↓rs_cons, ↓frzS_v, ↓frzS_n, ↓asgs_nil, ↓asgs_cons, ↓rd_z, ↓rd_s, ↓set_z, ↓set_s, ↓at_mk, ↓isJar_j, ↓der_v, ↓der_n, ↓der_sl, ↓frz_v, ↓frz_n, ↓frz_sl, ↓asg_v, ↓asg_n, ↓asg_sl, ↓opW, ↓cmpW, ↓eqw_int, ↓eqw_str, ↓eqw_tup, ↓eqw_lst, ↓ordW, ↓truW, ↓noOw, ↓ixW, ↓biW, ↓tgW, ↓tgsW, ↓opwW, ↓itW, ↓wipe_nil, ↓wipe_cons, ↓unwipe, ↓isOw, true_and, Bool.and_true, Bool.not_true, Bool.not_false, Bool.false_eq_true, ↓reduceIte, ↓blk_ap, ↓compF]
        refine p_isnum (n := n) (nd x hx) ?_
        try simp -implicitDefEqProofs only [↓s_cs, ↓nx_ap, ↓s_nil, ↓s_set, ↓s_par, ↓s_unp, ↓s_ret, ↓s_retN, ↓s_drop, ↓s_if, ↓s_whl, ↓s_for, ↓s_app, ↓s_ext, ↓s_put, ↓s_ja, ↓s_ji, ↓s_js, ↓s_jl, ↓s_rais, ↓s_pass, ↓s_brk, ↓s_cont, ↓s_tri, ↓hd_nil, ↓hd_cons, ↓un_s, ↓un_n, ↓hu_ret, ↓hu_ifr, ↓hx_b, ↓hx_s, ↓hx_i, ↓hx_n, ↓hx_fld, ↓hx_isA, ↓hx_nt, ↓hx_and, ↓hx_ite, ↓hx_lst, ↓hx_tup, ↓hxs_nil, ↓hxs_cons, ↓ra_none, ↓ra_some, ↓x_calldB, ↓x_lw, ↓x_dct0, ↓x_v, ↓x_i, ↓x_b, ↓x_n, ↓x_st, ↓x_g, ↓x_tup, ↓x_lst, ↓x_bin, ↓x_neg, ↓x_nt, ↓x_cmp, ↓x_chain, ↓x_isN, ↓x_notN, ↓x_and, ↓x_or, ↓x_ite, ↓x_ix, ↓x_cut, ↓x_rev, ↓x_stp, ↓x_callB, ↓x_callkB, ↓x_bi, ↓x_comp, ↓x_pop, ↓x_popA, ↓x_jg, ↓x_jn, ↓x_jp, ↓x_scut, ↓x_slen, ↓srcK, ↓srcL, ↓t_yes, ↓t_and', ↓t_or', ↓t_nt', ↓t_ex, ↓e_nil, ↓e_cons, ↓a_nil', ↓a_cons', ↓rs_nil, ↓rs_cons, ↓frzS_v, ↓frzS_n, ↓asgs_nil, ↓asgs_cons, ↓rd_z, ↓rd_s, ↓set_z, ↓set_s, ↓at_mk, ↓isJar_j, ↓der_v, ↓der_n, ↓der_sl, ↓frz_v, ↓frz_n, ↓frz_sl, ↓asg_v, ↓asg_n, ↓asg_sl, ↓opW, ↓cmpW, ↓eqw_int, ↓eqw_str, ↓eqw_tup, ↓eqw_lst, ↓ordW, ↓truW, ↓noOw, ↓ixW, ↓biW, ↓tgW, ↓tgsW, ↓opwW, ↓itW, ↓wipe_nil, ↓wipe_cons, ↓unwipe, ↓isOw, true_and, Bool.and_true, Bool.not_true, Bool.not_false, Bool.false_eq_true, ↓reduceIte, ↓blk_ap]
        exact hk
      · rw [List.nil_append]
        have e1 : ([a, b].map fun d => PyData.bool (isNum d)) = [isNum a, isNum b].map .bool := rfl
        rw [e1]
        try simp -implicitDefEqProofs only [↓s_cs, ↓nx_ap, ↓s_nil, ↓s_set, ↓s_par, ↓s_unp, ↓s_ret, ↓s_retN, ↓s_drop, ↓s_if, ↓s_whl, ↓s_for, ↓s_app, ↓s_ext, ↓s_put, ↓s_ja, ↓s_ji, ↓s_js, ↓s_jl, ↓s_rais, ↓s_pass, ↓s_brk, ↓s_cont, ↓s_tri, ↓hd_nil, ↓hd_cons, ↓un_s, ↓un_n, ↓hu_ret, ↓hu_ifr, ↓hx_b, ↓hx_s, ↓hx_i, ↓hx_n, ↓hx_fld, ↓hx_isA, ↓hx_nt, ↓hx_and, ↓hx_ite, ↓hx_lst, ↓hx_tup, ↓hxs_nil, ↓hxs_cons, ↓ra_none, ↓ra_some, ↓x_calldB, ↓x_lw, ↓x_dct0, ↓x_v, ↓x_i, ↓x_b, ↓x_n, ↓x_st, ↓x_g, ↓x_tup, ↓x_lst, ↓x_bin, ↓x_neg, ↓x_nt, ↓x_cmp, ↓x_chain, ↓x_isN, ↓x_notN, ↓x_and, ↓x_or, ↓x_ite, ↓x_ix, ↓x_cut, ↓x_rev, ↓x_stp, ↓x_callB, ↓x_callkB, ↓x_bi, ↓x_comp, ↓x_pop, ↓x_popA, ↓x_jg, ↓x_jn, ↓x_jp, ↓x_scut, ↓x_slen, ↓srcK, ↓srcL, ↓t_yes, ↓t_and', ↓t_or', ↓t_nt', ↓t_ex, ↓e_nil, ↓e_cons, ↓a_nil', ↓a_cons', ↓rs_nil, ↓rs_cons, ↓frzS_v, ↓frzS_n, ↓asgs_nil, ↓asgs_cons, ↓rd_z, ↓rd_s, ↓set_z, ↓set_s, ↓at_mk, ↓isJar_j, ↓der_v, ↓der_n, ↓der_sl, ↓frz_v, ↓frz_n, ↓frz_sl, ↓asg_v, ↓asg_n, ↓asg_sl, ↓opW, ↓cmpW, ↓eqw_int, ↓eqw_str, ↓eqw_tup, ↓eqw_lst, ↓ordW, ↓truW, ↓noOw, ↓ixW, ↓biW, ↓tgW, ↓tgsW, ↓opwW, ↓itW, ↓wipe_nil, ↓wipe_cons, ↓unwipe, ↓isOw, true_and, Bool.and_true, Bool.not_true, Bool.not_false, Bool.false_eq_true, ↓reduceIte, ↓blk_ap, asBools_map]
        by_cases q : isNum a = true ∧ isNum b = true
        · obtain ⟨qa, qb⟩ := q
          obtain ⟨x, rfl⟩ := num_int qa
          obtain ⟨y, rfl⟩ := num_int qb
          rw [show ([isNum (.int x), isNum (.int y)].all id) = true from rfl, if_neg (by decide)]
          try simp -implicitDefEqProofs only [↓s_cs, ↓nx_ap, ↓s_nil, ↓s_set, ↓s_par, ↓s_unp, ↓s_ret, ↓s_retN, ↓s_drop, ↓s_if, ↓s_whl, ↓s_for, ↓s_app, ↓s_ext, ↓s_put, ↓s_ja, ↓s_ji, ↓s_js, ↓s_jl, ↓s_rais, ↓s_pass, ↓s_brk, ↓s_cont, ↓s_tri, ↓hd_nil, ↓hd_cons, ↓un_s, ↓un_n, ↓hu_ret, ↓hu_ifr, ↓hx_b, ↓hx_s, ↓hx_i, ↓hx_n, ↓hx_fld, ↓hx_isA, ↓hx_nt, ↓hx_and, ↓hx_ite, ↓hx_lst, ↓hx_tup, ↓hxs_nil, ↓hxs_cons, ↓ra_none, ↓ra_some, ↓x_calldB, ↓x_lw, ↓x_dct0, ↓x_v, ↓x_i, ↓x_b, ↓x_n, ↓x_st, ↓x_g, ↓x_tup, ↓x_lst, ↓x_bin, ↓x_neg, ↓x_nt, ↓x_cmp, ↓x_chain, ↓x_isN, ↓x_notN, ↓x_and, ↓x_or, ↓x_ite, ↓x_ix, ↓x_cut, ↓x_rev, ↓x_stp, ↓x_callB, ↓x_callkB, ↓x_bi, ↓x_comp, ↓x_pop, ↓x_popA, ↓x_jg, ↓x_jn, ↓x_jp, ↓x_scut, ↓x_slen, ↓srcK, ↓srcL, ↓t_yes, ↓t_and', ↓t_or', ↓t_nt', ↓t_ex, ↓e_nil, ↓e_cons, ↓a_nil', ↓a_cons', ↓rs_nil, ↓rs_cons, ↓frzS_v, ↓frzS_n, ↓asgs_nil, ↓asgs_cons, ↓rd_z, ↓rd_s, ↓set_z, ↓set_s, ↓at_mk, ↓isJar_j, ↓der_v, ↓der_n, ↓der_sl, ↓frz_v, ↓frz_n, ↓frz_sl, ↓asg_v, ↓asg_n, ↓asg_sl, ↓opW, ↓cmpW, ↓eqw_int, ↓eqw_str, ↓eqw_tup, ↓eqw_lst, ↓ordW, ↓truW, ↓noOw, ↓ixW, ↓biW, ↓tgW, ↓tgsW, ↓opwW, ↓itW, ↓wipe_nil, ↓wipe_cons, ↓unwipe, ↓isOw, true_and, Bool.and_true, Bool.not_true, Bool.not_false, Bool.false_eq_true, ↓reduceIte, ↓blk_ap, q0, q1]
          have ei : isFrac (.tuple [.int x, .int y]) = (decide (0 < y) && decide (Int.gcd x y = 1)) := rfl
          rw [ei] at h
          by_cases z : 0 < y
          · rw [if_pos (decide_eq_true z)]
            rw [decide_eq_true z, Bool.true_and] at h
            have : decide (((Nat.gcd x.natAbs y.natAbs : Nat) : Int) = 1) = decide (Int.gcd x y = 1) := by
              rw [Bool.eq_iff_iff, decide_eq_true_eq, decide_eq_true_eq]
              show ((Int.gcd x y : Nat) : Int) = 1 ↔ _
              omega
            rw [this]
            exact h
          · rw [if_neg (by rw [decide_eq_true_eq]; exact z)]
            rw [decide_eq_false z] at h
            exact h
        · have : ([isNum a, isNum b].all id) = false := by
            cases ha : isNum a with
            | false => rfl
            | true =>
              cases hb : isNum b with
              | false => rfl
              | true => exact absurd ⟨ha, hb⟩ q
          rw [this, if_pos (by decide)]
          rw [frac_num q] at h
          exact h
    · rw [if_pos (by rw [decide_eq_false (show ¬ (ds.length : Int) = 2 by omega)]; rfl)]
      rw [frac_len l2] at h
      exact h
  | _ => exact h
end G19

-- BLK
set_option linter.all false
set_option maxRecDepth 100000
set_option exponentiation.threshold 200000
namespace G19
open PySem PySem.Spec PyProof.Rows L2 G
def Bd (x : P2) : Prop := x.1.natAbs < 2 ^ 700 ∧ x.2.natAbs < 2 ^ 700
def res (o u m : Int) (L H x y : P2) : D :=
  if m < x.2 then .tuple [.str "great", .int 0] else if m < y.2 then .tuple [.str "great", .int 1] else if o * x.2 < x.1 * u ∨ y.1 * u < o * y.2 then .str "side" else if x = L ∧ y = H then .none else .str "far"
/-- the fault, told of plain data -/
inductive Flt (o u m : Int) (L H : P2) : D → D → Prop
  | pair (x y : P2) : isFrac (pD x) = true → isFrac (pD y) = true → Flt o u m L H (ppD x y) (res o u m L H x y)
  | form (d : D) : (∀ x y : P2, d = ppD x y → ¬ (isFrac (pD x) = true ∧ isFrac (pD y) = true)) → Flt o u m L H d (.str "form")
theorem flt_of {o u m : Int} {L H : P2} {a b : D} {K : D → Prop} (h : ∀ e, Flt o u m L H (.tuple [a, b]) e → K e) :
    (∃ x y : P2, a = pD x ∧ b = pD y ∧ isFrac a = true ∧ isFrac b = true ∧ K (res o u m L H x y)) ∨ (¬ (isFrac a = true ∧ isFrac b = true) ∧ K (.str "form")) := by
  by_cases q : isFrac a = true ∧ isFrac b = true
  · obtain ⟨x, rfl, _⟩ := isFrac_pt q.1
    obtain ⟨y, rfl, _⟩ := isFrac_pt q.2
    exact .inl ⟨x, y, rfl, rfl, q.1, q.2, h _ (.pair x y q.1 q.2)⟩
  · refine .inr ⟨q, h _ (.form _ fun x y e => ?_)⟩
    have e' : a = pD x ∧ b = pD y := by
      unfold ppD at e
      cases e
      exact ⟨rfl, rfl⟩
    rw [e'.1, e'.2] at q
    exact q
theorem form_len {o u m : Int} {L H : P2} {ds : List D} (h : ds.length ≠ 2) : Flt o u m L H (.tuple ds) (.str "form") := .form _ fun x y e => by
  unfold ppD at e
  cases e
  exact absurd rfl h
theorem p_lfault {n k : Nat} {g : Gh} {o u m : Int} {L H : P2} {d : D} {K : D → Gh → Prop} {X : Exn → Gh → Prop} (a : Ask o u m) (hd : VS 6 k d) (bd : ∀ x y, d = ppD x y → Bd x ∧ Bd y) (h : ∀ e, Flt o u m L H d e → K e g) : callW T (n + 3) 10 [.int o, .int u, .int m, ppD L H, d] g K X := by
  refine call_df (np := 5) (ns := 6) (b := d10.b) rfl rfl ?_
  have e0 : startE 6 [.int o, .int u, .int m, ppD L H, d] g = ⟨[.fz (.int o), .fz (.int u), .fz (.int m), .fz (ppD L H), .fz d, .un], g⟩ := rfl
  rw [e0]
  have o7 : o.natAbs < 2 ^ 700 := Nat.lt_of_le_of_lt a.oB (by decide +kernel)
  have u7 : u.natAbs < 2 ^ 700 := Nat.lt_of_le_of_lt (show u.natAbs ≤ 10 ^ 41 by have := a.u1; have := a.u0; omega) (by decide +kernel)
  have nof : ∀ d : D, (∀ x y : P2, d ≠ ppD x y) → Flt o u m L H d (.str "form") := fun d hn => .form d fun x y e => (hn x y e).elim
  simp -implicitDefEqProofs only [↓s_cs, ↓nx_ap, ↓s_nil, ↓s_set, ↓s_par, ↓s_unp, ↓s_ret, ↓s_retN, ↓s_drop, ↓s_if, ↓s_whl, ↓s_for, ↓s_app, ↓s_ext, ↓s_put, ↓s_ja, ↓s_ji, ↓s_js, ↓s_jl, ↓s_rais, ↓s_pass, ↓s_brk, ↓s_cont, ↓s_tri, ↓hd_nil, ↓hd_cons, ↓un_s, ↓un_n, ↓hu_ret, ↓hu_ifr, ↓hx_b, ↓hx_s, ↓hx_i, ↓hx_n, ↓hx_fld, ↓hx_isA, ↓hx_nt, ↓hx_and, ↓hx_ite, ↓hx_lst, ↓hx_tup, ↓hxs_nil, ↓hxs_cons, ↓ra_none, ↓ra_some, ↓x_calldB, ↓x_lw, ↓x_dct0, ↓x_v, ↓x_i, ↓x_b, ↓x_n, ↓x_st, ↓x_g, ↓x_tup, ↓x_lst, ↓x_bin, ↓x_neg, ↓x_nt, ↓x_cmp, ↓x_chain, ↓x_isN, ↓x_notN, ↓x_and, ↓x_or, ↓x_ite, ↓x_ix, ↓x_cut, ↓x_rev, ↓x_stp, ↓x_callB, ↓x_callkB, ↓x_bi, ↓x_comp, ↓x_pop, ↓x_popA, ↓x_jg, ↓x_jn, ↓x_jp, ↓x_scut, ↓x_slen, ↓srcK, ↓srcL, ↓t_yes, ↓t_and', ↓t_or', ↓t_nt', ↓t_ex, ↓e_nil, ↓e_cons, ↓a_nil', ↓a_cons', ↓rs_nil, ↓rs_cons, ↓frzS_v, ↓frzS_n, ↓asgs_nil, ↓asgs_cons, ↓rd_z, ↓rd_s, ↓set_z, ↓set_s, ↓at_mk, ↓isJar_j, ↓der_v, ↓der_n, ↓der_sl, ↓frz_v, ↓frz_n, ↓frz_sl, ↓asg_v, ↓asg_n, ↓asg_sl, ↓opW, ↓cmpW, ↓eqw_int, ↓eqw_str, ↓eqw_tup, ↓eqw_lst, ↓ordW, ↓truW, ↓noOw, ↓ixW, ↓biW, ↓tgW, ↓tgsW, ↓opwW, ↓itW, ↓wipe_nil, ↓wipe_cons, ↓unwipe, ↓isOw, true_and, Bool.and_true, Bool.not_true, Bool.not_false, Bool.false_eq_true, ↓reduceIte, ↓blk_ap, ↓d10, ↓bi_isT]
  refine ⟨.inl hd.v.nd, ?_⟩
  cases d with
  | tuple ds =>
    rw [show isD .isTuple (.tuple ds) = true from rfl, if_neg (by decide)]
    have nd := nd_mem (ds := ds) (by simpa only [PyData.hasDict] using hd.v.nd)
    have sh := sh_mem hd.s
    try simp -implicitDefEqProofs only [↓s_cs, ↓nx_ap, ↓s_nil, ↓s_set, ↓s_par, ↓s_unp, ↓s_ret, ↓s_retN, ↓s_drop, ↓s_if, ↓s_whl, ↓s_for, ↓s_app, ↓s_ext, ↓s_put, ↓s_ja, ↓s_ji, ↓s_js, ↓s_jl, ↓s_rais, ↓s_pass, ↓s_brk, ↓s_cont, ↓s_tri, ↓hd_nil, ↓hd_cons, ↓un_s, ↓un_n, ↓hu_ret, ↓hu_ifr, ↓hx_b, ↓hx_s, ↓hx_i, ↓hx_n, ↓hx_fld, ↓hx_isA, ↓hx_nt, ↓hx_and, ↓hx_ite, ↓hx_lst, ↓hx_tup, ↓hxs_nil, ↓hxs_cons, ↓ra_none, ↓ra_some, ↓x_calldB, ↓x_lw, ↓x_dct0, ↓x_v, ↓x_i, ↓x_b, ↓x_n, ↓x_st, ↓x_g, ↓x_tup, ↓x_lst, ↓x_bin, ↓x_neg, ↓x_nt, ↓x_cmp, ↓x_chain, ↓x_isN, ↓x_notN, ↓x_and, ↓x_or, ↓x_ite, ↓x_ix, ↓x_cut, ↓x_rev, ↓x_stp, ↓x_callB, ↓x_callkB, ↓x_bi, ↓x_comp, ↓x_pop, ↓x_popA, ↓x_jg, ↓x_jn, ↓x_jp, ↓x_scut, ↓x_slen, ↓srcK, ↓srcL, ↓t_yes, ↓t_and', ↓t_or', ↓t_nt', ↓t_ex, ↓e_nil, ↓e_cons, ↓a_nil', ↓a_cons', ↓rs_nil, ↓rs_cons, ↓frzS_v, ↓frzS_n, ↓asgs_nil, ↓asgs_cons, ↓rd_z, ↓rd_s, ↓set_z, ↓set_s, ↓at_mk, ↓isJar_j, ↓der_v, ↓der_n, ↓der_sl, ↓frz_v, ↓frz_n, ↓frz_sl, ↓asg_v, ↓asg_n, ↓asg_sl, ↓opW, ↓cmpW, ↓eqw_int, ↓eqw_str, ↓eqw_tup, ↓eqw_lst, ↓ordW, ↓truW, ↓noOw, ↓ixW, ↓biW, ↓tgW, ↓tgsW, ↓opwW, ↓itW, ↓wipe_nil, ↓wipe_cons, ↓unwipe, ↓isOw, true_and, Bool.and_true, Bool.not_true, Bool.not_false, Bool.false_eq_true, ↓reduceIte, ↓blk_ap]
    by_cases l2 : ds.length = 2
    · rw [if_neg (by rw [decide_eq_true (show (ds.length : Int) = 2 by omega)]; decide)]
      obtain ⟨x, y, rfl⟩ : ∃ a b, ds = [a, b] := by
        match ds, l2 with
        | [a, b], _ => exact ⟨a, b, rfl⟩
      have nx := nd x (by simp)
      have ny := nd y (by simp)
      have sx := sh x (by simp)
      have sy := sh y (by simp)
      try simp -implicitDefEqProofs only [↓s_cs, ↓nx_ap, ↓s_nil, ↓s_set, ↓s_par, ↓s_unp, ↓s_ret, ↓s_retN, ↓s_drop, ↓s_if, ↓s_whl, ↓s_for, ↓s_app, ↓s_ext, ↓s_put, ↓s_ja, ↓s_ji, ↓s_js, ↓s_jl, ↓s_rais, ↓s_pass, ↓s_brk, ↓s_cont, ↓s_tri, ↓hd_nil, ↓hd_cons, ↓un_s, ↓un_n, ↓hu_ret, ↓hu_ifr, ↓hx_b, ↓hx_s, ↓hx_i, ↓hx_n, ↓hx_fld, ↓hx_isA, ↓hx_nt, ↓hx_and, ↓hx_ite, ↓hx_lst, ↓hx_tup, ↓hxs_nil, ↓hxs_cons, ↓ra_none, ↓ra_some, ↓x_calldB, ↓x_lw, ↓x_dct0, ↓x_v, ↓x_i, ↓x_b, ↓x_n, ↓x_st, ↓x_g, ↓x_tup, ↓x_lst, ↓x_bin, ↓x_neg, ↓x_nt, ↓x_cmp, ↓x_chain, ↓x_isN, ↓x_notN, ↓x_and, ↓x_or, ↓x_ite, ↓x_ix, ↓x_cut, ↓x_rev, ↓x_stp, ↓x_callB, ↓x_callkB, ↓x_bi, ↓x_comp, ↓x_pop, ↓x_popA, ↓x_jg, ↓x_jn, ↓x_jp, ↓x_scut, ↓x_slen, ↓srcK, ↓srcL, ↓t_yes, ↓t_and', ↓t_or', ↓t_nt', ↓t_ex, ↓e_nil, ↓e_cons, ↓a_nil', ↓a_cons', ↓rs_nil, ↓rs_cons, ↓frzS_v, ↓frzS_n, ↓asgs_nil, ↓asgs_cons, ↓rd_z, ↓rd_s, ↓set_z, ↓set_s, ↓at_mk, ↓isJar_j, ↓der_v, ↓der_n, ↓der_sl, ↓frz_v, ↓frz_n, ↓frz_sl, ↓asg_v, ↓asg_n, ↓asg_sl, ↓opW, ↓cmpW, ↓eqw_int, ↓eqw_str, ↓eqw_tup, ↓eqw_lst, ↓ordW, ↓truW, ↓noOw, ↓ixW, ↓biW, ↓tgW, ↓tgsW, ↓opwW, ↓itW, ↓wipe_nil, ↓wipe_cons, ↓unwipe, ↓isOw, true_and, Bool.and_true, Bool.not_true, Bool.not_false, Bool.false_eq_true, ↓reduceIte, ↓blk_ap, q0, q1]
      refine p_lfrac (n := n) nx sx ?_
      try simp -implicitDefEqProofs only [↓s_cs, ↓nx_ap, ↓s_nil, ↓s_set, ↓s_par, ↓s_unp, ↓s_ret, ↓s_retN, ↓s_drop, ↓s_if, ↓s_whl, ↓s_for, ↓s_app, ↓s_ext, ↓s_put, ↓s_ja, ↓s_ji, ↓s_js, ↓s_jl, ↓s_rais, ↓s_pass, ↓s_brk, ↓s_cont, ↓s_tri, ↓hd_nil, ↓hd_cons, ↓un_s, ↓un_n, ↓hu_ret, ↓hu_ifr, ↓hx_b, ↓hx_s, ↓hx_i, ↓hx_n, ↓hx_fld, ↓hx_isA, ↓hx_nt, ↓hx_and, ↓hx_ite, ↓hx_lst, ↓hx_tup, ↓hxs_nil, ↓hxs_cons, ↓ra_none, ↓ra_some, ↓x_calldB, ↓x_lw, ↓x_dct0, ↓x_v, ↓x_i, ↓x_b, ↓x_n, ↓x_st, ↓x_g, ↓x_tup, ↓x_lst, ↓x_bin, ↓x_neg, ↓x_nt, ↓x_cmp, ↓x_chain, ↓x_isN, ↓x_notN, ↓x_and, ↓x_or, ↓x_ite, ↓x_ix, ↓x_cut, ↓x_rev, ↓x_stp, ↓x_callB, ↓x_callkB, ↓x_bi, ↓x_comp, ↓x_pop, ↓x_popA, ↓x_jg, ↓x_jn, ↓x_jp, ↓x_scut, ↓x_slen, ↓srcK, ↓srcL, ↓t_yes, ↓t_and', ↓t_or', ↓t_nt', ↓t_ex, ↓e_nil, ↓e_cons, ↓a_nil', ↓a_cons', ↓rs_nil, ↓rs_cons, ↓frzS_v, ↓frzS_n, ↓asgs_nil, ↓asgs_cons, ↓rd_z, ↓rd_s, ↓set_z, ↓set_s, ↓at_mk, ↓isJar_j, ↓der_v, ↓der_n, ↓der_sl, ↓frz_v, ↓frz_n, ↓frz_sl, ↓asg_v, ↓asg_n, ↓asg_sl, ↓opW, ↓cmpW, ↓eqw_int, ↓eqw_str, ↓eqw_tup, ↓eqw_lst, ↓ordW, ↓truW, ↓noOw, ↓ixW, ↓biW, ↓tgW, ↓tgsW, ↓opwW, ↓itW, ↓wipe_nil, ↓wipe_cons, ↓unwipe, ↓isOw, true_and, Bool.and_true, Bool.not_true, Bool.not_false, Bool.false_eq_true, ↓reduceIte, ↓blk_ap]
      rcases flt_of h with ⟨x, y, rfl, rfl, fx, fy, h⟩ | ⟨q, h⟩
      · rw [fx, if_neg (by decide)]
        refine p_lfrac (n := n) ny sy ?_
        try simp -implicitDefEqProofs only [↓s_cs, ↓nx_ap, ↓s_nil, ↓s_set, ↓s_par, ↓s_unp, ↓s_ret, ↓s_retN, ↓s_drop, ↓s_if, ↓s_whl, ↓s_for, ↓s_app, ↓s_ext, ↓s_put, ↓s_ja, ↓s_ji, ↓s_js, ↓s_jl, ↓s_rais, ↓s_pass, ↓s_brk, ↓s_cont, ↓s_tri, ↓hd_nil, ↓hd_cons, ↓un_s, ↓un_n, ↓hu_ret, ↓hu_ifr, ↓hx_b, ↓hx_s, ↓hx_i, ↓hx_n, ↓hx_fld, ↓hx_isA, ↓hx_nt, ↓hx_and, ↓hx_ite, ↓hx_lst, ↓hx_tup, ↓hxs_nil, ↓hxs_cons, ↓ra_none, ↓ra_some, ↓x_calldB, ↓x_lw, ↓x_dct0, ↓x_v, ↓x_i, ↓x_b, ↓x_n, ↓x_st, ↓x_g, ↓x_tup, ↓x_lst, ↓x_bin, ↓x_neg, ↓x_nt, ↓x_cmp, ↓x_chain, ↓x_isN, ↓x_notN, ↓x_and, ↓x_or, ↓x_ite, ↓x_ix, ↓x_cut, ↓x_rev, ↓x_stp, ↓x_callB, ↓x_callkB, ↓x_bi, ↓x_comp, ↓x_pop, ↓x_popA, ↓x_jg, ↓x_jn, ↓x_jp, ↓x_scut, ↓x_slen, ↓srcK, ↓srcL, ↓t_yes, ↓t_and', ↓t_or', ↓t_nt', ↓t_ex, ↓e_nil, ↓e_cons, ↓a_nil', ↓a_cons', ↓rs_nil, ↓rs_cons, ↓frzS_v, ↓frzS_n, ↓asgs_nil, ↓asgs_cons, ↓rd_z, ↓rd_s, ↓set_z, ↓set_s, ↓at_mk, ↓isJar_j, ↓der_v, ↓der_n, ↓der_sl, ↓frz_v, ↓frz_n, ↓frz_sl, ↓asg_v, ↓asg_n, ↓asg_sl, ↓opW, ↓cmpW, ↓eqw_int, ↓eqw_str, ↓eqw_tup, ↓eqw_lst, ↓ordW, ↓truW, ↓noOw, ↓ixW, ↓biW, ↓tgW, ↓tgsW, ↓opwW, ↓itW, ↓wipe_nil, ↓wipe_cons, ↓unwipe, ↓isOw, true_and, Bool.and_true, Bool.not_true, Bool.not_false, Bool.false_eq_true, ↓reduceIte, ↓blk_ap]
        rw [fy, if_neg (by decide)]
        obtain ⟨⟨x1, x2⟩, y1, y2⟩ := bd x y rfl
        unfold res at h
        have e2 : ([.int 0, .int 1] : List D) = rangeD 0 2 := rfl
        rw [e2]
        refine for_inv (fun i r => (∃ s5, r = ⟨[.fz (.int o), .fz (.int u), .fz (.int m), .fz (ppD L H), .fz (.tuple [pD x, pD y]), s5], g⟩) ∧ (0 < i → ¬ m < x.2) ∧ (1 < i → ¬ m < y.2)) ⟨⟨_, rfl⟩, by omega, by omega⟩ ?_ ?_
        · rintro i d r hdd ⟨⟨s5, rfl⟩, z1, z2⟩ kk hk
          obtain ⟨hi, rfl⟩ := range_get hdd
          match i, hi with
          | 0, _ =>
            rw [show (0 : Int) + ((0 : Nat) : Int) = 0 from rfl]
            simp -implicitDefEqProofs only [↓s_cs, ↓nx_ap, ↓s_nil, ↓s_set, ↓s_par, ↓s_unp, ↓s_ret, ↓s_retN, ↓s_drop, ↓s_if, ↓s_whl, ↓s_for, ↓s_app, ↓s_ext, ↓s_put, ↓s_ja, ↓s_ji, ↓s_js, ↓s_jl, ↓s_rais, ↓s_pass, ↓s_brk, ↓s_cont, ↓s_tri, ↓hd_nil, ↓hd_cons, ↓un_s, ↓un_n, ↓hu_ret, ↓hu_ifr, ↓hx_b, ↓hx_s, ↓hx_i, ↓hx_n, ↓hx_fld, ↓hx_isA, ↓hx_nt, ↓hx_and, ↓hx_ite, ↓hx_lst, ↓hx_tup, ↓hxs_nil, ↓hxs_cons, ↓ra_none, ↓ra_some, ↓x_calldB, ↓x_lw, ↓x_dct0, ↓x_v, ↓x_i, ↓x_b, ↓x_n, ↓x_st, ↓x_g, ↓x_tup, ↓x_lst, ↓x_bin, ↓x_neg, ↓x_nt, ↓x_cmp, ↓x_chain, ↓x_isN, ↓x_notN, ↓x_and, ↓x_or, ↓x_ite, ↓x_ix, ↓x_cut, ↓x_rev, ↓x_stp, ↓x_callB, ↓x_callkB, ↓x_bi, ↓x_comp, ↓x_pop, ↓x_popA, ↓x_jg, ↓x_jn, ↓x_jp, ↓x_scut, ↓x_slen, ↓srcK, ↓srcL, ↓t_yes, ↓t_and', ↓t_or', ↓t_nt', ↓t_ex, ↓e_nil, ↓e_cons, ↓a_nil', ↓a_cons', ↓rs_nil, ↓rs_cons, ↓frzS_v, ↓frzS_n, ↓asgs_nil, ↓asgs_cons, ↓rd_z, ↓rd_s, ↓set_z, ↓set_s, ↓at_mk, ↓isJar_j, ↓der_v, ↓der_n, ↓der_sl, ↓frz_v, ↓frz_n, ↓frz_sl, ↓asg_v, ↓asg_n, ↓asg_sl, ↓opW, ↓cmpW, ↓eqw_int, ↓eqw_str, ↓eqw_tup, ↓eqw_lst, ↓ordW, ↓truW, ↓noOw, ↓ixW, ↓biW, ↓tgW, ↓tgsW, ↓opwW, ↓itW, ↓wipe_nil, ↓wipe_cons, ↓unwipe, ↓isOw, true_and, Bool.and_true, Bool.not_true, Bool.not_false, Bool.false_eq_true, ↓reduceIte, ↓blk_ap, ↓forF, ↓d10_1, q0, q1, pD]
            by_cases q : m < x.2
            · rw [if_pos (decide_eq_true q)]
              rw [if_pos q] at h
              exact h
            · rw [if_neg (by rw [decide_eq_true_eq]; exact q)]
              exact hk _ ⟨⟨_, rfl⟩, fun _ => q, by omega⟩
          | 1, _ =>
            rw [show (0 : Int) + ((1 : Nat) : Int) = 1 from rfl]
            simp -implicitDefEqProofs only [↓s_cs, ↓nx_ap, ↓s_nil, ↓s_set, ↓s_par, ↓s_unp, ↓s_ret, ↓s_retN, ↓s_drop, ↓s_if, ↓s_whl, ↓s_for, ↓s_app, ↓s_ext, ↓s_put, ↓s_ja, ↓s_ji, ↓s_js, ↓s_jl, ↓s_rais, ↓s_pass, ↓s_brk, ↓s_cont, ↓s_tri, ↓hd_nil, ↓hd_cons, ↓un_s, ↓un_n, ↓hu_ret, ↓hu_ifr, ↓hx_b, ↓hx_s, ↓hx_i, ↓hx_n, ↓hx_fld, ↓hx_isA, ↓hx_nt, ↓hx_and, ↓hx_ite, ↓hx_lst, ↓hx_tup, ↓hxs_nil, ↓hxs_cons, ↓ra_none, ↓ra_some, ↓x_calldB, ↓x_lw, ↓x_dct0, ↓x_v, ↓x_i, ↓x_b, ↓x_n, ↓x_st, ↓x_g, ↓x_tup, ↓x_lst, ↓x_bin, ↓x_neg, ↓x_nt, ↓x_cmp, ↓x_chain, ↓x_isN, ↓x_notN, ↓x_and, ↓x_or, ↓x_ite, ↓x_ix, ↓x_cut, ↓x_rev, ↓x_stp, ↓x_callB, ↓x_callkB, ↓x_bi, ↓x_comp, ↓x_pop, ↓x_popA, ↓x_jg, ↓x_jn, ↓x_jp, ↓x_scut, ↓x_slen, ↓srcK, ↓srcL, ↓t_yes, ↓t_and', ↓t_or', ↓t_nt', ↓t_ex, ↓e_nil, ↓e_cons, ↓a_nil', ↓a_cons', ↓rs_nil, ↓rs_cons, ↓frzS_v, ↓frzS_n, ↓asgs_nil, ↓asgs_cons, ↓rd_z, ↓rd_s, ↓set_z, ↓set_s, ↓at_mk, ↓isJar_j, ↓der_v, ↓der_n, ↓der_sl, ↓frz_v, ↓frz_n, ↓frz_sl, ↓asg_v, ↓asg_n, ↓asg_sl, ↓opW, ↓cmpW, ↓eqw_int, ↓eqw_str, ↓eqw_tup, ↓eqw_lst, ↓ordW, ↓truW, ↓noOw, ↓ixW, ↓biW, ↓tgW, ↓tgsW, ↓opwW, ↓itW, ↓wipe_nil, ↓wipe_cons, ↓unwipe, ↓isOw, true_and, Bool.and_true, Bool.not_true, Bool.not_false, Bool.false_eq_true, ↓reduceIte, ↓blk_ap, ↓forF, ↓d10_1, q0, q1, pD]
            have z1 := z1 (by decide)
            rw [if_neg z1] at h
            by_cases q : m < y.2
            · rw [if_pos (decide_eq_true q)]
              rw [if_pos q] at h
              exact h
            · rw [if_neg (by rw [decide_eq_true_eq]; exact q)]
              exact hk _ ⟨⟨_, rfl⟩, fun _ => z1, fun _ => q⟩
        · rintro r ⟨⟨s5, rfl⟩, z1, z2⟩
          have z1 := z1 (by decide)
          have z2 := z2 (by decide)
          rw [if_neg z1, if_neg z2] at h
          try simp -implicitDefEqProofs only [↓s_cs, ↓nx_ap, ↓s_nil, ↓s_set, ↓s_par, ↓s_unp, ↓s_ret, ↓s_retN, ↓s_drop, ↓s_if, ↓s_whl, ↓s_for, ↓s_app, ↓s_ext, ↓s_put, ↓s_ja, ↓s_ji, ↓s_js, ↓s_jl, ↓s_rais, ↓s_pass, ↓s_brk, ↓s_cont, ↓s_tri, ↓hd_nil, ↓hd_cons, ↓un_s, ↓un_n, ↓hu_ret, ↓hu_ifr, ↓hx_b, ↓hx_s, ↓hx_i, ↓hx_n, ↓hx_fld, ↓hx_isA, ↓hx_nt, ↓hx_and, ↓hx_ite, ↓hx_lst, ↓hx_tup, ↓hxs_nil, ↓hxs_cons, ↓ra_none, ↓ra_some, ↓x_calldB, ↓x_lw, ↓x_dct0, ↓x_v, ↓x_i, ↓x_b, ↓x_n, ↓x_st, ↓x_g, ↓x_tup, ↓x_lst, ↓x_bin, ↓x_neg, ↓x_nt, ↓x_cmp, ↓x_chain, ↓x_isN, ↓x_notN, ↓x_and, ↓x_or, ↓x_ite, ↓x_ix, ↓x_cut, ↓x_rev, ↓x_stp, ↓x_callB, ↓x_callkB, ↓x_bi, ↓x_comp, ↓x_pop, ↓x_popA, ↓x_jg, ↓x_jn, ↓x_jp, ↓x_scut, ↓x_slen, ↓srcK, ↓srcL, ↓t_yes, ↓t_and', ↓t_or', ↓t_nt', ↓t_ex, ↓e_nil, ↓e_cons, ↓a_nil', ↓a_cons', ↓rs_nil, ↓rs_cons, ↓frzS_v, ↓frzS_n, ↓asgs_nil, ↓asgs_cons, ↓rd_z, ↓rd_s, ↓set_z, ↓set_s, ↓at_mk, ↓isJar_j, ↓der_v, ↓der_n, ↓der_sl, ↓frz_v, ↓frz_n, ↓frz_sl, ↓asg_v, ↓asg_n, ↓asg_sl, ↓opW, ↓cmpW, ↓eqw_int, ↓eqw_str, ↓eqw_tup, ↓eqw_lst, ↓ordW, ↓truW, ↓noOw, ↓ixW, ↓biW, ↓tgW, ↓tgsW, ↓opwW, ↓itW, ↓wipe_nil, ↓wipe_cons, ↓unwipe, ↓isOw, true_and, Bool.and_true, Bool.not_true, Bool.not_false, Bool.false_eq_true, ↓reduceIte, ↓blk_ap, q0, q1]
          refine p_less (n := n + 1) (u := (o, u)) (v := x) (mulB o7 x2) (mulB x1 u7) ?_
          try simp -implicitDefEqProofs only [↓s_cs, ↓nx_ap, ↓s_nil, ↓s_set, ↓s_par, ↓s_unp, ↓s_ret, ↓s_retN, ↓s_drop, ↓s_if, ↓s_whl, ↓s_for, ↓s_app, ↓s_ext, ↓s_put, ↓s_ja, ↓s_ji, ↓s_js, ↓s_jl, ↓s_rais, ↓s_pass, ↓s_brk, ↓s_cont, ↓s_tri, ↓hd_nil, ↓hd_cons, ↓un_s, ↓un_n, ↓hu_ret, ↓hu_ifr, ↓hx_b, ↓hx_s, ↓hx_i, ↓hx_n, ↓hx_fld, ↓hx_isA, ↓hx_nt, ↓hx_and, ↓hx_ite, ↓hx_lst, ↓hx_tup, ↓hxs_nil, ↓hxs_cons, ↓ra_none, ↓ra_some, ↓x_calldB, ↓x_lw, ↓x_dct0, ↓x_v, ↓x_i, ↓x_b, ↓x_n, ↓x_st, ↓x_g, ↓x_tup, ↓x_lst, ↓x_bin, ↓x_neg, ↓x_nt, ↓x_cmp, ↓x_chain, ↓x_isN, ↓x_notN, ↓x_and, ↓x_or, ↓x_ite, ↓x_ix, ↓x_cut, ↓x_rev, ↓x_stp, ↓x_callB, ↓x_callkB, ↓x_bi, ↓x_comp, ↓x_pop, ↓x_popA, ↓x_jg, ↓x_jn, ↓x_jp, ↓x_scut, ↓x_slen, ↓srcK, ↓srcL, ↓t_yes, ↓t_and', ↓t_or', ↓t_nt', ↓t_ex, ↓e_nil, ↓e_cons, ↓a_nil', ↓a_cons', ↓rs_nil, ↓rs_cons, ↓frzS_v, ↓frzS_n, ↓asgs_nil, ↓asgs_cons, ↓rd_z, ↓rd_s, ↓set_z, ↓set_s, ↓at_mk, ↓isJar_j, ↓der_v, ↓der_n, ↓der_sl, ↓frz_v, ↓frz_n, ↓frz_sl, ↓asg_v, ↓asg_n, ↓asg_sl, ↓opW, ↓cmpW, ↓eqw_int, ↓eqw_str, ↓eqw_tup, ↓eqw_lst, ↓ordW, ↓truW, ↓noOw, ↓ixW, ↓biW, ↓tgW, ↓tgsW, ↓opwW, ↓itW, ↓wipe_nil, ↓wipe_cons, ↓unwipe, ↓isOw, true_and, Bool.and_true, Bool.not_true, Bool.not_false, Bool.false_eq_true, ↓reduceIte, ↓blk_ap]
          by_cases c1 : o * x.2 < x.1 * u
          · rw [if_pos (decide_eq_true c1)]
            rw [if_pos (.inl c1)] at h
            exact h
          rw [if_neg (by rw [decide_eq_true_eq]; exact c1)]
          refine p_less (n := n + 1) (u := y) (v := (o, u)) (mulB y1 u7) (mulB o7 y2) ?_
          try simp -implicitDefEqProofs only [↓s_cs, ↓nx_ap, ↓s_nil, ↓s_set, ↓s_par, ↓s_unp, ↓s_ret, ↓s_retN, ↓s_drop, ↓s_if, ↓s_whl, ↓s_for, ↓s_app, ↓s_ext, ↓s_put, ↓s_ja, ↓s_ji, ↓s_js, ↓s_jl, ↓s_rais, ↓s_pass, ↓s_brk, ↓s_cont, ↓s_tri, ↓hd_nil, ↓hd_cons, ↓un_s, ↓un_n, ↓hu_ret, ↓hu_ifr, ↓hx_b, ↓hx_s, ↓hx_i, ↓hx_n, ↓hx_fld, ↓hx_isA, ↓hx_nt, ↓hx_and, ↓hx_ite, ↓hx_lst, ↓hx_tup, ↓hxs_nil, ↓hxs_cons, ↓ra_none, ↓ra_some, ↓x_calldB, ↓x_lw, ↓x_dct0, ↓x_v, ↓x_i, ↓x_b, ↓x_n, ↓x_st, ↓x_g, ↓x_tup, ↓x_lst, ↓x_bin, ↓x_neg, ↓x_nt, ↓x_cmp, ↓x_chain, ↓x_isN, ↓x_notN, ↓x_and, ↓x_or, ↓x_ite, ↓x_ix, ↓x_cut, ↓x_rev, ↓x_stp, ↓x_callB, ↓x_callkB, ↓x_bi, ↓x_comp, ↓x_pop, ↓x_popA, ↓x_jg, ↓x_jn, ↓x_jp, ↓x_scut, ↓x_slen, ↓srcK, ↓srcL, ↓t_yes, ↓t_and', ↓t_or', ↓t_nt', ↓t_ex, ↓e_nil, ↓e_cons, ↓a_nil', ↓a_cons', ↓rs_nil, ↓rs_cons, ↓frzS_v, ↓frzS_n, ↓asgs_nil, ↓asgs_cons, ↓rd_z, ↓rd_s, ↓set_z, ↓set_s, ↓at_mk, ↓isJar_j, ↓der_v, ↓der_n, ↓der_sl, ↓frz_v, ↓frz_n, ↓frz_sl, ↓asg_v, ↓asg_n, ↓asg_sl, ↓opW, ↓cmpW, ↓eqw_int, ↓eqw_str, ↓eqw_tup, ↓eqw_lst, ↓ordW, ↓truW, ↓noOw, ↓ixW, ↓biW, ↓tgW, ↓tgsW, ↓opwW, ↓itW, ↓wipe_nil, ↓wipe_cons, ↓unwipe, ↓isOw, true_and, Bool.and_true, Bool.not_true, Bool.not_false, Bool.false_eq_true, ↓reduceIte, ↓blk_ap]
          by_cases c2 : y.1 * u < o * y.2
          · rw [if_pos (decide_eq_true c2)]
            rw [if_pos (.inr c2)] at h
            exact h
          rw [if_neg (by rw [decide_eq_true_eq]; exact c2)]
          rw [if_neg (by rintro (z | z); exact c1 z; exact c2 z)] at h
          have ew : ∀ {Q : Bool → Prop}, eqW (.tuple [pD x, pD y]) (ppD L H) Q = (shaped (ppD x y) ∧ shaped (ppD L H) ∧ Q (PyData.eqv (ppD x y) (ppD L H))) := fun {Q} => rfl
          try simp -implicitDefEqProofs only [↓s_cs, ↓nx_ap, ↓s_nil, ↓s_set, ↓s_par, ↓s_unp, ↓s_ret, ↓s_retN, ↓s_drop, ↓s_if, ↓s_whl, ↓s_for, ↓s_app, ↓s_ext, ↓s_put, ↓s_ja, ↓s_ji, ↓s_js, ↓s_jl, ↓s_rais, ↓s_pass, ↓s_brk, ↓s_cont, ↓s_tri, ↓hd_nil, ↓hd_cons, ↓un_s, ↓un_n, ↓hu_ret, ↓hu_ifr, ↓hx_b, ↓hx_s, ↓hx_i, ↓hx_n, ↓hx_fld, ↓hx_isA, ↓hx_nt, ↓hx_and, ↓hx_ite, ↓hx_lst, ↓hx_tup, ↓hxs_nil, ↓hxs_cons, ↓ra_none, ↓ra_some, ↓x_calldB, ↓x_lw, ↓x_dct0, ↓x_v, ↓x_i, ↓x_b, ↓x_n, ↓x_st, ↓x_g, ↓x_tup, ↓x_lst, ↓x_bin, ↓x_neg, ↓x_nt, ↓x_cmp, ↓x_chain, ↓x_isN, ↓x_notN, ↓x_and, ↓x_or, ↓x_ite, ↓x_ix, ↓x_cut, ↓x_rev, ↓x_stp, ↓x_callB, ↓x_callkB, ↓x_bi, ↓x_comp, ↓x_pop, ↓x_popA, ↓x_jg, ↓x_jn, ↓x_jp, ↓x_scut, ↓x_slen, ↓srcK, ↓srcL, ↓t_yes, ↓t_and', ↓t_or', ↓t_nt', ↓t_ex, ↓e_nil, ↓e_cons, ↓a_nil', ↓a_cons', ↓rs_nil, ↓rs_cons, ↓frzS_v, ↓frzS_n, ↓asgs_nil, ↓asgs_cons, ↓rd_z, ↓rd_s, ↓set_z, ↓set_s, ↓at_mk, ↓isJar_j, ↓der_v, ↓der_n, ↓der_sl, ↓frz_v, ↓frz_n, ↓frz_sl, ↓asg_v, ↓asg_n, ↓asg_sl, ↓opW, ↓cmpW, ↓eqw_int, ↓eqw_str, ↓eqw_tup, ↓eqw_lst, ↓ordW, ↓truW, ↓noOw, ↓ixW, ↓biW, ↓tgW, ↓tgsW, ↓opwW, ↓itW, ↓wipe_nil, ↓wipe_cons, ↓unwipe, ↓isOw, true_and, Bool.and_true, Bool.not_true, Bool.not_false, Bool.false_eq_true, ↓reduceIte, ↓blk_ap, ew, eqv_pp]
          refine ⟨shaped_pp, shaped_pp, ?_⟩
          rw [show (PyData.tuple [pD x, pD y]).eqv (ppD L H) = decide (x = L ∧ y = H) from eqv_pp]
          by_cases c3 : x = L ∧ y = H
          · rw [if_pos (decide_eq_true c3)]
            rw [if_pos c3] at h
            exact h
          · rw [if_neg (by rw [decide_eq_true_eq]; exact c3)]
            rw [if_neg c3] at h
            exact h
      · cases fx : isFrac x with
        | false =>
          rw [if_pos (by decide)]
          exact h
        | true =>
          rw [if_neg (by decide)]
          refine p_lfrac (n := n) ny sy ?_
          try simp -implicitDefEqProofs only [↓s_cs, ↓nx_ap, ↓s_nil, ↓s_set, ↓s_par, ↓s_unp, ↓s_ret, ↓s_retN, ↓s_drop, ↓s_if, ↓s_whl, ↓s_for, ↓s_app, ↓s_ext, ↓s_put, ↓s_ja, ↓s_ji, ↓s_js, ↓s_jl, ↓s_rais, ↓s_pass, ↓s_brk, ↓s_cont, ↓s_tri, ↓hd_nil, ↓hd_cons, ↓un_s, ↓un_n, ↓hu_ret, ↓hu_ifr, ↓hx_b, ↓hx_s, ↓hx_i, ↓hx_n, ↓hx_fld, ↓hx_isA, ↓hx_nt, ↓hx_and, ↓hx_ite, ↓hx_lst, ↓hx_tup, ↓hxs_nil, ↓hxs_cons, ↓ra_none, ↓ra_some, ↓x_calldB, ↓x_lw, ↓x_dct0, ↓x_v, ↓x_i, ↓x_b, ↓x_n, ↓x_st, ↓x_g, ↓x_tup, ↓x_lst, ↓x_bin, ↓x_neg, ↓x_nt, ↓x_cmp, ↓x_chain, ↓x_isN, ↓x_notN, ↓x_and, ↓x_or, ↓x_ite, ↓x_ix, ↓x_cut, ↓x_rev, ↓x_stp, ↓x_callB, ↓x_callkB, ↓x_bi, ↓x_comp, ↓x_pop, ↓x_popA, ↓x_jg, ↓x_jn, ↓x_jp, ↓x_scut, ↓x_slen, ↓srcK, ↓srcL, ↓t_yes, ↓t_and', ↓t_or', ↓t_nt', ↓t_ex, ↓e_nil, ↓e_cons, ↓a_nil', ↓a_cons', ↓rs_nil, ↓rs_cons, ↓frzS_v, ↓frzS_n, ↓asgs_nil, ↓asgs_cons, ↓rd_z, ↓rd_s, ↓set_z, ↓set_s, ↓at_mk, ↓isJar_j, ↓der_v, ↓der_n, ↓der_sl, ↓frz_v, ↓frz_n, ↓frz_sl, ↓asg_v, ↓asg_n, ↓asg_sl, ↓opW, ↓cmpW, ↓eqw_int, ↓eqw_str, ↓eqw_tup, ↓eqw_lst, ↓ordW, ↓truW, ↓noOw, ↓ixW, ↓biW, ↓tgW, ↓tgsW, ↓opwW, ↓itW, ↓wipe_nil, ↓wipe_cons, ↓unwipe, ↓isOw, true_and, Bool.and_true, Bool.not_true, Bool.not_false, Bool.false_eq_true, ↓reduceIte, ↓blk_ap]
          rw [if_pos (by
            cases fy : isFrac y with
            | false => rfl
            | true => exact absurd ⟨fx, fy⟩ q)]
          exact h
    · rw [if_pos (by rw [decide_eq_false (show ¬ (ds.length : Int) = 2 by omega)]; rfl)]
      exact h _ (form_len l2)
  | _ => exact h _ (nof _ fun x y e => by cases e)
theorem p_err {n k : Nat} {g : Gh} {o u m : Int} {L H : P2} {d : D} {K : D → Gh → Prop} {X : Exn → Gh → Prop} (a : Ask o u m) (nr : Near o u m L H) (hd : VS 6 k d) (bd : ∀ x y, d = ppD x y → Bd x ∧ Bd y) (h : ∀ e, Flt o u m L H d e → K e g) : callW T (n + 3) 15 [.int o, .int u, .int m, d] g K X := by
  refine call_df (np := 4) (ns := 10) (b := d15.b) rfl rfl ?_
  have e0 : startE 10 [.int o, .int u, .int m, d] g = ⟨[.fz (.int o), .fz (.int u), .fz (.int m), .fz d, .un, .un, .un, .un, .un, .un], g⟩ := rfl
  rw [e0]
  have o7 : o.natAbs < 2 ^ 700 := Nat.lt_of_le_of_lt a.oB (by decide +kernel)
  have u7 : u.natAbs < 2 ^ 700 := Nat.lt_of_le_of_lt (show u.natAbs ≤ 10 ^ 41 by have := a.u1; have := a.u0; omega) (by decide +kernel)
  have nof : ∀ d : D, (∀ x y : P2, d ≠ ppD x y) → Flt o u m L H d (.str "form") := fun d hn => .form d fun x y e => (hn x y e).elim
  simp -implicitDefEqProofs only [↓s_cs, ↓nx_ap, ↓s_nil, ↓s_set, ↓s_par, ↓s_unp, ↓s_ret, ↓s_retN, ↓s_drop, ↓s_if, ↓s_whl, ↓s_for, ↓s_app, ↓s_ext, ↓s_put, ↓s_ja, ↓s_ji, ↓s_js, ↓s_jl, ↓s_rais, ↓s_pass, ↓s_brk, ↓s_cont, ↓s_tri, ↓hd_nil, ↓hd_cons, ↓un_s, ↓un_n, ↓hu_ret, ↓hu_ifr, ↓hx_b, ↓hx_s, ↓hx_i, ↓hx_n, ↓hx_fld, ↓hx_isA, ↓hx_nt, ↓hx_and, ↓hx_ite, ↓hx_lst, ↓hx_tup, ↓hxs_nil, ↓hxs_cons, ↓ra_none, ↓ra_some, ↓x_calldB, ↓x_lw, ↓x_dct0, ↓x_v, ↓x_i, ↓x_b, ↓x_n, ↓x_st, ↓x_g, ↓x_tup, ↓x_lst, ↓x_bin, ↓x_neg, ↓x_nt, ↓x_cmp, ↓x_chain, ↓x_isN, ↓x_notN, ↓x_and, ↓x_or, ↓x_ite, ↓x_ix, ↓x_cut, ↓x_rev, ↓x_stp, ↓x_callB, ↓x_callkB, ↓x_bi, ↓x_comp, ↓x_pop, ↓x_popA, ↓x_jg, ↓x_jn, ↓x_jp, ↓x_scut, ↓x_slen, ↓srcK, ↓srcL, ↓t_yes, ↓t_and', ↓t_or', ↓t_nt', ↓t_ex, ↓e_nil, ↓e_cons, ↓a_nil', ↓a_cons', ↓rs_nil, ↓rs_cons, ↓frzS_v, ↓frzS_n, ↓asgs_nil, ↓asgs_cons, ↓rd_z, ↓rd_s, ↓set_z, ↓set_s, ↓at_mk, ↓isJar_j, ↓der_v, ↓der_n, ↓der_sl, ↓frz_v, ↓frz_n, ↓frz_sl, ↓asg_v, ↓asg_n, ↓asg_sl, ↓opW, ↓cmpW, ↓eqw_int, ↓eqw_str, ↓eqw_tup, ↓eqw_lst, ↓ordW, ↓truW, ↓noOw, ↓ixW, ↓biW, ↓tgW, ↓tgsW, ↓opwW, ↓itW, ↓wipe_nil, ↓wipe_cons, ↓unwipe, ↓isOw, true_and, Bool.and_true, Bool.not_true, Bool.not_false, Bool.false_eq_true, ↓reduceIte, ↓blk_ap, ↓d15, ↓bi_isT]
  refine ⟨.inl hd.v.nd, ?_⟩
  cases d with
  | tuple ds =>
    rw [show isD .isTuple (.tuple ds) = true from rfl, if_neg (by decide)]
    have nd := nd_mem (ds := ds) (by simpa only [PyData.hasDict] using hd.v.nd)
    try simp -implicitDefEqProofs only [↓s_cs, ↓nx_ap, ↓s_nil, ↓s_set, ↓s_par, ↓s_unp, ↓s_ret, ↓s_retN, ↓s_drop, ↓s_if, ↓s_whl, ↓s_for, ↓s_app, ↓s_ext, ↓s_put, ↓s_ja, ↓s_ji, ↓s_js, ↓s_jl, ↓s_rais, ↓s_pass, ↓s_brk, ↓s_cont, ↓s_tri, ↓hd_nil, ↓hd_cons, ↓un_s, ↓un_n, ↓hu_ret, ↓hu_ifr, ↓hx_b, ↓hx_s, ↓hx_i, ↓hx_n, ↓hx_fld, ↓hx_isA, ↓hx_nt, ↓hx_and, ↓hx_ite, ↓hx_lst, ↓hx_tup, ↓hxs_nil, ↓hxs_cons, ↓ra_none, ↓ra_some, ↓x_calldB, ↓x_lw, ↓x_dct0, ↓x_v, ↓x_i, ↓x_b, ↓x_n, ↓x_st, ↓x_g, ↓x_tup, ↓x_lst, ↓x_bin, ↓x_neg, ↓x_nt, ↓x_cmp, ↓x_chain, ↓x_isN, ↓x_notN, ↓x_and, ↓x_or, ↓x_ite, ↓x_ix, ↓x_cut, ↓x_rev, ↓x_stp, ↓x_callB, ↓x_callkB, ↓x_bi, ↓x_comp, ↓x_pop, ↓x_popA, ↓x_jg, ↓x_jn, ↓x_jp, ↓x_scut, ↓x_slen, ↓srcK, ↓srcL, ↓t_yes, ↓t_and', ↓t_or', ↓t_nt', ↓t_ex, ↓e_nil, ↓e_cons, ↓a_nil', ↓a_cons', ↓rs_nil, ↓rs_cons, ↓frzS_v, ↓frzS_n, ↓asgs_nil, ↓asgs_cons, ↓rd_z, ↓rd_s, ↓set_z, ↓set_s, ↓at_mk, ↓isJar_j, ↓der_v, ↓der_n, ↓der_sl, ↓frz_v, ↓frz_n, ↓frz_sl, ↓asg_v, ↓asg_n, ↓asg_sl, ↓opW, ↓cmpW, ↓eqw_int, ↓eqw_str, ↓eqw_tup, ↓eqw_lst, ↓ordW, ↓truW, ↓noOw, ↓ixW, ↓biW, ↓tgW, ↓tgsW, ↓opwW, ↓itW, ↓wipe_nil, ↓wipe_cons, ↓unwipe, ↓isOw, true_and, Bool.and_true, Bool.not_true, Bool.not_false, Bool.false_eq_true, ↓reduceIte, ↓blk_ap]
    by_cases l2 : ds.length = 2
    · rw [if_neg (by rw [decide_eq_true (show (ds.length : Int) = 2 by omega)]; decide)]
      obtain ⟨x, y, rfl⟩ : ∃ a b, ds = [a, b] := by
        match ds, l2 with
        | [a, b], _ => exact ⟨a, b, rfl⟩
      refine turns_all (fun d => .bool (isFrac d)) ?_ ?_
      · intro z hz kk hk
        simp -implicitDefEqProofs only [↓s_cs, ↓nx_ap, ↓s_nil, ↓s_set, ↓s_par, ↓s_unp, ↓s_ret, ↓s_retN, ↓s_drop, ↓s_if, ↓s_whl, ↓s_for, ↓s_app, ↓s_ext, ↓s_put, ↓s_ja, ↓s_ji, ↓s_js, ↓s_jl, ↓s_rais, ↓s_pass, ↓s_brk, ↓s_cont, ↓s_tri, ↓hd_nil, ↓hd_cons, ↓un_s, ↓un_n, ↓hu_ret, ↓hu_ifr, ↓hx_b, ↓hx_s, ↓hx_i, ↓hx_n, ↓hx_fld, ↓hx_isA, ↓hx_nt, ↓hx_and, ↓hx_ite, ↓hx_lst, ↓hx_tup, ↓hxs_nil, ↓hxs_cons, ↓ra_none, ↓ra_some, ↓x_calldB, ↓x_lw, ↓x_dct0, ↓x_v, ↓x_i, ↓x_b, ↓x_n, ↓x_st, ↓x_g, ↓x_tup, ↓x_lst, ↓x_bin, ↓x_neg, ↓x_nt, ↓x_cmp, ↓x_chain, ↓x_isN, ↓x_notN, ↓x_and, ↓x_or, ↓x_ite, ↓x_ix, ↓x_cut, ↓x_rev, ↓x_stp, ↓x_callB, ↓x_callkB, ↓x_bi, ↓x_comp, ↓x_pop, ↓x_popA, ↓x_jg, ↓x_jn, ↓x_jp, ↓x_scut, ↓x_slen, ↓srcK, ↓srcL, ↓t_yes, ↓t_and', ↓t_or', ↓t_nt', ↓t_ex, ↓e_nil, ↓e_cons, ↓a_nil', ↓a_cons', ↓rs_nil, ↓rs_cons, ↓frzS_v, ↓frzS_n, ↓asgs_nil, ↓asgs_cons, ↓rd_z, ↓rd_s, ↓set_z, ↓set_s, ↓at_mk, ↓isJar_j, ↓der_v, ↓der_n, ↓der_sl, ↓frz_v, ↓frz_n, ↓frz_sl, ↓asg_v, ↓asg_n, ↓asg_sl, ↓opW, ↓cmpW, ↓eqw_int, ↓eqw_str, ↓eqw_tup, ↓eqw_lst, ↓ordW, ↓truW, ↓noOw, ↓ixW, ↓biW, ↓tgW, ↓tgsW, ↓opwW, ↓itW, ↓wipe_nil, ↓wipe_cons, ↓unwipe, ↓isOw, true_and, Bool.and_true, Bool.not_true, Bool.not_false, Bool.false_eq_true, ↓reduceIte, ↓blk_ap, ↓compF]
        refine p_frac (n := n) (nd z hz) ?_
        try simp -implicitDefEqProofs only [↓s_cs, ↓nx_ap, ↓s_nil, ↓s_set, ↓s_par, ↓s_unp, ↓s_ret, ↓s_retN, ↓s_drop, ↓s_if, ↓s_whl, ↓s_for, ↓s_app, ↓s_ext, ↓s_put, ↓s_ja, ↓s_ji, ↓s_js, ↓s_jl, ↓s_rais, ↓s_pass, ↓s_brk, ↓s_cont, ↓s_tri, ↓hd_nil, ↓hd_cons, ↓un_s, ↓un_n, ↓hu_ret, ↓hu_ifr, ↓hx_b, ↓hx_s, ↓hx_i, ↓hx_n, ↓hx_fld, ↓hx_isA, ↓hx_nt, ↓hx_and, ↓hx_ite, ↓hx_lst, ↓hx_tup, ↓hxs_nil, ↓hxs_cons, ↓ra_none, ↓ra_some, ↓x_calldB, ↓x_lw, ↓x_dct0, ↓x_v, ↓x_i, ↓x_b, ↓x_n, ↓x_st, ↓x_g, ↓x_tup, ↓x_lst, ↓x_bin, ↓x_neg, ↓x_nt, ↓x_cmp, ↓x_chain, ↓x_isN, ↓x_notN, ↓x_and, ↓x_or, ↓x_ite, ↓x_ix, ↓x_cut, ↓x_rev, ↓x_stp, ↓x_callB, ↓x_callkB, ↓x_bi, ↓x_comp, ↓x_pop, ↓x_popA, ↓x_jg, ↓x_jn, ↓x_jp, ↓x_scut, ↓x_slen, ↓srcK, ↓srcL, ↓t_yes, ↓t_and', ↓t_or', ↓t_nt', ↓t_ex, ↓e_nil, ↓e_cons, ↓a_nil', ↓a_cons', ↓rs_nil, ↓rs_cons, ↓frzS_v, ↓frzS_n, ↓asgs_nil, ↓asgs_cons, ↓rd_z, ↓rd_s, ↓set_z, ↓set_s, ↓at_mk, ↓isJar_j, ↓der_v, ↓der_n, ↓der_sl, ↓frz_v, ↓frz_n, ↓frz_sl, ↓asg_v, ↓asg_n, ↓asg_sl, ↓opW, ↓cmpW, ↓eqw_int, ↓eqw_str, ↓eqw_tup, ↓eqw_lst, ↓ordW, ↓truW, ↓noOw, ↓ixW, ↓biW, ↓tgW, ↓tgsW, ↓opwW, ↓itW, ↓wipe_nil, ↓wipe_cons, ↓unwipe, ↓isOw, true_and, Bool.and_true, Bool.not_true, Bool.not_false, Bool.false_eq_true, ↓reduceIte, ↓blk_ap]
        exact hk
      · rw [List.nil_append]
        have e1 : ([x, y].map fun d => PyData.bool (isFrac d)) = [isFrac x, isFrac y].map .bool := rfl
        rw [e1]
        try simp -implicitDefEqProofs only [↓s_cs, ↓nx_ap, ↓s_nil, ↓s_set, ↓s_par, ↓s_unp, ↓s_ret, ↓s_retN, ↓s_drop, ↓s_if, ↓s_whl, ↓s_for, ↓s_app, ↓s_ext, ↓s_put, ↓s_ja, ↓s_ji, ↓s_js, ↓s_jl, ↓s_rais, ↓s_pass, ↓s_brk, ↓s_cont, ↓s_tri, ↓hd_nil, ↓hd_cons, ↓un_s, ↓un_n, ↓hu_ret, ↓hu_ifr, ↓hx_b, ↓hx_s, ↓hx_i, ↓hx_n, ↓hx_fld, ↓hx_isA, ↓hx_nt, ↓hx_and, ↓hx_ite, ↓hx_lst, ↓hx_tup, ↓hxs_nil, ↓hxs_cons, ↓ra_none, ↓ra_some, ↓x_calldB, ↓x_lw, ↓x_dct0, ↓x_v, ↓x_i, ↓x_b, ↓x_n, ↓x_st, ↓x_g, ↓x_tup, ↓x_lst, ↓x_bin, ↓x_neg, ↓x_nt, ↓x_cmp, ↓x_chain, ↓x_isN, ↓x_notN, ↓x_and, ↓x_or, ↓x_ite, ↓x_ix, ↓x_cut, ↓x_rev, ↓x_stp, ↓x_callB, ↓x_callkB, ↓x_bi, ↓x_comp, ↓x_pop, ↓x_popA, ↓x_jg, ↓x_jn, ↓x_jp, ↓x_scut, ↓x_slen, ↓srcK, ↓srcL, ↓t_yes, ↓t_and', ↓t_or', ↓t_nt', ↓t_ex, ↓e_nil, ↓e_cons, ↓a_nil', ↓a_cons', ↓rs_nil, ↓rs_cons, ↓frzS_v, ↓frzS_n, ↓asgs_nil, ↓asgs_cons, ↓rd_z, ↓rd_s, ↓set_z, ↓set_s, ↓at_mk, ↓isJar_j, ↓der_v, ↓der_n, ↓der_sl, ↓frz_v, ↓frz_n, ↓frz_sl, ↓asg_v, ↓asg_n, ↓asg_sl, ↓opW, ↓cmpW, ↓eqw_int, ↓eqw_str, ↓eqw_tup, ↓eqw_lst, ↓ordW, ↓truW, ↓noOw, ↓ixW, ↓biW, ↓tgW, ↓tgsW, ↓opwW, ↓itW, ↓wipe_nil, ↓wipe_cons, ↓unwipe, ↓isOw, true_and, Bool.and_true, Bool.not_true, Bool.not_false, Bool.false_eq_true, ↓reduceIte, ↓blk_ap, asBools_map]
        rcases flt_of h with ⟨x, y, rfl, rfl, fx, fy, h⟩ | ⟨q, h⟩
        · rw [fx, fy]
          rw [show ([true, true] : List Bool).all id = true from rfl, if_neg (by decide)]
          obtain ⟨⟨x1, x2⟩, y1, y2⟩ := bd x y rfl
          unfold res at h
          refine for_inv (fun i r => (∃ s4 s5 s6, r = ⟨[.fz (.int o), .fz (.int u), .fz (.int m), .fz (.tuple [pD x, pD y]), s4, s5, s6, .un, .un, .un], g⟩) ∧ (0 < i → ¬ m < x.2) ∧ (1 < i → ¬ m < y.2)) ⟨⟨_, _, _, rfl⟩, by omega, by omega⟩ ?_ ?_
          · rintro i d r hdd ⟨⟨s4, s5, s6, rfl⟩, z1, z2⟩ kk hk
            obtain ⟨v, hv, rfl⟩ := enum_get hdd
            match i, hv with
            | 0, hv =>
              cases hv
              simp -implicitDefEqProofs only [↓s_cs, ↓nx_ap, ↓s_nil, ↓s_set, ↓s_par, ↓s_unp, ↓s_ret, ↓s_retN, ↓s_drop, ↓s_if, ↓s_whl, ↓s_for, ↓s_app, ↓s_ext, ↓s_put, ↓s_ja, ↓s_ji, ↓s_js, ↓s_jl, ↓s_rais, ↓s_pass, ↓s_brk, ↓s_cont, ↓s_tri, ↓hd_nil, ↓hd_cons, ↓un_s, ↓un_n, ↓hu_ret, ↓hu_ifr, ↓hx_b, ↓hx_s, ↓hx_i, ↓hx_n, ↓hx_fld, ↓hx_isA, ↓hx_nt, ↓hx_and, ↓hx_ite, ↓hx_lst, ↓hx_tup, ↓hxs_nil, ↓hxs_cons, ↓ra_none, ↓ra_some, ↓x_calldB, ↓x_lw, ↓x_dct0, ↓x_v, ↓x_i, ↓x_b, ↓x_n, ↓x_st, ↓x_g, ↓x_tup, ↓x_lst, ↓x_bin, ↓x_neg, ↓x_nt, ↓x_cmp, ↓x_chain, ↓x_isN, ↓x_notN, ↓x_and, ↓x_or, ↓x_ite, ↓x_ix, ↓x_cut, ↓x_rev, ↓x_stp, ↓x_callB, ↓x_callkB, ↓x_bi, ↓x_comp, ↓x_pop, ↓x_popA, ↓x_jg, ↓x_jn, ↓x_jp, ↓x_scut, ↓x_slen, ↓srcK, ↓srcL, ↓t_yes, ↓t_and', ↓t_or', ↓t_nt', ↓t_ex, ↓e_nil, ↓e_cons, ↓a_nil', ↓a_cons', ↓rs_nil, ↓rs_cons, ↓frzS_v, ↓frzS_n, ↓asgs_nil, ↓asgs_cons, ↓rd_z, ↓rd_s, ↓set_z, ↓set_s, ↓at_mk, ↓isJar_j, ↓der_v, ↓der_n, ↓der_sl, ↓frz_v, ↓frz_n, ↓frz_sl, ↓asg_v, ↓asg_n, ↓asg_sl, ↓opW, ↓cmpW, ↓eqw_int, ↓eqw_str, ↓eqw_tup, ↓eqw_lst, ↓ordW, ↓truW, ↓noOw, ↓ixW, ↓biW, ↓tgW, ↓tgsW, ↓opwW, ↓itW, ↓wipe_nil, ↓wipe_cons, ↓unwipe, ↓isOw, true_and, Bool.and_true, Bool.not_true, Bool.not_false, Bool.false_eq_true, ↓reduceIte, ↓blk_ap, ↓forF, ↓d15_1, pD]
              by_cases q : m < x.2
              · rw [if_pos (decide_eq_true q)]
                rw [if_pos q] at h
                exact h
              · rw [if_neg (by rw [decide_eq_true_eq]; exact q)]
                exact hk _ ⟨⟨_, _, _, rfl⟩, fun _ => q, by omega⟩
            | 1, hv =>
              cases hv
              simp -implicitDefEqProofs only [↓s_cs, ↓nx_ap, ↓s_nil, ↓s_set, ↓s_par, ↓s_unp, ↓s_ret, ↓s_retN, ↓s_drop, ↓s_if, ↓s_whl, ↓s_for, ↓s_app, ↓s_ext, ↓s_put, ↓s_ja, ↓s_ji, ↓s_js, ↓s_jl, ↓s_rais, ↓s_pass, ↓s_brk, ↓s_cont, ↓s_tri, ↓hd_nil, ↓hd_cons, ↓un_s, ↓un_n, ↓hu_ret, ↓hu_ifr, ↓hx_b, ↓hx_s, ↓hx_i, ↓hx_n, ↓hx_fld, ↓hx_isA, ↓hx_nt, ↓hx_and, ↓hx_ite, ↓hx_lst, ↓hx_tup, ↓hxs_nil, ↓hxs_cons, ↓ra_none, ↓ra_some, ↓x_calldB, ↓x_lw, ↓x_dct0, ↓x_v, ↓x_i, ↓x_b, ↓x_n, ↓x_st, ↓x_g, ↓x_tup, ↓x_lst, ↓x_bin, ↓x_neg, ↓x_nt, ↓x_cmp, ↓x_chain, ↓x_isN, ↓x_notN, ↓x_and, ↓x_or, ↓x_ite, ↓x_ix, ↓x_cut, ↓x_rev, ↓x_stp, ↓x_callB, ↓x_callkB, ↓x_bi, ↓x_comp, ↓x_pop, ↓x_popA, ↓x_jg, ↓x_jn, ↓x_jp, ↓x_scut, ↓x_slen, ↓srcK, ↓srcL, ↓t_yes, ↓t_and', ↓t_or', ↓t_nt', ↓t_ex, ↓e_nil, ↓e_cons, ↓a_nil', ↓a_cons', ↓rs_nil, ↓rs_cons, ↓frzS_v, ↓frzS_n, ↓asgs_nil, ↓asgs_cons, ↓rd_z, ↓rd_s, ↓set_z, ↓set_s, ↓at_mk, ↓isJar_j, ↓der_v, ↓der_n, ↓der_sl, ↓frz_v, ↓frz_n, ↓frz_sl, ↓asg_v, ↓asg_n, ↓asg_sl, ↓opW, ↓cmpW, ↓eqw_int, ↓eqw_str, ↓eqw_tup, ↓eqw_lst, ↓ordW, ↓truW, ↓noOw, ↓ixW, ↓biW, ↓tgW, ↓tgsW, ↓opwW, ↓itW, ↓wipe_nil, ↓wipe_cons, ↓unwipe, ↓isOw, true_and, Bool.and_true, Bool.not_true, Bool.not_false, Bool.false_eq_true, ↓reduceIte, ↓blk_ap, ↓forF, ↓d15_1, pD]
              have z1 := z1 (by decide)
              rw [if_neg z1] at h
              by_cases q : m < y.2
              · rw [if_pos (decide_eq_true q)]
                rw [if_pos q] at h
                exact h
              · rw [if_neg (by rw [decide_eq_true_eq]; exact q)]
                exact hk _ ⟨⟨_, _, _, rfl⟩, fun _ => z1, fun _ => q⟩
            | i + 2, hv => simp at hv
          · rintro r ⟨⟨s4, s5, s6, rfl⟩, z1, z2⟩
            have el : (enumD [pD x, pD y]).length = 2 := rfl
            rw [el] at z1 z2
            have z1 := z1 (by decide)
            have z2 := z2 (by decide)
            rw [if_neg z1, if_neg z2] at h
            try simp -implicitDefEqProofs only [↓s_cs, ↓nx_ap, ↓s_nil, ↓s_set, ↓s_par, ↓s_unp, ↓s_ret, ↓s_retN, ↓s_drop, ↓s_if, ↓s_whl, ↓s_for, ↓s_app, ↓s_ext, ↓s_put, ↓s_ja, ↓s_ji, ↓s_js, ↓s_jl, ↓s_rais, ↓s_pass, ↓s_brk, ↓s_cont, ↓s_tri, ↓hd_nil, ↓hd_cons, ↓un_s, ↓un_n, ↓hu_ret, ↓hu_ifr, ↓hx_b, ↓hx_s, ↓hx_i, ↓hx_n, ↓hx_fld, ↓hx_isA, ↓hx_nt, ↓hx_and, ↓hx_ite, ↓hx_lst, ↓hx_tup, ↓hxs_nil, ↓hxs_cons, ↓ra_none, ↓ra_some, ↓x_calldB, ↓x_lw, ↓x_dct0, ↓x_v, ↓x_i, ↓x_b, ↓x_n, ↓x_st, ↓x_g, ↓x_tup, ↓x_lst, ↓x_bin, ↓x_neg, ↓x_nt, ↓x_cmp, ↓x_chain, ↓x_isN, ↓x_notN, ↓x_and, ↓x_or, ↓x_ite, ↓x_ix, ↓x_cut, ↓x_rev, ↓x_stp, ↓x_callB, ↓x_callkB, ↓x_bi, ↓x_comp, ↓x_pop, ↓x_popA, ↓x_jg, ↓x_jn, ↓x_jp, ↓x_scut, ↓x_slen, ↓srcK, ↓srcL, ↓t_yes, ↓t_and', ↓t_or', ↓t_nt', ↓t_ex, ↓e_nil, ↓e_cons, ↓a_nil', ↓a_cons', ↓rs_nil, ↓rs_cons, ↓frzS_v, ↓frzS_n, ↓asgs_nil, ↓asgs_cons, ↓rd_z, ↓rd_s, ↓set_z, ↓set_s, ↓at_mk, ↓isJar_j, ↓der_v, ↓der_n, ↓der_sl, ↓frz_v, ↓frz_n, ↓frz_sl, ↓asg_v, ↓asg_n, ↓asg_sl, ↓opW, ↓cmpW, ↓eqw_int, ↓eqw_str, ↓eqw_tup, ↓eqw_lst, ↓ordW, ↓truW, ↓noOw, ↓ixW, ↓biW, ↓tgW, ↓tgsW, ↓opwW, ↓itW, ↓wipe_nil, ↓wipe_cons, ↓unwipe, ↓isOw, true_and, Bool.and_true, Bool.not_true, Bool.not_false, Bool.false_eq_true, ↓reduceIte, ↓blk_ap, q0, q1, pD]
            refine ⟨mulB x1 u7, mulB o7 x2, ?_⟩
            by_cases c1 : o * x.2 < x.1 * u
            · rw [if_pos (decide_eq_true c1)]
              rw [if_pos (.inl c1)] at h
              exact h
            rw [if_neg (by rw [decide_eq_true_eq]; exact c1)]
            refine ⟨mulB y1 u7, mulB o7 y2, ?_⟩
            by_cases c2 : y.1 * u < o * y.2
            · rw [if_pos (decide_eq_true c2)]
              rw [if_pos (.inr c2)] at h
              exact h
            rw [if_neg (by rw [decide_eq_true_eq]; exact c2)]
            rw [if_neg (by rintro (z | z); exact c1 z; exact c2 z)] at h
            refine p_near (n := n) a fun L' H' nr' => ?_
            obtain ⟨rfl, rfl⟩ := near_unique a.u0 nr nr'
            have ew : ∀ {Q : Bool → Prop}, eqW (.tuple [.tuple [.int x.1, .int x.2], .tuple [.int y.1, .int y.2]]) (ppD L' H') Q = (shaped (ppD x y) ∧ shaped (ppD L' H') ∧ Q (PyData.eqv (ppD x y) (ppD L' H'))) := fun {Q} => rfl
            try simp -implicitDefEqProofs only [↓s_cs, ↓nx_ap, ↓s_nil, ↓s_set, ↓s_par, ↓s_unp, ↓s_ret, ↓s_retN, ↓s_drop, ↓s_if, ↓s_whl, ↓s_for, ↓s_app, ↓s_ext, ↓s_put, ↓s_ja, ↓s_ji, ↓s_js, ↓s_jl, ↓s_rais, ↓s_pass, ↓s_brk, ↓s_cont, ↓s_tri, ↓hd_nil, ↓hd_cons, ↓un_s, ↓un_n, ↓hu_ret, ↓hu_ifr, ↓hx_b, ↓hx_s, ↓hx_i, ↓hx_n, ↓hx_fld, ↓hx_isA, ↓hx_nt, ↓hx_and, ↓hx_ite, ↓hx_lst, ↓hx_tup, ↓hxs_nil, ↓hxs_cons, ↓ra_none, ↓ra_some, ↓x_calldB, ↓x_lw, ↓x_dct0, ↓x_v, ↓x_i, ↓x_b, ↓x_n, ↓x_st, ↓x_g, ↓x_tup, ↓x_lst, ↓x_bin, ↓x_neg, ↓x_nt, ↓x_cmp, ↓x_chain, ↓x_isN, ↓x_notN, ↓x_and, ↓x_or, ↓x_ite, ↓x_ix, ↓x_cut, ↓x_rev, ↓x_stp, ↓x_callB, ↓x_callkB, ↓x_bi, ↓x_comp, ↓x_pop, ↓x_popA, ↓x_jg, ↓x_jn, ↓x_jp, ↓x_scut, ↓x_slen, ↓srcK, ↓srcL, ↓t_yes, ↓t_and', ↓t_or', ↓t_nt', ↓t_ex, ↓e_nil, ↓e_cons, ↓a_nil', ↓a_cons', ↓rs_nil, ↓rs_cons, ↓frzS_v, ↓frzS_n, ↓asgs_nil, ↓asgs_cons, ↓rd_z, ↓rd_s, ↓set_z, ↓set_s, ↓at_mk, ↓isJar_j, ↓der_v, ↓der_n, ↓der_sl, ↓frz_v, ↓frz_n, ↓frz_sl, ↓asg_v, ↓asg_n, ↓asg_sl, ↓opW, ↓cmpW, ↓eqw_int, ↓eqw_str, ↓eqw_tup, ↓eqw_lst, ↓ordW, ↓truW, ↓noOw, ↓ixW, ↓biW, ↓tgW, ↓tgsW, ↓opwW, ↓itW, ↓wipe_nil, ↓wipe_cons, ↓unwipe, ↓isOw, true_and, Bool.and_true, Bool.not_true, Bool.not_false, Bool.false_eq_true, ↓reduceIte, ↓blk_ap, ew]
            refine ⟨shaped_pp, shaped_pp, ?_⟩
            rw [show (PyData.tuple [.tuple [.int x.1, .int x.2], .tuple [.int y.1, .int y.2]]).eqv (ppD L' H') = decide (x = L' ∧ y = H') from eqv_pp]
            by_cases c3 : x = L' ∧ y = H'
            · rw [if_pos (decide_eq_true c3)]
              rw [if_pos c3] at h
              exact h
            · rw [if_neg (by rw [decide_eq_true_eq]; exact c3)]
              rw [if_neg c3] at h
              exact h
        · have : ([isFrac x, isFrac y].all id) = false := by
            cases ha : isFrac x with
            | false => rfl
            | true =>
              cases hb : isFrac y with
              | false => rfl
              | true => exact absurd ⟨ha, hb⟩ q
          rw [this, if_pos (by decide)]
          exact h
    · rw [if_pos (by rw [decide_eq_false (show ¬ (ds.length : Int) = 2 by omega)]; rfl)]
      exact h _ (form_len l2)
  | _ => exact h _ (nof _ fun x y e => by cases e)
end G19

-- BLK
set_option linter.all false
set_option maxRecDepth 100000
set_option exponentiation.threshold 200000
namespace G19
open PySem PySem.Spec PyProof.Rows L2 G
theorem flt_det {o u m : Int} {L H : P2} {d e e' : D} (h : Flt o u m L H d e) (h' : Flt o u m L H d e') : e' = e := by
  have inj : ∀ {x y x' y' : P2}, ppD x y = ppD x' y' → x = x' ∧ y = y' := fun {x y x' y'} e => by
    unfold ppD pD at e
    simp only [PyData.tuple.injEq, List.cons.injEq, PyData.int.injEq, and_true] at e
    exact ⟨Prod.ext e.1.1 e.1.2, Prod.ext e.2.1 e.2.2⟩
  generalize hd : d = dd at h
  cases h with
  | pair x y f1 f2 =>
    cases h' with
    | pair x' y' _ _ =>
      obtain ⟨rfl, rfl⟩ := inj hd
      rfl
    | form d hn => exact absurd ⟨f1, f2⟩ (hn x y hd)
  | form d hn =>
    subst hd
    cases h' with
    | pair x' y' f1 f2 => exact absurd ⟨f1, f2⟩ (hn x' y' rfl)
    | form d hn => rfl
theorem frac_pD {x : P2} (h1 : 0 < x.2) (h2 : Int.gcd x.1 x.2 = 1) : isFrac (pD x) = true := by
  show (decide (0 < x.2) && decide (Int.gcd x.1 x.2 = 1)) = true
  rw [decide_eq_true h1, decide_eq_true h2]
  rfl
theorem near_frac {o u m : Int} {L H : P2} (a : Ask o u m) (h : Near o u m L H) : isFrac (pD L) = true ∧ isFrac (pD H) = true := by
  unfold Near at h
  split at h
  · obtain ⟨rfl, rfl⟩ := h
    exact ⟨frac_pD a.u0 a.cop, frac_pD a.u0 a.cop⟩
  · obtain ⟨M, _⟩ := h
    exact ⟨frac_pD (by have := M.l1; omega) M.gl, frac_pD (by have := M.h1; omega) M.gh⟩
theorem near_bd {o u m : Int} {L H : P2} (a : Ask o u m) (h : Near o u m L H) : L.1.natAbs ≤ 10 ^ 125 ∧ H.1.natAbs ≤ 10 ^ 125 ∧ L.2.natAbs ≤ 10 ^ 41 ∧ H.2.natAbs ≤ 10 ^ 41 := by
  unfold Near at h
  split at h
  · obtain ⟨rfl, rfl⟩ := h
    have := a.oB
    have := a.u1
    have := a.u0
    exact ⟨by omega, by omega, by omega, by omega⟩
  · obtain ⟨M, _⟩ := h
    obtain ⟨b1, b2, b3, b4⟩ := M.bd a.oB a.m1 a.u0
    exact ⟨b1, b2, by omega, by omega⟩
theorem pD_vs {x : P2} (h : x.1.natAbs < 10 ^ 190 ∧ x.2.natAbs < 10 ^ 190) : VS 1 410 (pD x) := by
  have big : (10 : Nat) ^ 190 < 10 ^ 200 := by decide +kernel
  refine (vs_tup (dp := 0) (m := 201) (c := 2) (fun d hd => ?_) (Nat.le_refl _)).mono (Nat.le_refl _) (by decide)
  simp only [List.mem_cons, List.not_mem_nil, or_false] at hd
  rcases hd with rfl | rfl
  · exact vs_int (by omega) (by decide)
  · exact vs_int (by omega) (by decide)
theorem ppD_vs {x y : P2} (h : x.1.natAbs < 10 ^ 190 ∧ x.2.natAbs < 10 ^ 190) (h2 : y.1.natAbs < 10 ^ 190 ∧ y.2.natAbs < 10 ^ 190) : VS 2 900 (ppD x y) := by
  refine (vs_tup (dp := 1) (m := 410) (c := 2) (fun d hd => ?_) (Nat.le_refl _)).mono (Nat.le_refl _) (by decide)
  simp only [List.mem_cons, List.not_mem_nil, or_false] at hd
  rcases hd with rfl | rfl
  · exact pD_vs h
  · exact pD_vs h2
theorem near_vs {o u m : Int} {L H : P2} (a : Ask o u m) (h : Near o u m L H) : VS 2 900 (ppD L H) := by
  obtain ⟨b1, b2, b3, b4⟩ := near_bd a h
  have big : (10 : Nat) ^ 125 < 10 ^ 190 := by decide +kernel
  have big2 : (10 : Nat) ^ 41 < 10 ^ 190 := by decide +kernel
  exact ppD_vs ⟨by omega, by omega⟩ ⟨by omega, by omega⟩
theorem s900 : 900 ≤ SZ := by decide
theorem p_pair {n : Nat} {g : Gh} {o u m : Int} {L H : P2} {K : D → Gh → Prop} {X : Exn → Gh → Prop} (a : Ask o u m) (h : Near o u m L H) (hk : K (.bool true) g) : callW T (n + 3) 9 [.int o, .int u, .int m, ppD L H] g K X := by
  refine call_df (np := 4) (ns := 8) (b := d9.b) rfl rfl ?_
  have e0 : startE 8 [.int o, .int u, .int m, ppD L H] g = ⟨[.fz (.int o), .fz (.int u), .fz (.int m), .fz (.tuple [pD L, pD H]), .un, .un, .un, .un], g⟩ := rfl
  rw [e0]
  obtain ⟨f1, f2⟩ := near_frac a h
  obtain ⟨b1, b2_, b3, b4⟩ := near_bd a h
  have vs := near_vs a h
  have nd := nd_mem (ds := [pD L, pD H]) rfl
  have sh := sh_mem vs.s
  have o7 : o.natAbs < 2 ^ 700 := Nat.lt_of_le_of_lt a.oB (by decide +kernel)
  have u7 : u.natAbs < 2 ^ 700 := Nat.lt_of_le_of_lt (show u.natAbs ≤ 10 ^ 41 by have := a.u1; have := a.u0; omega) (by decide +kernel)
  have L1 := b2 b1
  have H1 := b2 b2_
  have L2 : L.2.natAbs < 2 ^ 700 := Nat.lt_of_le_of_lt b3 (by decide +kernel)
  have H2 : H.2.natAbs < 2 ^ 700 := Nat.lt_of_le_of_lt b4 (by decide +kernel)
  have t1 : isD .isTuple (.tuple [pD L, pD H]) = true := rfl
  have l2 : decide ((([pD L, pD H] : List D).length : Int) = 2) = true := rfl
  simp -implicitDefEqProofs only [↓s_cs, ↓nx_ap, ↓s_nil, ↓s_set, ↓s_par, ↓s_unp, ↓s_ret, ↓s_retN, ↓s_drop, ↓s_if, ↓s_whl, ↓s_for, ↓s_app, ↓s_ext, ↓s_put, ↓s_ja, ↓s_ji, ↓s_js, ↓s_jl, ↓s_rais, ↓s_pass, ↓s_brk, ↓s_cont, ↓s_tri, ↓hd_nil, ↓hd_cons, ↓un_s, ↓un_n, ↓hu_ret, ↓hu_ifr, ↓hx_b, ↓hx_s, ↓hx_i, ↓hx_n, ↓hx_fld, ↓hx_isA, ↓hx_nt, ↓hx_and, ↓hx_ite, ↓hx_lst, ↓hx_tup, ↓hxs_nil, ↓hxs_cons, ↓ra_none, ↓ra_some, ↓x_calldB, ↓x_lw, ↓x_dct0, ↓x_v, ↓x_i, ↓x_b, ↓x_n, ↓x_st, ↓x_g, ↓x_tup, ↓x_lst, ↓x_bin, ↓x_neg, ↓x_nt, ↓x_cmp, ↓x_chain, ↓x_isN, ↓x_notN, ↓x_and, ↓x_or, ↓x_ite, ↓x_ix, ↓x_cut, ↓x_rev, ↓x_stp, ↓x_callB, ↓x_callkB, ↓x_bi, ↓x_comp, ↓x_pop, ↓x_popA, ↓x_jg, ↓x_jn, ↓x_jp, ↓x_scut, ↓x_slen, ↓srcK, ↓srcL, ↓t_yes, ↓t_and', ↓t_or', ↓t_nt', ↓t_ex, ↓e_nil, ↓e_cons, ↓a_nil', ↓a_cons', ↓rs_nil, ↓rs_cons, ↓frzS_v, ↓frzS_n, ↓asgs_nil, ↓asgs_cons, ↓rd_z, ↓rd_s, ↓set_z, ↓set_s, ↓at_mk, ↓isJar_j, ↓der_v, ↓der_n, ↓der_sl, ↓frz_v, ↓frz_n, ↓frz_sl, ↓asg_v, ↓asg_n, ↓asg_sl, ↓opW, ↓cmpW, ↓eqw_int, ↓eqw_str, ↓eqw_tup, ↓eqw_lst, ↓ordW, ↓truW, ↓noOw, ↓ixW, ↓biW, ↓tgW, ↓tgsW, ↓opwW, ↓itW, ↓wipe_nil, ↓wipe_cons, ↓unwipe, ↓isOw, true_and, Bool.and_true, Bool.not_true, Bool.not_false, Bool.false_eq_true, ↓reduceIte, ↓blk_ap, ↓d9, ↓bi_isT]
  refine ⟨.inl vs.v.nd, ?_⟩
  rw [t1, if_neg (by decide)]
  try simp -implicitDefEqProofs only [↓s_cs, ↓nx_ap, ↓s_nil, ↓s_set, ↓s_par, ↓s_unp, ↓s_ret, ↓s_retN, ↓s_drop, ↓s_if, ↓s_whl, ↓s_for, ↓s_app, ↓s_ext, ↓s_put, ↓s_ja, ↓s_ji, ↓s_js, ↓s_jl, ↓s_rais, ↓s_pass, ↓s_brk, ↓s_cont, ↓s_tri, ↓hd_nil, ↓hd_cons, ↓un_s, ↓un_n, ↓hu_ret, ↓hu_ifr, ↓hx_b, ↓hx_s, ↓hx_i, ↓hx_n, ↓hx_fld, ↓hx_isA, ↓hx_nt, ↓hx_and, ↓hx_ite, ↓hx_lst, ↓hx_tup, ↓hxs_nil, ↓hxs_cons, ↓ra_none, ↓ra_some, ↓x_calldB, ↓x_lw, ↓x_dct0, ↓x_v, ↓x_i, ↓x_b, ↓x_n, ↓x_st, ↓x_g, ↓x_tup, ↓x_lst, ↓x_bin, ↓x_neg, ↓x_nt, ↓x_cmp, ↓x_chain, ↓x_isN, ↓x_notN, ↓x_and, ↓x_or, ↓x_ite, ↓x_ix, ↓x_cut, ↓x_rev, ↓x_stp, ↓x_callB, ↓x_callkB, ↓x_bi, ↓x_comp, ↓x_pop, ↓x_popA, ↓x_jg, ↓x_jn, ↓x_jp, ↓x_scut, ↓x_slen, ↓srcK, ↓srcL, ↓t_yes, ↓t_and', ↓t_or', ↓t_nt', ↓t_ex, ↓e_nil, ↓e_cons, ↓a_nil', ↓a_cons', ↓rs_nil, ↓rs_cons, ↓frzS_v, ↓frzS_n, ↓asgs_nil, ↓asgs_cons, ↓rd_z, ↓rd_s, ↓set_z, ↓set_s, ↓at_mk, ↓isJar_j, ↓der_v, ↓der_n, ↓der_sl, ↓frz_v, ↓frz_n, ↓frz_sl, ↓asg_v, ↓asg_n, ↓asg_sl, ↓opW, ↓cmpW, ↓eqw_int, ↓eqw_str, ↓eqw_tup, ↓eqw_lst, ↓ordW, ↓truW, ↓noOw, ↓ixW, ↓biW, ↓tgW, ↓tgsW, ↓opwW, ↓itW, ↓wipe_nil, ↓wipe_cons, ↓unwipe, ↓isOw, true_and, Bool.and_true, Bool.not_true, Bool.not_false, Bool.false_eq_true, ↓reduceIte, ↓blk_ap]
  rw [l2, if_neg (by decide)]
  try simp -implicitDefEqProofs only [↓s_cs, ↓nx_ap, ↓s_nil, ↓s_set, ↓s_par, ↓s_unp, ↓s_ret, ↓s_retN, ↓s_drop, ↓s_if, ↓s_whl, ↓s_for, ↓s_app, ↓s_ext, ↓s_put, ↓s_ja, ↓s_ji, ↓s_js, ↓s_jl, ↓s_rais, ↓s_pass, ↓s_brk, ↓s_cont, ↓s_tri, ↓hd_nil, ↓hd_cons, ↓un_s, ↓un_n, ↓hu_ret, ↓hu_ifr, ↓hx_b, ↓hx_s, ↓hx_i, ↓hx_n, ↓hx_fld, ↓hx_isA, ↓hx_nt, ↓hx_and, ↓hx_ite, ↓hx_lst, ↓hx_tup, ↓hxs_nil, ↓hxs_cons, ↓ra_none, ↓ra_some, ↓x_calldB, ↓x_lw, ↓x_dct0, ↓x_v, ↓x_i, ↓x_b, ↓x_n, ↓x_st, ↓x_g, ↓x_tup, ↓x_lst, ↓x_bin, ↓x_neg, ↓x_nt, ↓x_cmp, ↓x_chain, ↓x_isN, ↓x_notN, ↓x_and, ↓x_or, ↓x_ite, ↓x_ix, ↓x_cut, ↓x_rev, ↓x_stp, ↓x_callB, ↓x_callkB, ↓x_bi, ↓x_comp, ↓x_pop, ↓x_popA, ↓x_jg, ↓x_jn, ↓x_jp, ↓x_scut, ↓x_slen, ↓srcK, ↓srcL, ↓t_yes, ↓t_and', ↓t_or', ↓t_nt', ↓t_ex, ↓e_nil, ↓e_cons, ↓a_nil', ↓a_cons', ↓rs_nil, ↓rs_cons, ↓frzS_v, ↓frzS_n, ↓asgs_nil, ↓asgs_cons, ↓rd_z, ↓rd_s, ↓set_z, ↓set_s, ↓at_mk, ↓isJar_j, ↓der_v, ↓der_n, ↓der_sl, ↓frz_v, ↓frz_n, ↓frz_sl, ↓asg_v, ↓asg_n, ↓asg_sl, ↓opW, ↓cmpW, ↓eqw_int, ↓eqw_str, ↓eqw_tup, ↓eqw_lst, ↓ordW, ↓truW, ↓noOw, ↓ixW, ↓biW, ↓tgW, ↓tgsW, ↓opwW, ↓itW, ↓wipe_nil, ↓wipe_cons, ↓unwipe, ↓isOw, true_and, Bool.and_true, Bool.not_true, Bool.not_false, Bool.false_eq_true, ↓reduceIte, ↓blk_ap, q0, q1]
  refine p_lfrac (n := n) (nd _ (by simp)) ((sh _ (by simp)).mono (by decide)) ?_
  try simp -implicitDefEqProofs only [↓s_cs, ↓nx_ap, ↓s_nil, ↓s_set, ↓s_par, ↓s_unp, ↓s_ret, ↓s_retN, ↓s_drop, ↓s_if, ↓s_whl, ↓s_for, ↓s_app, ↓s_ext, ↓s_put, ↓s_ja, ↓s_ji, ↓s_js, ↓s_jl, ↓s_rais, ↓s_pass, ↓s_brk, ↓s_cont, ↓s_tri, ↓hd_nil, ↓hd_cons, ↓un_s, ↓un_n, ↓hu_ret, ↓hu_ifr, ↓hx_b, ↓hx_s, ↓hx_i, ↓hx_n, ↓hx_fld, ↓hx_isA, ↓hx_nt, ↓hx_and, ↓hx_ite, ↓hx_lst, ↓hx_tup, ↓hxs_nil, ↓hxs_cons, ↓ra_none, ↓ra_some, ↓x_calldB, ↓x_lw, ↓x_dct0, ↓x_v, ↓x_i, ↓x_b, ↓x_n, ↓x_st, ↓x_g, ↓x_tup, ↓x_lst, ↓x_bin, ↓x_neg, ↓x_nt, ↓x_cmp, ↓x_chain, ↓x_isN, ↓x_notN, ↓x_and, ↓x_or, ↓x_ite, ↓x_ix, ↓x_cut, ↓x_rev, ↓x_stp, ↓x_callB, ↓x_callkB, ↓x_bi, ↓x_comp, ↓x_pop, ↓x_popA, ↓x_jg, ↓x_jn, ↓x_jp, ↓x_scut, ↓x_slen, ↓srcK, ↓srcL, ↓t_yes, ↓t_and', ↓t_or', ↓t_nt', ↓t_ex, ↓e_nil, ↓e_cons, ↓a_nil', ↓a_cons', ↓rs_nil, ↓rs_cons, ↓frzS_v, ↓frzS_n, ↓asgs_nil, ↓asgs_cons, ↓rd_z, ↓rd_s, ↓set_z, ↓set_s, ↓at_mk, ↓isJar_j, ↓der_v, ↓der_n, ↓der_sl, ↓frz_v, ↓frz_n, ↓frz_sl, ↓asg_v, ↓asg_n, ↓asg_sl, ↓opW, ↓cmpW, ↓eqw_int, ↓eqw_str, ↓eqw_tup, ↓eqw_lst, ↓ordW, ↓truW, ↓noOw, ↓ixW, ↓biW, ↓tgW, ↓tgsW, ↓opwW, ↓itW, ↓wipe_nil, ↓wipe_cons, ↓unwipe, ↓isOw, true_and, Bool.and_true, Bool.not_true, Bool.not_false, Bool.false_eq_true, ↓reduceIte, ↓blk_ap]
  rw [f1, if_neg (by decide)]
  refine p_lfrac (n := n) (nd _ (by simp)) ((sh _ (by simp)).mono (by decide)) ?_
  try simp -implicitDefEqProofs only [↓s_cs, ↓nx_ap, ↓s_nil, ↓s_set, ↓s_par, ↓s_unp, ↓s_ret, ↓s_retN, ↓s_drop, ↓s_if, ↓s_whl, ↓s_for, ↓s_app, ↓s_ext, ↓s_put, ↓s_ja, ↓s_ji, ↓s_js, ↓s_jl, ↓s_rais, ↓s_pass, ↓s_brk, ↓s_cont, ↓s_tri, ↓hd_nil, ↓hd_cons, ↓un_s, ↓un_n, ↓hu_ret, ↓hu_ifr, ↓hx_b, ↓hx_s, ↓hx_i, ↓hx_n, ↓hx_fld, ↓hx_isA, ↓hx_nt, ↓hx_and, ↓hx_ite, ↓hx_lst, ↓hx_tup, ↓hxs_nil, ↓hxs_cons, ↓ra_none, ↓ra_some, ↓x_calldB, ↓x_lw, ↓x_dct0, ↓x_v, ↓x_i, ↓x_b, ↓x_n, ↓x_st, ↓x_g, ↓x_tup, ↓x_lst, ↓x_bin, ↓x_neg, ↓x_nt, ↓x_cmp, ↓x_chain, ↓x_isN, ↓x_notN, ↓x_and, ↓x_or, ↓x_ite, ↓x_ix, ↓x_cut, ↓x_rev, ↓x_stp, ↓x_callB, ↓x_callkB, ↓x_bi, ↓x_comp, ↓x_pop, ↓x_popA, ↓x_jg, ↓x_jn, ↓x_jp, ↓x_scut, ↓x_slen, ↓srcK, ↓srcL, ↓t_yes, ↓t_and', ↓t_or', ↓t_nt', ↓t_ex, ↓e_nil, ↓e_cons, ↓a_nil', ↓a_cons', ↓rs_nil, ↓rs_cons, ↓frzS_v, ↓frzS_n, ↓asgs_nil, ↓asgs_cons, ↓rd_z, ↓rd_s, ↓set_z, ↓set_s, ↓at_mk, ↓isJar_j, ↓der_v, ↓der_n, ↓der_sl, ↓frz_v, ↓frz_n, ↓frz_sl, ↓asg_v, ↓asg_n, ↓asg_sl, ↓opW, ↓cmpW, ↓eqw_int, ↓eqw_str, ↓eqw_tup, ↓eqw_lst, ↓ordW, ↓truW, ↓noOw, ↓ixW, ↓biW, ↓tgW, ↓tgsW, ↓opwW, ↓itW, ↓wipe_nil, ↓wipe_cons, ↓unwipe, ↓isOw, true_and, Bool.and_true, Bool.not_true, Bool.not_false, Bool.false_eq_true, ↓reduceIte, ↓blk_ap]
  rw [f2, if_neg (by decide)]
  unfold Near at h
  by_cases q : u ≤ m
  · rw [if_pos (decide_eq_true q)]
    rw [if_pos q] at h
    obtain ⟨rfl, rfl⟩ := h
    exact p_same (n := n + 1) vs.v (by decide) s900 hk
  rw [if_neg (by rw [decide_eq_true_eq]; exact q)]
  rw [if_neg q] at h
  obtain ⟨M, nn⟩ := h
  have l2 := M.l2
  have h2 := M.h2
  have lo := M.lo
  have hi := M.hi
  have dd := M.det
  try simp -implicitDefEqProofs only [↓s_cs, ↓nx_ap, ↓s_nil, ↓s_set, ↓s_par, ↓s_unp, ↓s_ret, ↓s_retN, ↓s_drop, ↓s_if, ↓s_whl, ↓s_for, ↓s_app, ↓s_ext, ↓s_put, ↓s_ja, ↓s_ji, ↓s_js, ↓s_jl, ↓s_rais, ↓s_pass, ↓s_brk, ↓s_cont, ↓s_tri, ↓hd_nil, ↓hd_cons, ↓un_s, ↓un_n, ↓hu_ret, ↓hu_ifr, ↓hx_b, ↓hx_s, ↓hx_i, ↓hx_n, ↓hx_fld, ↓hx_isA, ↓hx_nt, ↓hx_and, ↓hx_ite, ↓hx_lst, ↓hx_tup, ↓hxs_nil, ↓hxs_cons, ↓ra_none, ↓ra_some, ↓x_calldB, ↓x_lw, ↓x_dct0, ↓x_v, ↓x_i, ↓x_b, ↓x_n, ↓x_st, ↓x_g, ↓x_tup, ↓x_lst, ↓x_bin, ↓x_neg, ↓x_nt, ↓x_cmp, ↓x_chain, ↓x_isN, ↓x_notN, ↓x_and, ↓x_or, ↓x_ite, ↓x_ix, ↓x_cut, ↓x_rev, ↓x_stp, ↓x_callB, ↓x_callkB, ↓x_bi, ↓x_comp, ↓x_pop, ↓x_popA, ↓x_jg, ↓x_jn, ↓x_jp, ↓x_scut, ↓x_slen, ↓srcK, ↓srcL, ↓t_yes, ↓t_and', ↓t_or', ↓t_nt', ↓t_ex, ↓e_nil, ↓e_cons, ↓a_nil', ↓a_cons', ↓rs_nil, ↓rs_cons, ↓frzS_v, ↓frzS_n, ↓asgs_nil, ↓asgs_cons, ↓rd_z, ↓rd_s, ↓set_z, ↓set_s, ↓at_mk, ↓isJar_j, ↓der_v, ↓der_n, ↓der_sl, ↓frz_v, ↓frz_n, ↓frz_sl, ↓asg_v, ↓asg_n, ↓asg_sl, ↓opW, ↓cmpW, ↓eqw_int, ↓eqw_str, ↓eqw_tup, ↓eqw_lst, ↓ordW, ↓truW, ↓noOw, ↓ixW, ↓biW, ↓tgW, ↓tgsW, ↓opwW, ↓itW, ↓wipe_nil, ↓wipe_cons, ↓unwipe, ↓isOw, true_and, Bool.and_true, Bool.not_true, Bool.not_false, Bool.false_eq_true, ↓reduceIte, ↓blk_ap, pD]
  rw [if_neg (by rw [decide_eq_true_eq]; omega)]
  rw [if_neg (by rw [decide_eq_true_eq]; omega)]
  refine p_less (n := n + 1) (u := L) (v := (o, u)) (mulB L1 u7) (mulB o7 L2) ?_
  try simp -implicitDefEqProofs only [↓s_cs, ↓nx_ap, ↓s_nil, ↓s_set, ↓s_par, ↓s_unp, ↓s_ret, ↓s_retN, ↓s_drop, ↓s_if, ↓s_whl, ↓s_for, ↓s_app, ↓s_ext, ↓s_put, ↓s_ja, ↓s_ji, ↓s_js, ↓s_jl, ↓s_rais, ↓s_pass, ↓s_brk, ↓s_cont, ↓s_tri, ↓hd_nil, ↓hd_cons, ↓un_s, ↓un_n, ↓hu_ret, ↓hu_ifr, ↓hx_b, ↓hx_s, ↓hx_i, ↓hx_n, ↓hx_fld, ↓hx_isA, ↓hx_nt, ↓hx_and, ↓hx_ite, ↓hx_lst, ↓hx_tup, ↓hxs_nil, ↓hxs_cons, ↓ra_none, ↓ra_some, ↓x_calldB, ↓x_lw, ↓x_dct0, ↓x_v, ↓x_i, ↓x_b, ↓x_n, ↓x_st, ↓x_g, ↓x_tup, ↓x_lst, ↓x_bin, ↓x_neg, ↓x_nt, ↓x_cmp, ↓x_chain, ↓x_isN, ↓x_notN, ↓x_and, ↓x_or, ↓x_ite, ↓x_ix, ↓x_cut, ↓x_rev, ↓x_stp, ↓x_callB, ↓x_callkB, ↓x_bi, ↓x_comp, ↓x_pop, ↓x_popA, ↓x_jg, ↓x_jn, ↓x_jp, ↓x_scut, ↓x_slen, ↓srcK, ↓srcL, ↓t_yes, ↓t_and', ↓t_or', ↓t_nt', ↓t_ex, ↓e_nil, ↓e_cons, ↓a_nil', ↓a_cons', ↓rs_nil, ↓rs_cons, ↓frzS_v, ↓frzS_n, ↓asgs_nil, ↓asgs_cons, ↓rd_z, ↓rd_s, ↓set_z, ↓set_s, ↓at_mk, ↓isJar_j, ↓der_v, ↓der_n, ↓der_sl, ↓frz_v, ↓frz_n, ↓frz_sl, ↓asg_v, ↓asg_n, ↓asg_sl, ↓opW, ↓cmpW, ↓eqw_int, ↓eqw_str, ↓eqw_tup, ↓eqw_lst, ↓ordW, ↓truW, ↓noOw, ↓ixW, ↓biW, ↓tgW, ↓tgsW, ↓opwW, ↓itW, ↓wipe_nil, ↓wipe_cons, ↓unwipe, ↓isOw, true_and, Bool.and_true, Bool.not_true, Bool.not_false, Bool.false_eq_true, ↓reduceIte, ↓blk_ap]
  rw [decide_eq_true lo, if_neg (by decide)]
  refine p_less (n := n + 1) (u := (o, u)) (v := H) (mulB o7 H2) (mulB H1 u7) ?_
  try simp -implicitDefEqProofs only [↓s_cs, ↓nx_ap, ↓s_nil, ↓s_set, ↓s_par, ↓s_unp, ↓s_ret, ↓s_retN, ↓s_drop, ↓s_if, ↓s_whl, ↓s_for, ↓s_app, ↓s_ext, ↓s_put, ↓s_ja, ↓s_ji, ↓s_js, ↓s_jl, ↓s_rais, ↓s_pass, ↓s_brk, ↓s_cont, ↓s_tri, ↓hd_nil, ↓hd_cons, ↓un_s, ↓un_n, ↓hu_ret, ↓hu_ifr, ↓hx_b, ↓hx_s, ↓hx_i, ↓hx_n, ↓hx_fld, ↓hx_isA, ↓hx_nt, ↓hx_and, ↓hx_ite, ↓hx_lst, ↓hx_tup, ↓hxs_nil, ↓hxs_cons, ↓ra_none, ↓ra_some, ↓x_calldB, ↓x_lw, ↓x_dct0, ↓x_v, ↓x_i, ↓x_b, ↓x_n, ↓x_st, ↓x_g, ↓x_tup, ↓x_lst, ↓x_bin, ↓x_neg, ↓x_nt, ↓x_cmp, ↓x_chain, ↓x_isN, ↓x_notN, ↓x_and, ↓x_or, ↓x_ite, ↓x_ix, ↓x_cut, ↓x_rev, ↓x_stp, ↓x_callB, ↓x_callkB, ↓x_bi, ↓x_comp, ↓x_pop, ↓x_popA, ↓x_jg, ↓x_jn, ↓x_jp, ↓x_scut, ↓x_slen, ↓srcK, ↓srcL, ↓t_yes, ↓t_and', ↓t_or', ↓t_nt', ↓t_ex, ↓e_nil, ↓e_cons, ↓a_nil', ↓a_cons', ↓rs_nil, ↓rs_cons, ↓frzS_v, ↓frzS_n, ↓asgs_nil, ↓asgs_cons, ↓rd_z, ↓rd_s, ↓set_z, ↓set_s, ↓at_mk, ↓isJar_j, ↓der_v, ↓der_n, ↓der_sl, ↓frz_v, ↓frz_n, ↓frz_sl, ↓asg_v, ↓asg_n, ↓asg_sl, ↓opW, ↓cmpW, ↓eqw_int, ↓eqw_str, ↓eqw_tup, ↓eqw_lst, ↓ordW, ↓truW, ↓noOw, ↓ixW, ↓biW, ↓tgW, ↓tgsW, ↓opwW, ↓itW, ↓wipe_nil, ↓wipe_cons, ↓unwipe, ↓isOw, true_and, Bool.and_true, Bool.not_true, Bool.not_false, Bool.false_eq_true, ↓reduceIte, ↓blk_ap]
  rw [decide_eq_true hi, if_neg (by decide)]
  refine ⟨mulB H1 L2, mulB L1 H2, ?_⟩
  rw [if_pos (decide_eq_true dd)]
  rw [decide_eq_true (show m < L.2 + H.2 by omega)]
  exact hk
/-- the best so far -/
structure BestL (o u q : Int) (a : P2) : Prop where
  p1 : 1 ≤ a.2
  p2 : a.2 ≤ q
  le : a.1 * u ≤ o * a.2
  best : ∀ x y, 1 ≤ y → y ≤ q → x * u ≤ o * y → x * a.2 ≤ a.1 * y
structure BestH (o u q : Int) (a : P2) : Prop where
  p1 : 1 ≤ a.2
  p2 : a.2 ≤ q
  ge : o * a.2 ≤ a.1 * u
  best : ∀ x y, 1 ≤ y → y ≤ q → o * y ≤ x * u → a.1 * y ≤ x * a.2
theorem cross_le {a b c d e f : Int} (hb : 0 < b) (hd : 0 < d) (hf : 0 < f) (h1 : a * d ≤ c * b) (h2 : c * f ≤ e * d) : a * f ≤ e * b := by
  have x1 := Int.mul_le_mul_of_nonneg_right h1 (Int.le_of_lt hf)
  have x2 := Int.mul_le_mul_of_nonneg_right h2 (Int.le_of_lt hb)
  have e1 : a * d * f = a * f * d := by grind
  have e2 : c * b * f = c * f * b := by grind
  have e3 : e * d * b = e * b * d := by grind
  rw [e1, e2] at x1
  rw [e3] at x2
  exact Int.le_of_mul_le_mul_right (Int.le_trans x1 x2) hd
theorem flo {o u q : Int} (hu : 0 < u) : (o * q).fdiv u * u ≤ o * q ∧ ∀ x, x * u ≤ o * q → x ≤ (o * q).fdiv u := by
  have e : (o * q).fdiv u = o * q / u := Int.fdiv_eq_ediv_of_nonneg _ (by omega)
  rw [e]
  exact ⟨Int.ediv_mul_le _ (by omega), fun x hx => (Int.le_ediv_iff_mul_le hu).mpr hx⟩
theorem cei {o u q : Int} (hu : 0 < u) : o * q ≤ (0 - (0 - o * q).fdiv u) * u ∧ ∀ x, o * q ≤ x * u → 0 - (0 - o * q).fdiv u ≤ x := by
  have e : (0 - o * q).fdiv u = (0 - o * q) / u := Int.fdiv_eq_ediv_of_nonneg _ (by omega)
  rw [e]
  have h1 := Int.ediv_mul_le (0 - o * q) (show u ≠ 0 by omega)
  refine ⟨by rw [Int.sub_mul]; omega, fun x hx => ?_⟩
  have := (Int.le_ediv_iff_mul_le (a := -x) (b := 0 - o * q) hu).mpr (by rw [Int.neg_mul]; omega)
  omega
theorem BestL.next {o u q : Int} {a : P2} (hu : 0 < u) (h : BestL o u q a) : BestL o u (q + 1) (if a.1 * (q + 1) < (o * (q + 1)).fdiv u * a.2 then ((o * (q + 1)).fdiv u, q + 1) else a) := by
  obtain ⟨p1, p2, p3, p4⟩ := h
  obtain ⟨f1, f2⟩ := flo (o := o) (u := u) (q := q + 1) hu
  split
  · rename_i c
    refine ⟨by dsimp only; omega, Int.le_refl _, f1, fun x y h1 h2 h3 => ?_⟩
    dsimp only
    by_cases e : y = q + 1
    · subst e
      exact Int.mul_le_mul_of_nonneg_right (f2 x h3) (by omega)
    · exact cross_le (d := a.2) (c := a.1) (by omega) (by omega) (by omega) (p4 x y h1 (by omega) h3) (Int.le_of_lt c)
  · rename_i c
    refine ⟨p1, by omega, p3, fun x y h1 h2 h3 => ?_⟩
    by_cases e : y = q + 1
    · subst e
      have := Int.mul_le_mul_of_nonneg_right (f2 x h3) (show 0 ≤ a.2 by omega)
      omega
    · exact p4 x y h1 (by omega) h3
theorem BestH.next {o u q : Int} {a : P2} (hu : 0 < u) (h : BestH o u q a) : BestH o u (q + 1) (if (0 - (0 - o * (q + 1)).fdiv u) * a.2 < a.1 * (q + 1) then (0 - (0 - o * (q + 1)).fdiv u, q + 1) else a) := by
  obtain ⟨p1, p2, p3, p4⟩ := h
  obtain ⟨f1, f2⟩ := cei (o := o) (u := u) (q := q + 1) hu
  split
  · rename_i c
    refine ⟨by dsimp only; omega, Int.le_refl _, f1, fun x y h1 h2 h3 => ?_⟩
    dsimp only
    by_cases e : y = q + 1
    · subst e
      exact Int.mul_le_mul_of_nonneg_right (f2 x h3) (by omega)
    · exact cross_le (d := a.2) (c := a.1) (by omega) (by omega) (by omega) (Int.le_of_lt c) (p4 x y h1 (by omega) h3)
  · rename_i c
    refine ⟨p1, by omega, p3, fun x y h1 h2 h3 => ?_⟩
    by_cases e : y = q + 1
    · subst e
      have := Int.mul_le_mul_of_nonneg_right (f2 x h3) (show 0 ≤ a.2 by omega)
      omega
    · exact p4 x y h1 (by omega) h3
theorem best_near {o u m : Int} {L H a b : P2} (k : Ask o u m) (h : Near o u m L H) (hl : BestL o u m a) (hh : BestH o u m b) : a.1 * L.2 = L.1 * a.2 ∧ b.1 * H.2 = H.1 * b.2 := by
  have u0 := k.u0
  unfold Near at h
  split at h
  · obtain ⟨rfl, rfl⟩ := h
    rename_i q
    have x1 := hl.best o u (by omega) q (Int.le_refl _)
    have x2 := hl.le
    have y1 := hh.best o u (by omega) q (Int.le_refl _)
    have y2 := hh.ge
    exact ⟨by dsimp only; omega, by dsimp only; omega⟩
  · obtain ⟨M, n⟩ := h
    have x1 := hl.best L.1 L.2 M.l1 M.l2 (Int.le_of_lt M.lo)
    have x2 := M.best_lo n u0 (a := a.1) (b := a.2) (by have := hl.p1; omega) hl.p2 hl.le
    have y1 := hh.best H.1 H.2 M.h1 M.h2 (Int.le_of_lt M.hi)
    have y2 := M.best_hi n u0 (a := b.1) (b := b.2) (by have := hh.p1; omega) hh.p2 hh.ge
    exact ⟨by omega, by omega⟩
end G19

-- BLK
set_option linter.all false
set_option maxRecDepth 100000
set_option exponentiation.threshold 200000
namespace G19
open PySem PySem.Spec PyProof.Rows L2 G
theorem bestL0 {o u : Int} (hu : 0 < u) : BestL o u 1 (o.fdiv u, 1) := by
  obtain ⟨f1, f2⟩ := flo (o := o) (u := u) (q := 1) hu
  rw [Int.mul_one] at f1 f2
  refine ⟨Int.le_refl _, Int.le_refl _, by dsimp only; omega, fun x y h1 h2 h3 => ?_⟩
  obtain rfl : y = 1 := by omega
  have := f2 x (by omega)
  dsimp only
  omega
theorem bestH0 {o u : Int} (hu : 0 < u) : BestH o u 1 (0 - (0 - o).fdiv u, 1) := by
  obtain ⟨f1, f2⟩ := cei (o := o) (u := u) (q := 1) hu
  rw [Int.mul_one] at f1 f2
  refine ⟨Int.le_refl _, Int.le_refl _, by dsimp only; omega, fun x y h1 h2 h3 => ?_⟩
  obtain rfl : y = 1 := by omega
  have := f2 x (by omega)
  dsimp only
  omega
theorem p_nearest {n : Nat} {g : Gh} {o u m : Int} {L H : P2} {K : D → Gh → Prop} {X : Exn → Gh → Prop} (a : Ask o u m) (hm : m ≤ 70) (h : Near o u m L H) (hk : K (ppD L H) g) : callW T (n + 3) 12 [.int o, .int u, .int m] g K X := by
  refine call_df (np := 3) (ns := 8) (b := d12.b) rfl rfl ?_
  have e0 : startE 8 [.int o, .int u, .int m] g = ⟨[.fz (.int o), .fz (.int u), .fz (.int m), .un, .un, .un, .un, .un], g⟩ := rfl
  rw [e0]
  have u0 := a.u0
  have m0 := a.m0
  have dk : DivOk u := divB u0 (Nat.lt_of_le_of_lt (show u.natAbs ≤ 10 ^ 41 by have := a.u1; omega) (by decide +kernel))
  simp -implicitDefEqProofs only [↓s_cs, ↓nx_ap, ↓s_nil, ↓s_set, ↓s_par, ↓s_unp, ↓s_ret, ↓s_retN, ↓s_drop, ↓s_if, ↓s_whl, ↓s_for, ↓s_app, ↓s_ext, ↓s_put, ↓s_ja, ↓s_ji, ↓s_js, ↓s_jl, ↓s_rais, ↓s_pass, ↓s_brk, ↓s_cont, ↓s_tri, ↓hd_nil, ↓hd_cons, ↓un_s, ↓un_n, ↓hu_ret, ↓hu_ifr, ↓hx_b, ↓hx_s, ↓hx_i, ↓hx_n, ↓hx_fld, ↓hx_isA, ↓hx_nt, ↓hx_and, ↓hx_ite, ↓hx_lst, ↓hx_tup, ↓hxs_nil, ↓hxs_cons, ↓ra_none, ↓ra_some, ↓x_calldB, ↓x_lw, ↓x_dct0, ↓x_v, ↓x_i, ↓x_b, ↓x_n, ↓x_st, ↓x_g, ↓x_tup, ↓x_lst, ↓x_bin, ↓x_neg, ↓x_nt, ↓x_cmp, ↓x_chain, ↓x_isN, ↓x_notN, ↓x_and, ↓x_or, ↓x_ite, ↓x_ix, ↓x_cut, ↓x_rev, ↓x_stp, ↓x_callB, ↓x_callkB, ↓x_bi, ↓x_comp, ↓x_pop, ↓x_popA, ↓x_jg, ↓x_jn, ↓x_jp, ↓x_scut, ↓x_slen, ↓srcK, ↓srcL, ↓t_yes, ↓t_and', ↓t_or', ↓t_nt', ↓t_ex, ↓e_nil, ↓e_cons, ↓a_nil', ↓a_cons', ↓rs_nil, ↓rs_cons, ↓frzS_v, ↓frzS_n, ↓asgs_nil, ↓asgs_cons, ↓rd_z, ↓rd_s, ↓set_z, ↓set_s, ↓at_mk, ↓isJar_j, ↓der_v, ↓der_n, ↓der_sl, ↓frz_v, ↓frz_n, ↓frz_sl, ↓asg_v, ↓asg_n, ↓asg_sl, ↓opW, ↓cmpW, ↓eqw_int, ↓eqw_str, ↓eqw_tup, ↓eqw_lst, ↓ordW, ↓truW, ↓noOw, ↓ixW, ↓biW, ↓tgW, ↓tgsW, ↓opwW, ↓itW, ↓wipe_nil, ↓wipe_cons, ↓unwipe, ↓isOw, true_and, Bool.and_true, Bool.not_true, Bool.not_false, Bool.false_eq_true, ↓reduceIte, ↓blk_ap, ↓d12]
  refine ⟨dk, dk, ⟨by decide, by decide, by omega, by omega, by unfold SZ; omega⟩, ?_⟩
  refine for_inv (fun i r => ∃ (s5 s6 s7 : Slot) (x y : P2), r = ⟨[.fz (.int o), .fz (.int u), .fz (.int m), .fz (pD x), .fz (pD y), s5, s6, s7], g⟩ ∧ BestL o u (i + 1) x ∧ BestH o u (i + 1) y) ⟨_, _, _, (o.fdiv u, 1), (0 - (0 - o).fdiv u, 1), rfl, bestL0 u0, bestH0 u0⟩ ?_ ?_
  · rintro i d r hdd ⟨s5, s6, s7, x, y, rfl, bl, bh⟩ kk hk2
    obtain ⟨hi, rfl⟩ := range_get hdd
    have eq : (2 : Int) + (i : Int) = (i : Int) + 1 + 1 := by omega
    rw [eq]
    have nl := bl.next u0
    have nh := bh.next u0
    have q1' := bl.p2
    have q2' := bh.p2
    have q3' := bl.p1
    have q4' := bh.p1
    have hq : (i : Int) + 1 + 1 ≤ 71 := by omega
    have eq2 : ((i + 1 : Nat) : Int) + 1 = (i : Int) + 1 + 1 := by omega
    generalize (i : Int) + 1 + 1 = q at *
    simp -implicitDefEqProofs only [↓s_cs, ↓nx_ap, ↓s_nil, ↓s_set, ↓s_par, ↓s_unp, ↓s_ret, ↓s_retN, ↓s_drop, ↓s_if, ↓s_whl, ↓s_for, ↓s_app, ↓s_ext, ↓s_put, ↓s_ja, ↓s_ji, ↓s_js, ↓s_jl, ↓s_rais, ↓s_pass, ↓s_brk, ↓s_cont, ↓s_tri, ↓hd_nil, ↓hd_cons, ↓un_s, ↓un_n, ↓hu_ret, ↓hu_ifr, ↓hx_b, ↓hx_s, ↓hx_i, ↓hx_n, ↓hx_fld, ↓hx_isA, ↓hx_nt, ↓hx_and, ↓hx_ite, ↓hx_lst, ↓hx_tup, ↓hxs_nil, ↓hxs_cons, ↓ra_none, ↓ra_some, ↓x_calldB, ↓x_lw, ↓x_dct0, ↓x_v, ↓x_i, ↓x_b, ↓x_n, ↓x_st, ↓x_g, ↓x_tup, ↓x_lst, ↓x_bin, ↓x_neg, ↓x_nt, ↓x_cmp, ↓x_chain, ↓x_isN, ↓x_notN, ↓x_and, ↓x_or, ↓x_ite, ↓x_ix, ↓x_cut, ↓x_rev, ↓x_stp, ↓x_callB, ↓x_callkB, ↓x_bi, ↓x_comp, ↓x_pop, ↓x_popA, ↓x_jg, ↓x_jn, ↓x_jp, ↓x_scut, ↓x_slen, ↓srcK, ↓srcL, ↓t_yes, ↓t_and', ↓t_or', ↓t_nt', ↓t_ex, ↓e_nil, ↓e_cons, ↓a_nil', ↓a_cons', ↓rs_nil, ↓rs_cons, ↓frzS_v, ↓frzS_n, ↓asgs_nil, ↓asgs_cons, ↓rd_z, ↓rd_s, ↓set_z, ↓set_s, ↓at_mk, ↓isJar_j, ↓der_v, ↓der_n, ↓der_sl, ↓frz_v, ↓frz_n, ↓frz_sl, ↓asg_v, ↓asg_n, ↓asg_sl, ↓opW, ↓cmpW, ↓eqw_int, ↓eqw_str, ↓eqw_tup, ↓eqw_lst, ↓ordW, ↓truW, ↓noOw, ↓ixW, ↓biW, ↓tgW, ↓tgsW, ↓opwW, ↓itW, ↓wipe_nil, ↓wipe_cons, ↓unwipe, ↓isOw, true_and, Bool.and_true, Bool.not_true, Bool.not_false, Bool.false_eq_true, ↓reduceIte, ↓blk_ap, ↓forF, ↓d12_1]
    refine ⟨mulR ⟨by omega, by omega⟩, dk, mulR ⟨by omega, by omega⟩, dk, ?_⟩
    refine p_less (n := n + 1) (u := x) (v := ((o * q).fdiv u, q)) (mulR ⟨by dsimp only; omega, by dsimp only; omega⟩) (mulR ⟨by omega, by omega⟩) ?_
    try simp -implicitDefEqProofs only [↓s_cs, ↓nx_ap, ↓s_nil, ↓s_set, ↓s_par, ↓s_unp, ↓s_ret, ↓s_retN, ↓s_drop, ↓s_if, ↓s_whl, ↓s_for, ↓s_app, ↓s_ext, ↓s_put, ↓s_ja, ↓s_ji, ↓s_js, ↓s_jl, ↓s_rais, ↓s_pass, ↓s_brk, ↓s_cont, ↓s_tri, ↓hd_nil, ↓hd_cons, ↓un_s, ↓un_n, ↓hu_ret, ↓hu_ifr, ↓hx_b, ↓hx_s, ↓hx_i, ↓hx_n, ↓hx_fld, ↓hx_isA, ↓hx_nt, ↓hx_and, ↓hx_ite, ↓hx_lst, ↓hx_tup, ↓hxs_nil, ↓hxs_cons, ↓ra_none, ↓ra_some, ↓x_calldB, ↓x_lw, ↓x_dct0, ↓x_v, ↓x_i, ↓x_b, ↓x_n, ↓x_st, ↓x_g, ↓x_tup, ↓x_lst, ↓x_bin, ↓x_neg, ↓x_nt, ↓x_cmp, ↓x_chain, ↓x_isN, ↓x_notN, ↓x_and, ↓x_or, ↓x_ite, ↓x_ix, ↓x_cut, ↓x_rev, ↓x_stp, ↓x_callB, ↓x_callkB, ↓x_bi, ↓x_comp, ↓x_pop, ↓x_popA, ↓x_jg, ↓x_jn, ↓x_jp, ↓x_scut, ↓x_slen, ↓srcK, ↓srcL, ↓t_yes, ↓t_and', ↓t_or', ↓t_nt', ↓t_ex, ↓e_nil, ↓e_cons, ↓a_nil', ↓a_cons', ↓rs_nil, ↓rs_cons, ↓frzS_v, ↓frzS_n, ↓asgs_nil, ↓asgs_cons, ↓rd_z, ↓rd_s, ↓set_z, ↓set_s, ↓at_mk, ↓isJar_j, ↓der_v, ↓der_n, ↓der_sl, ↓frz_v, ↓frz_n, ↓frz_sl, ↓asg_v, ↓asg_n, ↓asg_sl, ↓opW, ↓cmpW, ↓eqw_int, ↓eqw_str, ↓eqw_tup, ↓eqw_lst, ↓ordW, ↓truW, ↓noOw, ↓ixW, ↓biW, ↓tgW, ↓tgsW, ↓opwW, ↓itW, ↓wipe_nil, ↓wipe_cons, ↓unwipe, ↓isOw, true_and, Bool.and_true, Bool.not_true, Bool.not_false, Bool.false_eq_true, ↓reduceIte, ↓blk_ap]
    have c2 : ∀ x' : P2, BestL o u q x' → ∀ {Q : Prop}, (if (0 - (0 - o * q).fdiv u) * y.2 < y.1 * q then kk ⟨[.fz (.int o), .fz (.int u), .fz (.int m), .fz (pD x'), .fz (pD (0 - (0 - o * q).fdiv u, q)), .fz (.int q), .fz (pD ((o * q).fdiv u, q)), .fz (pD (0 - (0 - o * q).fdiv u, q))], g⟩ else kk ⟨[.fz (.int o), .fz (.int u), .fz (.int m), .fz (pD x'), .fz (pD y), .fz (.int q), .fz (pD ((o * q).fdiv u, q)), .fz (pD (0 - (0 - o * q).fdiv u, q))], g⟩) := by
      intro x' bl' _
      split
      · rename_i c
        rw [if_pos c] at nh
        exact hk2 _ ⟨_, _, _, x', _, rfl, by rw [eq2]; exact bl', by rw [eq2]; exact nh⟩
      · rename_i c
        rw [if_neg c] at nh
        exact hk2 _ ⟨_, _, _, x', _, rfl, by rw [eq2]; exact bl', by rw [eq2]; exact nh⟩
    have nx : ∀ x' : P2, BestL o u q x' → (if decide ((0 - (0 - o * q).fdiv u) * y.2 < y.1 * q) = true then kk ⟨[.fz (.int o), .fz (.int u), .fz (.int m), .fz (pD x'), .fz (pD (0 - (0 - o * q).fdiv u, q)), .fz (.int q), .fz (pD ((o * q).fdiv u, q)), .fz (pD (0 - (0 - o * q).fdiv u, q))], g⟩ else kk ⟨[.fz (.int o), .fz (.int u), .fz (.int m), .fz (pD x'), .fz (pD y), .fz (.int q), .fz (pD ((o * q).fdiv u, q)), .fz (pD (0 - (0 - o * q).fdiv u, q))], g⟩) := fun x' bl' => by
      simpa only [decide_eq_true_eq] using c2 x' bl' (Q := True)
    by_cases c : x.1 * q < (o * q).fdiv u * x.2
    · rw [if_pos (decide_eq_true c)]
      rw [if_pos c] at nl
      refine p_less (n := n + 1) (u := (0 - (0 - o * q).fdiv u, q)) (v := y) (mulR ⟨by omega, by omega⟩) (mulR ⟨by dsimp only; omega, by dsimp only; omega⟩) ?_
      try simp -implicitDefEqProofs only [↓s_cs, ↓nx_ap, ↓s_nil, ↓s_set, ↓s_par, ↓s_unp, ↓s_ret, ↓s_retN, ↓s_drop, ↓s_if, ↓s_whl, ↓s_for, ↓s_app, ↓s_ext, ↓s_put, ↓s_ja, ↓s_ji, ↓s_js, ↓s_jl, ↓s_rais, ↓s_pass, ↓s_brk, ↓s_cont, ↓s_tri, ↓hd_nil, ↓hd_cons, ↓un_s, ↓un_n, ↓hu_ret, ↓hu_ifr, ↓hx_b, ↓hx_s, ↓hx_i, ↓hx_n, ↓hx_fld, ↓hx_isA, ↓hx_nt, ↓hx_and, ↓hx_ite, ↓hx_lst, ↓hx_tup, ↓hxs_nil, ↓hxs_cons, ↓ra_none, ↓ra_some, ↓x_calldB, ↓x_lw, ↓x_dct0, ↓x_v, ↓x_i, ↓x_b, ↓x_n, ↓x_st, ↓x_g, ↓x_tup, ↓x_lst, ↓x_bin, ↓x_neg, ↓x_nt, ↓x_cmp, ↓x_chain, ↓x_isN, ↓x_notN, ↓x_and, ↓x_or, ↓x_ite, ↓x_ix, ↓x_cut, ↓x_rev, ↓x_stp, ↓x_callB, ↓x_callkB, ↓x_bi, ↓x_comp, ↓x_pop, ↓x_popA, ↓x_jg, ↓x_jn, ↓x_jp, ↓x_scut, ↓x_slen, ↓srcK, ↓srcL, ↓t_yes, ↓t_and', ↓t_or', ↓t_nt', ↓t_ex, ↓e_nil, ↓e_cons, ↓a_nil', ↓a_cons', ↓rs_nil, ↓rs_cons, ↓frzS_v, ↓frzS_n, ↓asgs_nil, ↓asgs_cons, ↓rd_z, ↓rd_s, ↓set_z, ↓set_s, ↓at_mk, ↓isJar_j, ↓der_v, ↓der_n, ↓der_sl, ↓frz_v, ↓frz_n, ↓frz_sl, ↓asg_v, ↓asg_n, ↓asg_sl, ↓opW, ↓cmpW, ↓eqw_int, ↓eqw_str, ↓eqw_tup, ↓eqw_lst, ↓ordW, ↓truW, ↓noOw, ↓ixW, ↓biW, ↓tgW, ↓tgsW, ↓opwW, ↓itW, ↓wipe_nil, ↓wipe_cons, ↓unwipe, ↓isOw, true_and, Bool.and_true, Bool.not_true, Bool.not_false, Bool.false_eq_true, ↓reduceIte, ↓blk_ap]
      exact nx _ nl
    · rw [if_neg (by rw [decide_eq_true_eq]; exact c)]
      rw [if_neg c] at nl
      refine p_less (n := n + 1) (u := (0 - (0 - o * q).fdiv u, q)) (v := y) (mulR ⟨by omega, by omega⟩) (mulR ⟨by dsimp only; omega, by dsimp only; omega⟩) ?_
      try simp -implicitDefEqProofs only [↓s_cs, ↓nx_ap, ↓s_nil, ↓s_set, ↓s_par, ↓s_unp, ↓s_ret, ↓s_retN, ↓s_drop, ↓s_if, ↓s_whl, ↓s_for, ↓s_app, ↓s_ext, ↓s_put, ↓s_ja, ↓s_ji, ↓s_js, ↓s_jl, ↓s_rais, ↓s_pass, ↓s_brk, ↓s_cont, ↓s_tri, ↓hd_nil, ↓hd_cons, ↓un_s, ↓un_n, ↓hu_ret, ↓hu_ifr, ↓hx_b, ↓hx_s, ↓hx_i, ↓hx_n, ↓hx_fld, ↓hx_isA, ↓hx_nt, ↓hx_and, ↓hx_ite, ↓hx_lst, ↓hx_tup, ↓hxs_nil, ↓hxs_cons, ↓ra_none, ↓ra_some, ↓x_calldB, ↓x_lw, ↓x_dct0, ↓x_v, ↓x_i, ↓x_b, ↓x_n, ↓x_st, ↓x_g, ↓x_tup, ↓x_lst, ↓x_bin, ↓x_neg, ↓x_nt, ↓x_cmp, ↓x_chain, ↓x_isN, ↓x_notN, ↓x_and, ↓x_or, ↓x_ite, ↓x_ix, ↓x_cut, ↓x_rev, ↓x_stp, ↓x_callB, ↓x_callkB, ↓x_bi, ↓x_comp, ↓x_pop, ↓x_popA, ↓x_jg, ↓x_jn, ↓x_jp, ↓x_scut, ↓x_slen, ↓srcK, ↓srcL, ↓t_yes, ↓t_and', ↓t_or', ↓t_nt', ↓t_ex, ↓e_nil, ↓e_cons, ↓a_nil', ↓a_cons', ↓rs_nil, ↓rs_cons, ↓frzS_v, ↓frzS_n, ↓asgs_nil, ↓asgs_cons, ↓rd_z, ↓rd_s, ↓set_z, ↓set_s, ↓at_mk, ↓isJar_j, ↓der_v, ↓der_n, ↓der_sl, ↓frz_v, ↓frz_n, ↓frz_sl, ↓asg_v, ↓asg_n, ↓asg_sl, ↓opW, ↓cmpW, ↓eqw_int, ↓eqw_str, ↓eqw_tup, ↓eqw_lst, ↓ordW, ↓truW, ↓noOw, ↓ixW, ↓biW, ↓tgW, ↓tgsW, ↓opwW, ↓itW, ↓wipe_nil, ↓wipe_cons, ↓unwipe, ↓isOw, true_and, Bool.and_true, Bool.not_true, Bool.not_false, Bool.false_eq_true, ↓reduceIte, ↓blk_ap]
      exact nx _ nl
  · rintro r ⟨s5, s6, s7, x, y, rfl, bl, bh⟩
    have el : ((rangeD 2 (m + 1 - 2).toNat).length : Int) + 1 = m := by rw [rangeD_len]; omega
    rw [el] at bl bh
    obtain ⟨z1, z2⟩ := best_near a h bl bh
    have x1 := bl.p1
    have x2 := bl.p2
    have y1 := bh.p1
    have y2 := bh.p2
    have gf := near_frac a h
    obtain ⟨lx, lp, lg'⟩ := isFrac_pt gf.1
    obtain ⟨hx, hp, hg'⟩ := isFrac_pt gf.2
    have inj : ∀ {u v : P2}, pD u = pD v → u = v := fun {u v} e => by
      unfold pD at e
      simp only [PyData.tuple.injEq, List.cons.injEq, PyData.int.injEq, and_true] at e
      exact Prod.ext e.1 e.2
    obtain rfl := inj lp
    obtain rfl := inj hp
    obtain ⟨r1, r2⟩ := lowest_of (a := x.1) (b := x.2) (p := L.1) (q := L.2) (by omega) lg'.1 lg'.2 z1
    obtain ⟨r3, r4⟩ := lowest_of (a := y.1) (b := y.2) (p := H.1) (q := H.2) (by omega) hg'.1 hg'.2 z2
    have small : ∀ {z : Int}, 1 ≤ z → z ≤ m → z.natAbs < 2 ^ 700 := fun {z} h1 h2 => Nat.lt_of_le_of_lt (show z.natAbs ≤ 70 by omega) (by decide +kernel)
    try simp -implicitDefEqProofs only [↓s_cs, ↓nx_ap, ↓s_nil, ↓s_set, ↓s_par, ↓s_unp, ↓s_ret, ↓s_retN, ↓s_drop, ↓s_if, ↓s_whl, ↓s_for, ↓s_app, ↓s_ext, ↓s_put, ↓s_ja, ↓s_ji, ↓s_js, ↓s_jl, ↓s_rais, ↓s_pass, ↓s_brk, ↓s_cont, ↓s_tri, ↓hd_nil, ↓hd_cons, ↓un_s, ↓un_n, ↓hu_ret, ↓hu_ifr, ↓hx_b, ↓hx_s, ↓hx_i, ↓hx_n, ↓hx_fld, ↓hx_isA, ↓hx_nt, ↓hx_and, ↓hx_ite, ↓hx_lst, ↓hx_tup, ↓hxs_nil, ↓hxs_cons, ↓ra_none, ↓ra_some, ↓x_calldB, ↓x_lw, ↓x_dct0, ↓x_v, ↓x_i, ↓x_b, ↓x_n, ↓x_st, ↓x_g, ↓x_tup, ↓x_lst, ↓x_bin, ↓x_neg, ↓x_nt, ↓x_cmp, ↓x_chain, ↓x_isN, ↓x_notN, ↓x_and, ↓x_or, ↓x_ite, ↓x_ix, ↓x_cut, ↓x_rev, ↓x_stp, ↓x_callB, ↓x_callkB, ↓x_bi, ↓x_comp, ↓x_pop, ↓x_popA, ↓x_jg, ↓x_jn, ↓x_jp, ↓x_scut, ↓x_slen, ↓srcK, ↓srcL, ↓t_yes, ↓t_and', ↓t_or', ↓t_nt', ↓t_ex, ↓e_nil, ↓e_cons, ↓a_nil', ↓a_cons', ↓rs_nil, ↓rs_cons, ↓frzS_v, ↓frzS_n, ↓asgs_nil, ↓asgs_cons, ↓rd_z, ↓rd_s, ↓set_z, ↓set_s, ↓at_mk, ↓isJar_j, ↓der_v, ↓der_n, ↓der_sl, ↓frz_v, ↓frz_n, ↓frz_sl, ↓asg_v, ↓asg_n, ↓asg_sl, ↓opW, ↓cmpW, ↓eqw_int, ↓eqw_str, ↓eqw_tup, ↓eqw_lst, ↓ordW, ↓truW, ↓noOw, ↓ixW, ↓biW, ↓tgW, ↓tgsW, ↓opwW, ↓itW, ↓wipe_nil, ↓wipe_cons, ↓unwipe, ↓isOw, true_and, Bool.and_true, Bool.not_true, Bool.not_false, Bool.false_eq_true, ↓reduceIte, ↓blk_ap, pD, q0, q1]
    refine p_lowest (n := n) (by omega) (small x1 x2) ?_
    try simp -implicitDefEqProofs only [↓s_cs, ↓nx_ap, ↓s_nil, ↓s_set, ↓s_par, ↓s_unp, ↓s_ret, ↓s_retN, ↓s_drop, ↓s_if, ↓s_whl, ↓s_for, ↓s_app, ↓s_ext, ↓s_put, ↓s_ja, ↓s_ji, ↓s_js, ↓s_jl, ↓s_rais, ↓s_pass, ↓s_brk, ↓s_cont, ↓s_tri, ↓hd_nil, ↓hd_cons, ↓un_s, ↓un_n, ↓hu_ret, ↓hu_ifr, ↓hx_b, ↓hx_s, ↓hx_i, ↓hx_n, ↓hx_fld, ↓hx_isA, ↓hx_nt, ↓hx_and, ↓hx_ite, ↓hx_lst, ↓hx_tup, ↓hxs_nil, ↓hxs_cons, ↓ra_none, ↓ra_some, ↓x_calldB, ↓x_lw, ↓x_dct0, ↓x_v, ↓x_i, ↓x_b, ↓x_n, ↓x_st, ↓x_g, ↓x_tup, ↓x_lst, ↓x_bin, ↓x_neg, ↓x_nt, ↓x_cmp, ↓x_chain, ↓x_isN, ↓x_notN, ↓x_and, ↓x_or, ↓x_ite, ↓x_ix, ↓x_cut, ↓x_rev, ↓x_stp, ↓x_callB, ↓x_callkB, ↓x_bi, ↓x_comp, ↓x_pop, ↓x_popA, ↓x_jg, ↓x_jn, ↓x_jp, ↓x_scut, ↓x_slen, ↓srcK, ↓srcL, ↓t_yes, ↓t_and', ↓t_or', ↓t_nt', ↓t_ex, ↓e_nil, ↓e_cons, ↓a_nil', ↓a_cons', ↓rs_nil, ↓rs_cons, ↓frzS_v, ↓frzS_n, ↓asgs_nil, ↓asgs_cons, ↓rd_z, ↓rd_s, ↓set_z, ↓set_s, ↓at_mk, ↓isJar_j, ↓der_v, ↓der_n, ↓der_sl, ↓frz_v, ↓frz_n, ↓frz_sl, ↓asg_v, ↓asg_n, ↓asg_sl, ↓opW, ↓cmpW, ↓eqw_int, ↓eqw_str, ↓eqw_tup, ↓eqw_lst, ↓ordW, ↓truW, ↓noOw, ↓ixW, ↓biW, ↓tgW, ↓tgsW, ↓opwW, ↓itW, ↓wipe_nil, ↓wipe_cons, ↓unwipe, ↓isOw, true_and, Bool.and_true, Bool.not_true, Bool.not_false, Bool.false_eq_true, ↓reduceIte, ↓blk_ap]
    refine p_lowest (n := n) (by omega) (small y1 y2) ?_
    rw [r1, r2, r3, r4]
    try simp -implicitDefEqProofs only [↓s_cs, ↓nx_ap, ↓s_nil, ↓s_set, ↓s_par, ↓s_unp, ↓s_ret, ↓s_retN, ↓s_drop, ↓s_if, ↓s_whl, ↓s_for, ↓s_app, ↓s_ext, ↓s_put, ↓s_ja, ↓s_ji, ↓s_js, ↓s_jl, ↓s_rais, ↓s_pass, ↓s_brk, ↓s_cont, ↓s_tri, ↓hd_nil, ↓hd_cons, ↓un_s, ↓un_n, ↓hu_ret, ↓hu_ifr, ↓hx_b, ↓hx_s, ↓hx_i, ↓hx_n, ↓hx_fld, ↓hx_isA, ↓hx_nt, ↓hx_and, ↓hx_ite, ↓hx_lst, ↓hx_tup, ↓hxs_nil, ↓hxs_cons, ↓ra_none, ↓ra_some, ↓x_calldB, ↓x_lw, ↓x_dct0, ↓x_v, ↓x_i, ↓x_b, ↓x_n, ↓x_st, ↓x_g, ↓x_tup, ↓x_lst, ↓x_bin, ↓x_neg, ↓x_nt, ↓x_cmp, ↓x_chain, ↓x_isN, ↓x_notN, ↓x_and, ↓x_or, ↓x_ite, ↓x_ix, ↓x_cut, ↓x_rev, ↓x_stp, ↓x_callB, ↓x_callkB, ↓x_bi, ↓x_comp, ↓x_pop, ↓x_popA, ↓x_jg, ↓x_jn, ↓x_jp, ↓x_scut, ↓x_slen, ↓srcK, ↓srcL, ↓t_yes, ↓t_and', ↓t_or', ↓t_nt', ↓t_ex, ↓e_nil, ↓e_cons, ↓a_nil', ↓a_cons', ↓rs_nil, ↓rs_cons, ↓frzS_v, ↓frzS_n, ↓asgs_nil, ↓asgs_cons, ↓rd_z, ↓rd_s, ↓set_z, ↓set_s, ↓at_mk, ↓isJar_j, ↓der_v, ↓der_n, ↓der_sl, ↓frz_v, ↓frz_n, ↓frz_sl, ↓asg_v, ↓asg_n, ↓asg_sl, ↓opW, ↓cmpW, ↓eqw_int, ↓eqw_str, ↓eqw_tup, ↓eqw_lst, ↓ordW, ↓truW, ↓noOw, ↓ixW, ↓biW, ↓tgW, ↓tgsW, ↓opwW, ↓itW, ↓wipe_nil, ↓wipe_cons, ↓unwipe, ↓isOw, true_and, Bool.and_true, Bool.not_true, Bool.not_false, Bool.false_eq_true, ↓reduceIte, ↓blk_ap]
    exact hk
end G19

-- BLK
set_option linter.all false
set_option maxRecDepth 100000
set_option exponentiation.threshold 200000
namespace G19
open PySem PySem.Spec PyProof.Rows L2 G
def Sm (x : P2) : Prop := x.1.natAbs < 10 ^ 190 ∧ x.2.natAbs < 10 ^ 190
theorem Sm.bd {x : P2} (h : Sm x) : Bd x := ⟨Nat.lt_trans h.1 (by decide +kernel), Nat.lt_trans h.2 (by decide +kernel)⟩
structure GV (d : D) : Prop where
  vs : VS 5 100000 d
  bd : ∀ x y, d = ppD x y → Bd x ∧ Bd y
theorem pp_inj {x y x' y' : P2} (e : ppD x y = ppD x' y') : x = x' ∧ y = y' := by
  unfold ppD pD at e
  simp only [PyData.tuple.injEq, List.cons.injEq, PyData.int.injEq, and_true] at e
  exact ⟨Prod.ext e.1.1 e.1.2, Prod.ext e.2.1 e.2.2⟩
theorem gv_pp {x y : P2} (h1 : Sm x) (h2 : Sm y) : GV (ppD x y) := ⟨(ppD_vs h1 h2).mono (by decide) (by decide), fun x' y' e => by
  obtain ⟨rfl, rfl⟩ := pp_inj e
  exact ⟨h1.bd, h2.bd⟩⟩
theorem gv_of {d : D} (h : VS 5 100000 d) (n : ∀ x y : P2, d ≠ ppD x y) : GV d := ⟨h, fun x y e => (n x y e).elim⟩
theorem p_bent {n : Nat} {g : Gh} {L H : P2} {K : D → Gh → Prop} {X : Exn → Gh → Prop} (hL : L.1.natAbs ≤ 10 ^ 125 ∧ L.2.natAbs ≤ 10 ^ 41 ∧ 1 ≤ L.2) (hH : H.1.natAbs ≤ 10 ^ 125 ∧ H.2.natAbs ≤ 10 ^ 41 ∧ 1 ≤ H.2) (hg : GOK g) (h : ∀ d g', GV d → GOK g' → K d g') : callW T (n + 3) 11 [JAR, ppD L H] g K X := by
  refine call_df (np := 2) (ns := 7) (b := d11.b) rfl rfl ?_
  have e0 : startE 7 [JAR, ppD L H] g = ⟨[.fz JAR, .fz (.tuple [pD L, pD H]), .un, .un, .un, .un, .un], g⟩ := rfl
  rw [e0]
  obtain ⟨hL1, hL2, hL3⟩ := hL
  obtain ⟨hH1, hH2, hH3⟩ := hH
  have a1 : (10 : Nat) ^ 125 < 10 ^ 126 := by decide
  have a2 : (10 : Nat) ^ 41 < 10 ^ 126 := by decide
  have a3 : (10 : Nat) ^ 180 < 10 ^ 190 := by decide
  have sL : Sm L := ⟨by omega, by omega⟩
  have sH : Sm H := ⟨by omega, by omega⟩
  have L700 := b2 hL1
  have H700 := b2 hH1
  have L7 : L.2.natAbs < 2 ^ 700 := Nat.lt_of_le_of_lt hL2 (by decide +kernel)
  have H7 : H.2.natAbs < 2 ^ 700 := Nat.lt_of_le_of_lt hH2 (by decide +kernel)
  simp -implicitDefEqProofs only [↓s_cs, ↓nx_ap, ↓s_nil, ↓s_set, ↓s_par, ↓s_unp, ↓s_ret, ↓s_retN, ↓s_drop, ↓s_if, ↓s_whl, ↓s_for, ↓s_app, ↓s_ext, ↓s_put, ↓s_ja, ↓s_ji, ↓s_js, ↓s_jl, ↓s_rais, ↓s_pass, ↓s_brk, ↓s_cont, ↓s_tri, ↓hd_nil, ↓hd_cons, ↓un_s, ↓un_n, ↓hu_ret, ↓hu_ifr, ↓hx_b, ↓hx_s, ↓hx_i, ↓hx_n, ↓hx_fld, ↓hx_isA, ↓hx_nt, ↓hx_and, ↓hx_ite, ↓hx_lst, ↓hx_tup, ↓hxs_nil, ↓hxs_cons, ↓ra_none, ↓ra_some, ↓x_calldB, ↓x_lw, ↓x_dct0, ↓x_v, ↓x_i, ↓x_b, ↓x_n, ↓x_st, ↓x_g, ↓x_tup, ↓x_lst, ↓x_bin, ↓x_neg, ↓x_nt, ↓x_cmp, ↓x_chain, ↓x_isN, ↓x_notN, ↓x_and, ↓x_or, ↓x_ite, ↓x_ix, ↓x_cut, ↓x_rev, ↓x_stp, ↓x_callB, ↓x_callkB, ↓x_bi, ↓x_comp, ↓x_pop, ↓x_popA, ↓x_jg, ↓x_jn, ↓x_jp, ↓x_scut, ↓x_slen, ↓srcK, ↓srcL, ↓t_yes, ↓t_and', ↓t_or', ↓t_nt', ↓t_ex, ↓e_nil, ↓e_cons, ↓a_nil', ↓a_cons', ↓rs_nil, ↓rs_cons, ↓frzS_v, ↓frzS_n, ↓asgs_nil, ↓asgs_cons, ↓rd_z, ↓rd_s, ↓set_z, ↓set_s, ↓at_mk, ↓isJar_j, ↓der_v, ↓der_n, ↓der_sl, ↓frz_v, ↓frz_n, ↓frz_sl, ↓asg_v, ↓asg_n, ↓asg_sl, ↓opW, ↓cmpW, ↓eqw_int, ↓eqw_str, ↓eqw_tup, ↓eqw_lst, ↓ordW, ↓truW, ↓noOw, ↓ixW, ↓biW, ↓tgW, ↓tgsW, ↓opwW, ↓itW, ↓wipe_nil, ↓wipe_cons, ↓unwipe, ↓isOw, true_and, Bool.and_true, Bool.not_true, Bool.not_false, Bool.false_eq_true, ↓reduceIte, ↓blk_ap, ↓d11]
  refine p_draw (n := n + 1) hg (by decide) fun way g1 w0 w1 hg1 => ?_
  try simp -implicitDefEqProofs only [↓s_cs, ↓nx_ap, ↓s_nil, ↓s_set, ↓s_par, ↓s_unp, ↓s_ret, ↓s_retN, ↓s_drop, ↓s_if, ↓s_whl, ↓s_for, ↓s_app, ↓s_ext, ↓s_put, ↓s_ja, ↓s_ji, ↓s_js, ↓s_jl, ↓s_rais, ↓s_pass, ↓s_brk, ↓s_cont, ↓s_tri, ↓hd_nil, ↓hd_cons, ↓un_s, ↓un_n, ↓hu_ret, ↓hu_ifr, ↓hx_b, ↓hx_s, ↓hx_i, ↓hx_n, ↓hx_fld, ↓hx_isA, ↓hx_nt, ↓hx_and, ↓hx_ite, ↓hx_lst, ↓hx_tup, ↓hxs_nil, ↓hxs_cons, ↓ra_none, ↓ra_some, ↓x_calldB, ↓x_lw, ↓x_dct0, ↓x_v, ↓x_i, ↓x_b, ↓x_n, ↓x_st, ↓x_g, ↓x_tup, ↓x_lst, ↓x_bin, ↓x_neg, ↓x_nt, ↓x_cmp, ↓x_chain, ↓x_isN, ↓x_notN, ↓x_and, ↓x_or, ↓x_ite, ↓x_ix, ↓x_cut, ↓x_rev, ↓x_stp, ↓x_callB, ↓x_callkB, ↓x_bi, ↓x_comp, ↓x_pop, ↓x_popA, ↓x_jg, ↓x_jn, ↓x_jp, ↓x_scut, ↓x_slen, ↓srcK, ↓srcL, ↓t_yes, ↓t_and', ↓t_or', ↓t_nt', ↓t_ex, ↓e_nil, ↓e_cons, ↓a_nil', ↓a_cons', ↓rs_nil, ↓rs_cons, ↓frzS_v, ↓frzS_n, ↓asgs_nil, ↓asgs_cons, ↓rd_z, ↓rd_s, ↓set_z, ↓set_s, ↓at_mk, ↓isJar_j, ↓der_v, ↓der_n, ↓der_sl, ↓frz_v, ↓frz_n, ↓frz_sl, ↓asg_v, ↓asg_n, ↓asg_sl, ↓opW, ↓cmpW, ↓eqw_int, ↓eqw_str, ↓eqw_tup, ↓eqw_lst, ↓ordW, ↓truW, ↓noOw, ↓ixW, ↓biW, ↓tgW, ↓tgsW, ↓opwW, ↓itW, ↓wipe_nil, ↓wipe_cons, ↓unwipe, ↓isOw, true_and, Bool.and_true, Bool.not_true, Bool.not_false, Bool.false_eq_true, ↓reduceIte, ↓blk_ap]
  refine p_draw (n := n + 1) hg1 (by decide) fun fu g2 f0 f1 hg2 => ?_
  have w1 := w1 (by decide)
  have f1 := f1 (by decide)
  have ten : (10 : Int) ^ Int.toNat 40 = 10 ^ 40 := rfl
  have fb : (fu * L.2).natAbs ≤ 5 * 10 ^ 41 := mul_nb (by omega) hL2
  have fb2 : (H.2 * (1 + fu)).natAbs ≤ 10 ^ 41 * 6 := mul_nb hH2 (by omega)
  try simp -implicitDefEqProofs only [↓s_cs, ↓nx_ap, ↓s_nil, ↓s_set, ↓s_par, ↓s_unp, ↓s_ret, ↓s_retN, ↓s_drop, ↓s_if, ↓s_whl, ↓s_for, ↓s_app, ↓s_ext, ↓s_put, ↓s_ja, ↓s_ji, ↓s_js, ↓s_jl, ↓s_rais, ↓s_pass, ↓s_brk, ↓s_cont, ↓s_tri, ↓hd_nil, ↓hd_cons, ↓un_s, ↓un_n, ↓hu_ret, ↓hu_ifr, ↓hx_b, ↓hx_s, ↓hx_i, ↓hx_n, ↓hx_fld, ↓hx_isA, ↓hx_nt, ↓hx_and, ↓hx_ite, ↓hx_lst, ↓hx_tup, ↓hxs_nil, ↓hxs_cons, ↓ra_none, ↓ra_some, ↓x_calldB, ↓x_lw, ↓x_dct0, ↓x_v, ↓x_i, ↓x_b, ↓x_n, ↓x_st, ↓x_g, ↓x_tup, ↓x_lst, ↓x_bin, ↓x_neg, ↓x_nt, ↓x_cmp, ↓x_chain, ↓x_isN, ↓x_notN, ↓x_and, ↓x_or, ↓x_ite, ↓x_ix, ↓x_cut, ↓x_rev, ↓x_stp, ↓x_callB, ↓x_callkB, ↓x_bi, ↓x_comp, ↓x_pop, ↓x_popA, ↓x_jg, ↓x_jn, ↓x_jp, ↓x_scut, ↓x_slen, ↓srcK, ↓srcL, ↓t_yes, ↓t_and', ↓t_or', ↓t_nt', ↓t_ex, ↓e_nil, ↓e_cons, ↓a_nil', ↓a_cons', ↓rs_nil, ↓rs_cons, ↓frzS_v, ↓frzS_n, ↓asgs_nil, ↓asgs_cons, ↓rd_z, ↓rd_s, ↓set_z, ↓set_s, ↓at_mk, ↓isJar_j, ↓der_v, ↓der_n, ↓der_sl, ↓frz_v, ↓frz_n, ↓frz_sl, ↓asg_v, ↓asg_n, ↓asg_sl, ↓opW, ↓cmpW, ↓eqw_int, ↓eqw_str, ↓eqw_tup, ↓eqw_lst, ↓ordW, ↓truW, ↓noOw, ↓ixW, ↓biW, ↓tgW, ↓tgsW, ↓opwW, ↓itW, ↓wipe_nil, ↓wipe_cons, ↓unwipe, ↓isOw, true_and, Bool.and_true, Bool.not_true, Bool.not_false, Bool.false_eq_true, ↓reduceIte, ↓blk_ap, pD, q0, q1, ten]
  have pp : ∀ {x1 x2 y1 y2 : Int} {g' : Gh}, x1.natAbs < 10 ^ 190 → x2.natAbs < 10 ^ 190 → y1.natAbs < 10 ^ 190 → y2.natAbs < 10 ^ 190 → GOK g' → K (.tuple [.tuple [.int x1, .int x2], .tuple [.int y1, .int y2]]) g' := fun {x1 x2 y1 y2 g'} h1 h2 h3 h4 hg => h _ _ (gv_pp (x := (x1, x2)) (y := (y1, y2)) ⟨h1, h2⟩ ⟨h3, h4⟩) hg
  have sL1 := sL.1
  have sL2 := sL.2
  have sH1 := sH.1
  have sH2 := sH.2
  have vsL : VS 1 410 (.tuple [.int L.1, .int L.2]) := pD_vs sL
  have vsH : VS 1 410 (.tuple [.int H.1, .int H.2]) := pD_vs sH
  have vT : ∀ {dp m : Nat} {ds : List D}, (∀ d ∈ ds, VS dp m d) → ds.length ≤ 4 → dp ≤ 3 → m ≤ 20000 → VS 5 100000 (.tuple ds) := fun {dp m ds} hd hl h1 h2 => (vs_tup (c := 4) hd hl).mono (by omega) (by omega)
  have vL : ∀ {dp m : Nat} {ds : List D}, (∀ d ∈ ds, VS dp m d) → ds.length ≤ 4 → dp ≤ 3 → m ≤ 20000 → VS 5 100000 (.list ds) := fun {dp m ds} hd hl h1 h2 => (vs_lst (c := 4) hd hl).mono (by omega) (by omega)
  have le4 : ∀ {n : Nat}, Nat.ble n 4 = true → n ≤ 4 := fun h => Nat.le_of_ble_eq_true h
  by_cases c0 : way = 0
  · rw [if_pos (decide_eq_true c0)]
    exact ⟨mulS ⟨by omega, by omega⟩, pp (by omega) sL2 sH1 sH2 hg2⟩
  rw [if_neg (by rw [decide_eq_true_eq]; exact c0)]
  by_cases c1 : way = 1
  · rw [if_pos (decide_eq_true c1)]
    exact pp sL1 sL2 (by omega) (by omega) hg2
  rw [if_neg (by rw [decide_eq_true_eq]; exact c1)]
  by_cases c2 : way = 2
  · rw [if_pos (decide_eq_true c2)]
    exact pp sH1 sH2 sL1 sL2 hg2
  rw [if_neg (by rw [decide_eq_true_eq]; exact c2)]
  by_cases c3 : way = 3
  · rw [if_pos (decide_eq_true c3)]
    exact ⟨mulS ⟨by decide, by decide⟩, mulS ⟨by decide, by decide⟩, pp (by omega) (by omega) sH1 sH2 hg2⟩
  rw [if_neg (by rw [decide_eq_true_eq]; exact c3)]
  by_cases c4 : way = 4
  · rw [if_pos (decide_eq_true c4)]
    have x1 := mul_nb (a := H.1) (b := 10 ^ 40) (A := 10 ^ 125) (B := 10 ^ 40) hH1 (by decide)
    have x2 := mul_nb (a := H.2) (b := 10 ^ 40) (A := 10 ^ 41) (B := 10 ^ 40) hH2 (by decide)
    have e1 : 10 ^ 125 * 10 ^ 40 = 10 ^ 165 := by decide
    have e2 : 10 ^ 41 * 10 ^ 40 = 10 ^ 81 := by decide
    rw [e1] at x1
    rw [e2] at x2
    have b40 : ((10 : Int) ^ 40).natAbs < 2 ^ 700 := by decide +kernel
    exact ⟨⟨by decide, by decide, by decide⟩, mulB H700 b40, ⟨by decide, by decide, by decide⟩, mulB H7 b40, pp sL1 sL2 (by omega) (by omega) hg2⟩
  rw [if_neg (by rw [decide_eq_true_eq]; exact c4)]
  by_cases c5 : way = 5
  · rw [if_pos (decide_eq_true c5)]
    exact pp (by omega) (by omega) sH1 sH2 hg2
  rw [if_neg (by rw [decide_eq_true_eq]; exact c5)]
  by_cases c6 : way = 6
  · rw [if_pos (decide_eq_true c6)]
    refine p_lowest (n := n) (by omega) (Nat.lt_of_le_of_lt (show (L.2 + H.2).natAbs ≤ 10 ^ 42 by omega) (by decide +kernel)) ?_
    have gp : 0 < Int.gcd (L.1 + H.1) (L.2 + H.2) := Int.gcd_pos_of_ne_zero_right _ (by omega)
    have ab : ∀ (a : Int) (c : Nat), 0 < c → (a.fdiv (c : Int)).natAbs ≤ a.natAbs := fun a c hc => by
      rw [Int.fdiv_eq_ediv_of_nonneg _ (by omega)]
      exact Int.natAbs_ediv_le_natAbs a c
    have r1 := ab (L.1 + H.1) _ gp
    have r2 := ab (L.2 + H.2) _ gp
    rw [blk_ap]
    exact pp sL1 sL2 (by omega) (by omega) hg2
  rw [if_neg (by rw [decide_eq_true_eq]; exact c6)]
  by_cases c7 : way = 7
  · rw [if_pos (decide_eq_true c7)]
    refine ⟨by show 2 + 1 ≤ SZ; decide, p_pick (n := n) (.inl rfl) hg2 (show 1 ≤ 9 by decide) (show 9 < 10 ^ 9 by decide) fun x g3 hx hg3 => ?_⟩
    rw [blk_ap]
    refine h _ _ ?_ hg3
    have m2 : ∀ d ∈ [PyData.tuple [PyData.int L.1, PyData.int L.2], PyData.tuple [PyData.int H.1, PyData.int H.2]], VS 1 410 d := fun d hd => by
      simp only [List.mem_cons, List.not_mem_nil, or_false] at hd
      rcases hd with rfl | rfl
      · exact vsL
      · exact vsH
    have m1 : ∀ {a : D}, VS 1 410 a → ∀ d ∈ [a], VS 1 410 d := fun ha d hd => by
      rw [List.mem_singleton] at hd; subst hd; exact ha
    simp only [List.mem_cons, List.not_mem_nil, or_false] at hx
    rcases hx with rfl | rfl | rfl | rfl | rfl | rfl | rfl | rfl | rfl
    · exact gv_of (vL m2 (le4 rfl) (by decide) (by decide)) fun x y e => by simp [ppD, pD] at e
    · exact gv_of (vT (fun d hd => (List.mem_append.mp hd).elim (m2 d) (m1 vsH d)) (le4 rfl) (by decide) (by decide)) fun x y e => by simp [ppD, pD] at e
    · exact gv_of (vT (m1 vsL) (le4 rfl) (by decide) (by decide)) fun x y e => by simp [ppD, pD] at e
    · exact gv_of (vsL.mono (by decide) (by decide)) fun x y e => by simp [ppD, pD] at e
    · exact gv_of (vs_non.mono (by decide) (by decide)) fun x y e => by simp [ppD, pD] at e
    · exact gv_of ((vs_str (m := 30) (by decide +kernel) (by decide +kernel)).mono (by decide) (by decide)) fun x y e => by simp [ppD, pD] at e
    · exact gv_of ((vs_int (x := 0) (m := 201) (by decide) (by decide)).mono (by decide) (by decide)) fun x y e => by simp [ppD, pD] at e
    · refine gv_of (vT (dp := 2) (m := 2000) (fun d hd => ?_) (le4 rfl) (by decide) (by decide)) fun x y e => by simp [ppD, pD] at e
      simp only [List.mem_cons, List.not_mem_nil, or_false] at hd
      rcases hd with rfl | rfl
      · exact vsL.mono (by decide) (by decide)
      · refine (vs_lst (dp := 0) (m := 201) (c := 2) (fun d hd => ?_) (Nat.le_refl _)).mono (by decide) (by decide)
        simp only [List.mem_cons, List.not_mem_nil, or_false] at hd
        rcases hd with rfl | rfl
        · exact vs_int (Nat.lt_trans sH1 (by decide +kernel)) (by decide)
        · exact vs_int (Nat.lt_trans sH2 (by decide +kernel)) (by decide)
    · refine gv_of (vT (dp := 1) (m := 410) (fun d hd => ?_) (le4 rfl) (by decide) (by decide)) fun x y e => by simp [ppD, pD] at e
      simp only [List.mem_cons, List.not_mem_nil, or_false] at hd
      rcases hd with rfl | rfl
      · exact vsL
      · exact vs_non.mono (by decide) (by decide)
  rw [if_neg (by rw [decide_eq_true_eq]; exact c7)]
  by_cases c8 : way = 8
  · rw [if_pos (decide_eq_true c8)]
    exact pp sL1 (by omega) sH1 sH2 hg2
  rw [if_neg (by rw [decide_eq_true_eq]; exact c8)]
  by_cases c9 : way = 9
  · rw [if_pos (decide_eq_true c9)]
    refine p_pick (n := n) (.inl rfl) hg2 (show 1 ≤ 6 by decide) (show 6 < 10 ^ 9 by decide) fun x g3 hx hg3 => ?_
    try simp -implicitDefEqProofs only [↓s_cs, ↓nx_ap, ↓s_nil, ↓s_set, ↓s_par, ↓s_unp, ↓s_ret, ↓s_retN, ↓s_drop, ↓s_if, ↓s_whl, ↓s_for, ↓s_app, ↓s_ext, ↓s_put, ↓s_ja, ↓s_ji, ↓s_js, ↓s_jl, ↓s_rais, ↓s_pass, ↓s_brk, ↓s_cont, ↓s_tri, ↓hd_nil, ↓hd_cons, ↓un_s, ↓un_n, ↓hu_ret, ↓hu_ifr, ↓hx_b, ↓hx_s, ↓hx_i, ↓hx_n, ↓hx_fld, ↓hx_isA, ↓hx_nt, ↓hx_and, ↓hx_ite, ↓hx_lst, ↓hx_tup, ↓hxs_nil, ↓hxs_cons, ↓ra_none, ↓ra_some, ↓x_calldB, ↓x_lw, ↓x_dct0, ↓x_v, ↓x_i, ↓x_b, ↓x_n, ↓x_st, ↓x_g, ↓x_tup, ↓x_lst, ↓x_bin, ↓x_neg, ↓x_nt, ↓x_cmp, ↓x_chain, ↓x_isN, ↓x_notN, ↓x_and, ↓x_or, ↓x_ite, ↓x_ix, ↓x_cut, ↓x_rev, ↓x_stp, ↓x_callB, ↓x_callkB, ↓x_bi, ↓x_comp, ↓x_pop, ↓x_popA, ↓x_jg, ↓x_jn, ↓x_jp, ↓x_scut, ↓x_slen, ↓srcK, ↓srcL, ↓t_yes, ↓t_and', ↓t_or', ↓t_nt', ↓t_ex, ↓e_nil, ↓e_cons, ↓a_nil', ↓a_cons', ↓rs_nil, ↓rs_cons, ↓frzS_v, ↓frzS_n, ↓asgs_nil, ↓asgs_cons, ↓rd_z, ↓rd_s, ↓set_z, ↓set_s, ↓at_mk, ↓isJar_j, ↓der_v, ↓der_n, ↓der_sl, ↓frz_v, ↓frz_n, ↓frz_sl, ↓asg_v, ↓asg_n, ↓asg_sl, ↓opW, ↓cmpW, ↓eqw_int, ↓eqw_str, ↓eqw_tup, ↓eqw_lst, ↓ordW, ↓truW, ↓noOw, ↓ixW, ↓biW, ↓tgW, ↓tgsW, ↓opwW, ↓itW, ↓wipe_nil, ↓wipe_cons, ↓unwipe, ↓isOw, true_and, Bool.and_true, Bool.not_true, Bool.not_false, Bool.false_eq_true, ↓reduceIte, ↓blk_ap]
    have two : ∀ {a b : D}, VS 0 205 a → VS 0 205 b → VS 1 500 (.tuple [a, b]) := fun {a b} ha hb => by
      refine (vs_tup (dp := 0) (m := 205) (c := 2) (fun d hd => ?_) (Nat.le_refl _)).mono (by decide) (by decide)
      simp only [List.mem_cons, List.not_mem_nil, or_false] at hd
      rcases hd with rfl | rfl
      · exact ha
      · exact hb
    have i0 : ∀ {x : Int}, x.natAbs < 10 ^ 190 → VS 0 205 (.int x) := fun hx => (vs_int (m := 201) (Nat.lt_trans hx (by decide +kernel)) (by decide)).mono (by decide) (by decide)
    have bt : VS 0 205 (.bool true) := vs_bool.mono (by decide) (by decide)
    have xv : VS 1 500 x := by
      simp only [List.mem_cons, List.not_mem_nil, or_false] at hx
      rcases hx with rfl | rfl | rfl | rfl | rfl | rfl
      · exact two bt (i0 (by decide))
      · exact two (i0 sH1) bt
      · exact two (i0 (by decide)) (i0 (by decide))
      · exact two (i0 (by decide)) (i0 (by decide))
      · exact two ((vs_str (m := 30) (by decide +kernel) (by decide +kernel)).mono (by decide) (by decide)) (i0 (by decide))
      · refine (vs_tup (dp := 0) (m := 205) (c := 1) (fun d hd => ?_) (Nat.le_refl _)).mono (by decide) (by decide)
        rw [List.mem_singleton] at hd
        subst hd
        exact i0 sH1
    have tv : VS 5 100000 (.tuple [.tuple [.int L.1, .int L.2], x]) := vT (dp := 1) (m := 500) (fun d hd => by
      simp only [List.mem_cons, List.not_mem_nil, or_false] at hd
      rcases hd with rfl | rfl
      · exact vsL.mono (by decide) (by decide)
      · exact xv) (le4 rfl) (by decide) (by decide)
    refine h _ _ ⟨tv, fun x' y' e => ?_⟩ hg3
    unfold ppD at e
    simp only [PyData.tuple.injEq, List.cons.injEq, and_true] at e
    obtain ⟨e1, e2⟩ := e
    have ex : x' = L := by
      unfold pD at e1
      simp only [PyData.tuple.injEq, List.cons.injEq, PyData.int.injEq, and_true] at e1
      exact Prod.ext e1.1.symm e1.2.symm
    have sm0 : ∀ {a b : Int} {y : P2}, pD (a, b) = pD y → a.natAbs < 10 ^ 190 → b.natAbs < 10 ^ 190 → Bd y := fun {a b y} e h1 h2 => by
      unfold pD at e
      simp only [PyData.tuple.injEq, List.cons.injEq, PyData.int.injEq, and_true] at e
      exact Sm.bd ⟨by rw [← e.1]; exact h1, by rw [← e.2]; exact h2⟩
    refine ⟨by rw [ex]; exact sL.bd, ?_⟩
    simp only [List.mem_cons, List.not_mem_nil, or_false] at hx
    rcases hx with rfl | rfl | rfl | rfl | rfl | rfl
    · simp [pD] at e2
    · simp [pD] at e2
    · exact sm0 (a := 0) (b := 1) e2 (by decide) (by decide)
    · exact sm0 (a := 0) (b := 0) e2 (by decide) (by decide)
    · simp [pD] at e2
    · simp [pD] at e2
  rw [if_neg (by rw [decide_eq_true_eq]; exact c9)]
  by_cases c10 : way = 10
  · rw [if_pos (decide_eq_true c10)]
    exact ⟨mulR ⟨by omega, by omega⟩, pp sL1 sL2 (by omega) sH2 hg2⟩
  rw [if_neg (by rw [decide_eq_true_eq]; exact c10)]
  exact pp (by omega) sL2 (by omega) sH2 hg2
end G19

-- BLK
set_option linter.all false
set_option maxRecDepth 100000
set_option exponentiation.threshold 200000
namespace G19
open PySem PySem.Spec PyProof.Rows L2 G
theorem s1m : 1000000 ≤ SZ := by decide
theorem flt_val {o u m : Int} {L H : P2} {d e : D} (h : Flt o u m L H d e) : G.Val 1 1000 e := by
  have st : ∀ {s : Str}, (PyData.str s).shown.length ≤ 30 → G.Val 1 1000 (.str s) := fun h => (s_val h).mono (by decide) (by decide)
  have gr : ∀ x : Int, x.natAbs < 10 ^ 200 → G.Val 1 1000 (.tuple [.str "great", .int x]) := fun x hx => by
    refine (val_tup (dp := 0) (m := 201) (c := 2) (fun d hd => ?_) (Nat.le_refl _)).mono (Nat.le_refl _) (by decide)
    simp only [List.mem_cons, List.not_mem_nil, or_false] at hd
    rcases hd with rfl | rfl
    · exact (s_val (m := 30) (by decide +kernel)).mono (by decide) (by decide)
    · exact i_val hx (by decide)
  cases h with
  | pair x y _ _ =>
    unfold res
    split
    · exact gr 0 (by decide)
    split
    · exact gr 1 (by decide)
    split
    · exact st (by decide +kernel)
    split
    · exact val_non.mono (by decide) (by decide)
    · exact st (by decide +kernel)
  | form d _ => exact st (by decide +kernel)
theorem s1000 : 1000 ≤ SZ := by decide
theorem p_right {n : Nat} {g : Gh} {o u m : Int} {K : D → Gh → Prop} {X : Exn → Gh → Prop} (a : Ask o u m) (hg : GOK g) (h : ∀ g', GOK g' → K (.bool true) g') : callW T (n + 4) 16 [JAR, .int o, .int u, .int m] g K X := by
  refine call_df (np := 4) (ns := 10) (b := d16.b) rfl rfl ?_
  have e0 : startE 10 [JAR, .int o, .int u, .int m] g = ⟨[.fz JAR, .fz (.int o), .fz (.int u), .fz (.int m), .un, .un, .un, .un, .un, .un], g⟩ := rfl
  rw [e0]
  have k5 : List.map (fun p => ([] ++ [PyData.int m, PyData.int u, PyData.int o]).getD p PyData.none) [2, 1, 0] = [.int o, .int u, .int m] := rfl
  have k15 : ∀ v : D, List.map (fun p => ([] ++ [v, PyData.int m, PyData.int u, PyData.int o]).getD p PyData.none) [3, 2, 1, 0] = [.int o, .int u, .int m, v] := fun _ => rfl
  simp -implicitDefEqProofs only [↓s_cs, ↓nx_ap, ↓s_nil, ↓s_set, ↓s_par, ↓s_unp, ↓s_ret, ↓s_retN, ↓s_drop, ↓s_if, ↓s_whl, ↓s_for, ↓s_app, ↓s_ext, ↓s_put, ↓s_ja, ↓s_ji, ↓s_js, ↓s_jl, ↓s_rais, ↓s_pass, ↓s_brk, ↓s_cont, ↓s_tri, ↓hd_nil, ↓hd_cons, ↓un_s, ↓un_n, ↓hu_ret, ↓hu_ifr, ↓hx_b, ↓hx_s, ↓hx_i, ↓hx_n, ↓hx_fld, ↓hx_isA, ↓hx_nt, ↓hx_and, ↓hx_ite, ↓hx_lst, ↓hx_tup, ↓hxs_nil, ↓hxs_cons, ↓ra_none, ↓ra_some, ↓x_calldB, ↓x_lw, ↓x_dct0, ↓x_v, ↓x_i, ↓x_b, ↓x_n, ↓x_st, ↓x_g, ↓x_tup, ↓x_lst, ↓x_bin, ↓x_neg, ↓x_nt, ↓x_cmp, ↓x_chain, ↓x_isN, ↓x_notN, ↓x_and, ↓x_or, ↓x_ite, ↓x_ix, ↓x_cut, ↓x_rev, ↓x_stp, ↓x_callB, ↓x_callkB, ↓x_bi, ↓x_comp, ↓x_pop, ↓x_popA, ↓x_jg, ↓x_jn, ↓x_jp, ↓x_scut, ↓x_slen, ↓srcK, ↓srcL, ↓t_yes, ↓t_and', ↓t_or', ↓t_nt', ↓t_ex, ↓e_nil, ↓e_cons, ↓a_nil', ↓a_cons', ↓rs_nil, ↓rs_cons, ↓frzS_v, ↓frzS_n, ↓asgs_nil, ↓asgs_cons, ↓rd_z, ↓rd_s, ↓set_z, ↓set_s, ↓at_mk, ↓isJar_j, ↓der_v, ↓der_n, ↓der_sl, ↓frz_v, ↓frz_n, ↓frz_sl, ↓asg_v, ↓asg_n, ↓asg_sl, ↓opW, ↓cmpW, ↓eqw_int, ↓eqw_str, ↓eqw_tup, ↓eqw_lst, ↓ordW, ↓truW, ↓noOw, ↓ixW, ↓biW, ↓tgW, ↓tgsW, ↓opwW, ↓itW, ↓wipe_nil, ↓wipe_cons, ↓unwipe, ↓isOw, true_and, Bool.and_true, Bool.not_true, Bool.not_false, Bool.false_eq_true, ↓reduceIte, ↓blk_ap, ↓d16]
  refine p_near (n := n + 1) a fun L H nr => ?_
  have vs := near_vs a nr
  obtain ⟨b1, b2_, b3, b4⟩ := near_bd a nr
  have gf := near_frac a nr
  have pos : 1 ≤ L.2 ∧ 1 ≤ H.2 := by
    obtain ⟨x, hx, h1, _⟩ := isFrac_pt gf.1
    obtain ⟨y, hy, h2, _⟩ := isFrac_pt gf.2
    unfold pD at hx hy
    simp only [PyData.tuple.injEq, List.cons.injEq, PyData.int.injEq, and_true] at hx hy
    exact ⟨by omega, by omega⟩
  try simp -implicitDefEqProofs only [↓s_cs, ↓nx_ap, ↓s_nil, ↓s_set, ↓s_par, ↓s_unp, ↓s_ret, ↓s_retN, ↓s_drop, ↓s_if, ↓s_whl, ↓s_for, ↓s_app, ↓s_ext, ↓s_put, ↓s_ja, ↓s_ji, ↓s_js, ↓s_jl, ↓s_rais, ↓s_pass, ↓s_brk, ↓s_cont, ↓s_tri, ↓hd_nil, ↓hd_cons, ↓un_s, ↓un_n, ↓hu_ret, ↓hu_ifr, ↓hx_b, ↓hx_s, ↓hx_i, ↓hx_n, ↓hx_fld, ↓hx_isA, ↓hx_nt, ↓hx_and, ↓hx_ite, ↓hx_lst, ↓hx_tup, ↓hxs_nil, ↓hxs_cons, ↓ra_none, ↓ra_some, ↓x_calldB, ↓x_lw, ↓x_dct0, ↓x_v, ↓x_i, ↓x_b, ↓x_n, ↓x_st, ↓x_g, ↓x_tup, ↓x_lst, ↓x_bin, ↓x_neg, ↓x_nt, ↓x_cmp, ↓x_chain, ↓x_isN, ↓x_notN, ↓x_and, ↓x_or, ↓x_ite, ↓x_ix, ↓x_cut, ↓x_rev, ↓x_stp, ↓x_callB, ↓x_callkB, ↓x_bi, ↓x_comp, ↓x_pop, ↓x_popA, ↓x_jg, ↓x_jn, ↓x_jp, ↓x_scut, ↓x_slen, ↓srcK, ↓srcL, ↓t_yes, ↓t_and', ↓t_or', ↓t_nt', ↓t_ex, ↓e_nil, ↓e_cons, ↓a_nil', ↓a_cons', ↓rs_nil, ↓rs_cons, ↓frzS_v, ↓frzS_n, ↓asgs_nil, ↓asgs_cons, ↓rd_z, ↓rd_s, ↓set_z, ↓set_s, ↓at_mk, ↓isJar_j, ↓der_v, ↓der_n, ↓der_sl, ↓frz_v, ↓frz_n, ↓frz_sl, ↓asg_v, ↓asg_n, ↓asg_sl, ↓opW, ↓cmpW, ↓eqw_int, ↓eqw_str, ↓eqw_tup, ↓eqw_lst, ↓ordW, ↓truW, ↓noOw, ↓ixW, ↓biW, ↓tgW, ↓tgsW, ↓opwW, ↓itW, ↓wipe_nil, ↓wipe_cons, ↓unwipe, ↓isOw, true_and, Bool.and_true, Bool.not_true, Bool.not_false, Bool.false_eq_true, ↓reduceIte, ↓blk_ap]
  refine p_pair (n := n) a nr ?_
  try simp -implicitDefEqProofs only [↓s_cs, ↓s_nil, ↓s_set, ↓s_par, ↓s_unp, ↓s_ret, ↓s_retN, ↓s_drop, ↓s_if, ↓s_whl, ↓s_for, ↓s_app, ↓s_ext, ↓s_put, ↓s_ja, ↓s_ji, ↓s_js, ↓s_jl, ↓s_rais, ↓s_pass, ↓s_brk, ↓s_cont, ↓s_tri, ↓hd_nil, ↓hd_cons, ↓un_s, ↓un_n, ↓hu_ret, ↓hu_ifr, ↓hx_b, ↓hx_s, ↓hx_i, ↓hx_n, ↓hx_fld, ↓hx_isA, ↓hx_nt, ↓hx_and, ↓hx_ite, ↓hx_lst, ↓hx_tup, ↓hxs_nil, ↓hxs_cons, ↓ra_none, ↓ra_some, ↓x_calldB, ↓x_lw, ↓x_dct0, ↓x_v, ↓x_i, ↓x_b, ↓x_n, ↓x_st, ↓x_g, ↓x_tup, ↓x_lst, ↓x_bin, ↓x_neg, ↓x_nt, ↓x_cmp, ↓x_chain, ↓x_isN, ↓x_notN, ↓x_and, ↓x_or, ↓x_ite, ↓x_ix, ↓x_cut, ↓x_rev, ↓x_stp, ↓x_callB, ↓x_callkB, ↓x_bi, ↓x_comp, ↓x_pop, ↓x_popA, ↓x_jg, ↓x_jn, ↓x_jp, ↓x_scut, ↓x_slen, ↓srcK, ↓srcL, ↓t_yes, ↓t_and', ↓t_or', ↓t_nt', ↓t_ex, ↓e_nil, ↓e_cons, ↓a_nil', ↓a_cons', ↓rs_nil, ↓rs_cons, ↓frzS_v, ↓frzS_n, ↓asgs_nil, ↓asgs_cons, ↓rd_z, ↓rd_s, ↓set_z, ↓set_s, ↓at_mk, ↓isJar_j, ↓der_v, ↓der_n, ↓der_sl, ↓frz_v, ↓frz_n, ↓frz_sl, ↓asg_v, ↓asg_n, ↓asg_sl, ↓opW, ↓cmpW, ↓eqw_int, ↓eqw_str, ↓eqw_tup, ↓eqw_lst, ↓ordW, ↓truW, ↓noOw, ↓ixW, ↓biW, ↓tgW, ↓tgsW, ↓opwW, ↓itW, ↓wipe_nil, ↓wipe_cons, ↓unwipe, ↓isOw, true_and, Bool.and_true, Bool.not_true, Bool.not_false, Bool.false_eq_true, ↓reduceIte, ↓blk_ap]
  rw [nx_ap]
  try simp -implicitDefEqProofs only [↓s_cs, ↓s_nil, ↓s_set, ↓s_par, ↓s_unp, ↓s_ret, ↓s_retN, ↓s_drop, ↓s_if, ↓s_whl, ↓s_for, ↓s_app, ↓s_ext, ↓s_put, ↓s_ja, ↓s_ji, ↓s_js, ↓s_jl, ↓s_rais, ↓s_pass, ↓s_brk, ↓s_cont, ↓s_tri, ↓hd_nil, ↓hd_cons, ↓un_s, ↓un_n, ↓hu_ret, ↓hu_ifr, ↓hx_b, ↓hx_s, ↓hx_i, ↓hx_n, ↓hx_fld, ↓hx_isA, ↓hx_nt, ↓hx_and, ↓hx_ite, ↓hx_lst, ↓hx_tup, ↓hxs_nil, ↓hxs_cons, ↓ra_none, ↓ra_some, ↓x_calldB, ↓x_lw, ↓x_dct0, ↓x_v, ↓x_i, ↓x_b, ↓x_n, ↓x_st, ↓x_g, ↓x_tup, ↓x_lst, ↓x_bin, ↓x_neg, ↓x_nt, ↓x_cmp, ↓x_chain, ↓x_isN, ↓x_notN, ↓x_and, ↓x_or, ↓x_ite, ↓x_ix, ↓x_cut, ↓x_rev, ↓x_stp, ↓x_callB, ↓x_callkB, ↓x_bi, ↓x_comp, ↓x_pop, ↓x_popA, ↓x_jg, ↓x_jn, ↓x_jp, ↓x_scut, ↓x_slen, ↓srcK, ↓srcL, ↓t_yes, ↓t_and', ↓t_or', ↓t_nt', ↓t_ex, ↓e_nil, ↓e_cons, ↓a_nil', ↓a_cons', ↓rs_nil, ↓rs_cons, ↓frzS_v, ↓frzS_n, ↓asgs_nil, ↓asgs_cons, ↓rd_z, ↓rd_s, ↓set_z, ↓set_s, ↓at_mk, ↓isJar_j, ↓der_v, ↓der_n, ↓der_sl, ↓frz_v, ↓frz_n, ↓frz_sl, ↓asg_v, ↓asg_n, ↓asg_sl, ↓opW, ↓cmpW, ↓eqw_int, ↓eqw_str, ↓eqw_tup, ↓eqw_lst, ↓ordW, ↓truW, ↓noOw, ↓ixW, ↓biW, ↓tgW, ↓tgsW, ↓opwW, ↓itW, ↓wipe_nil, ↓wipe_cons, ↓unwipe, ↓isOw, true_and, Bool.and_true, Bool.not_true, Bool.not_false, Bool.false_eq_true, ↓reduceIte, ↓blk_ap]
  have rest : ∀ s5 s6 s7 s8 s9 : Slot, s9 = .un → stsW (callW T (n + 3)) sub (stTl (stTl (stTl d16.b))) ⟨[.fz JAR, .fz (.int o), .fz (.int u), .fz (.int m), .fz (ppD L H), s5, s6, s7, s8, s9], g⟩ { nx := fun r => K .none r.g, rt := fun d r => K d r.g, bk := fun _ => False, ct := fun _ => False, ex := fun e r => X e r.g } := by
    rintro s5 s6 s7 s8 s9 rfl
    simp -implicitDefEqProofs only [↓s_cs, ↓nx_ap, ↓s_nil, ↓s_set, ↓s_par, ↓s_unp, ↓s_ret, ↓s_retN, ↓s_drop, ↓s_if, ↓s_whl, ↓s_for, ↓s_app, ↓s_ext, ↓s_put, ↓s_ja, ↓s_ji, ↓s_js, ↓s_jl, ↓s_rais, ↓s_pass, ↓s_brk, ↓s_cont, ↓s_tri, ↓hd_nil, ↓hd_cons, ↓un_s, ↓un_n, ↓hu_ret, ↓hu_ifr, ↓hx_b, ↓hx_s, ↓hx_i, ↓hx_n, ↓hx_fld, ↓hx_isA, ↓hx_nt, ↓hx_and, ↓hx_ite, ↓hx_lst, ↓hx_tup, ↓hxs_nil, ↓hxs_cons, ↓ra_none, ↓ra_some, ↓x_calldB, ↓x_lw, ↓x_dct0, ↓x_v, ↓x_i, ↓x_b, ↓x_n, ↓x_st, ↓x_g, ↓x_tup, ↓x_lst, ↓x_bin, ↓x_neg, ↓x_nt, ↓x_cmp, ↓x_chain, ↓x_isN, ↓x_notN, ↓x_and, ↓x_or, ↓x_ite, ↓x_ix, ↓x_cut, ↓x_rev, ↓x_stp, ↓x_callB, ↓x_callkB, ↓x_bi, ↓x_comp, ↓x_pop, ↓x_popA, ↓x_jg, ↓x_jn, ↓x_jp, ↓x_scut, ↓x_slen, ↓srcK, ↓srcL, ↓t_yes, ↓t_and', ↓t_or', ↓t_nt', ↓t_ex, ↓e_nil, ↓e_cons, ↓a_nil', ↓a_cons', ↓rs_nil, ↓rs_cons, ↓frzS_v, ↓frzS_n, ↓asgs_nil, ↓asgs_cons, ↓rd_z, ↓rd_s, ↓set_z, ↓set_s, ↓at_mk, ↓isJar_j, ↓der_v, ↓der_n, ↓der_sl, ↓frz_v, ↓frz_n, ↓frz_sl, ↓asg_v, ↓asg_n, ↓asg_sl, ↓opW, ↓cmpW, ↓eqw_int, ↓eqw_str, ↓eqw_tup, ↓eqw_lst, ↓ordW, ↓truW, ↓noOw, ↓ixW, ↓biW, ↓tgW, ↓tgsW, ↓opwW, ↓itW, ↓wipe_nil, ↓wipe_cons, ↓unwipe, ↓isOw, true_and, Bool.and_true, Bool.not_true, Bool.not_false, Bool.false_eq_true, ↓reduceIte, ↓blk_ap, ↓d16, stTl_c]
    rw [k5]
    refine p_near (n := n + 1) a fun L' H' nr' => ?_
    obtain ⟨rfl, rfl⟩ := near_unique a.u0 nr nr'
    try simp -implicitDefEqProofs only [↓s_cs, ↓nx_ap, ↓s_nil, ↓s_set, ↓s_par, ↓s_unp, ↓s_ret, ↓s_retN, ↓s_drop, ↓s_if, ↓s_whl, ↓s_for, ↓s_app, ↓s_ext, ↓s_put, ↓s_ja, ↓s_ji, ↓s_js, ↓s_jl, ↓s_rais, ↓s_pass, ↓s_brk, ↓s_cont, ↓s_tri, ↓hd_nil, ↓hd_cons, ↓un_s, ↓un_n, ↓hu_ret, ↓hu_ifr, ↓hx_b, ↓hx_s, ↓hx_i, ↓hx_n, ↓hx_fld, ↓hx_isA, ↓hx_nt, ↓hx_and, ↓hx_ite, ↓hx_lst, ↓hx_tup, ↓hxs_nil, ↓hxs_cons, ↓ra_none, ↓ra_some, ↓x_calldB, ↓x_lw, ↓x_dct0, ↓x_v, ↓x_i, ↓x_b, ↓x_n, ↓x_st, ↓x_g, ↓x_tup, ↓x_lst, ↓x_bin, ↓x_neg, ↓x_nt, ↓x_cmp, ↓x_chain, ↓x_isN, ↓x_notN, ↓x_and, ↓x_or, ↓x_ite, ↓x_ix, ↓x_cut, ↓x_rev, ↓x_stp, ↓x_callB, ↓x_callkB, ↓x_bi, ↓x_comp, ↓x_pop, ↓x_popA, ↓x_jg, ↓x_jn, ↓x_jp, ↓x_scut, ↓x_slen, ↓srcK, ↓srcL, ↓t_yes, ↓t_and', ↓t_or', ↓t_nt', ↓t_ex, ↓e_nil, ↓e_cons, ↓a_nil', ↓a_cons', ↓rs_nil, ↓rs_cons, ↓frzS_v, ↓frzS_n, ↓asgs_nil, ↓asgs_cons, ↓rd_z, ↓rd_s, ↓set_z, ↓set_s, ↓at_mk, ↓isJar_j, ↓der_v, ↓der_n, ↓der_sl, ↓frz_v, ↓frz_n, ↓frz_sl, ↓asg_v, ↓asg_n, ↓asg_sl, ↓opW, ↓cmpW, ↓eqw_int, ↓eqw_str, ↓eqw_tup, ↓eqw_lst, ↓ordW, ↓truW, ↓noOw, ↓ixW, ↓biW, ↓tgW, ↓tgsW, ↓opwW, ↓itW, ↓wipe_nil, ↓wipe_cons, ↓unwipe, ↓isOw, true_and, Bool.and_true, Bool.not_true, Bool.not_false, Bool.false_eq_true, ↓reduceIte, ↓blk_ap]
    refine p_same (n := n + 2) vs.v (by decide) s900 ?_
    try simp -implicitDefEqProofs only [↓s_cs, ↓nx_ap, ↓s_nil, ↓s_set, ↓s_par, ↓s_unp, ↓s_ret, ↓s_retN, ↓s_drop, ↓s_if, ↓s_whl, ↓s_for, ↓s_app, ↓s_ext, ↓s_put, ↓s_ja, ↓s_ji, ↓s_js, ↓s_jl, ↓s_rais, ↓s_pass, ↓s_brk, ↓s_cont, ↓s_tri, ↓hd_nil, ↓hd_cons, ↓un_s, ↓un_n, ↓hu_ret, ↓hu_ifr, ↓hx_b, ↓hx_s, ↓hx_i, ↓hx_n, ↓hx_fld, ↓hx_isA, ↓hx_nt, ↓hx_and, ↓hx_ite, ↓hx_lst, ↓hx_tup, ↓hxs_nil, ↓hxs_cons, ↓ra_none, ↓ra_some, ↓x_calldB, ↓x_lw, ↓x_dct0, ↓x_v, ↓x_i, ↓x_b, ↓x_n, ↓x_st, ↓x_g, ↓x_tup, ↓x_lst, ↓x_bin, ↓x_neg, ↓x_nt, ↓x_cmp, ↓x_chain, ↓x_isN, ↓x_notN, ↓x_and, ↓x_or, ↓x_ite, ↓x_ix, ↓x_cut, ↓x_rev, ↓x_stp, ↓x_callB, ↓x_callkB, ↓x_bi, ↓x_comp, ↓x_pop, ↓x_popA, ↓x_jg, ↓x_jn, ↓x_jp, ↓x_scut, ↓x_slen, ↓srcK, ↓srcL, ↓t_yes, ↓t_and', ↓t_or', ↓t_nt', ↓t_ex, ↓e_nil, ↓e_cons, ↓a_nil', ↓a_cons', ↓rs_nil, ↓rs_cons, ↓frzS_v, ↓frzS_n, ↓asgs_nil, ↓asgs_cons, ↓rd_z, ↓rd_s, ↓set_z, ↓set_s, ↓at_mk, ↓isJar_j, ↓der_v, ↓der_n, ↓der_sl, ↓frz_v, ↓frz_n, ↓frz_sl, ↓asg_v, ↓asg_n, ↓asg_sl, ↓opW, ↓cmpW, ↓eqw_int, ↓eqw_str, ↓eqw_tup, ↓eqw_lst, ↓ordW, ↓truW, ↓noOw, ↓ixW, ↓biW, ↓tgW, ↓tgsW, ↓opwW, ↓itW, ↓wipe_nil, ↓wipe_cons, ↓unwipe, ↓isOw, true_and, Bool.and_true, Bool.not_true, Bool.not_false, Bool.false_eq_true, ↓reduceIte, ↓blk_ap]
    refine ⟨⟨by decide, by decide⟩, ?_⟩
    refine turns_inv (fun i acc r => ∃ g', r = ⟨[.fz JAR, .fz (.int o), .fz (.int u), .fz (.int m), .fz (ppD L' H'), s5, s6, s7, s8, .un], g'⟩ ∧ GOK g' ∧ acc.length = i ∧ ∀ d ∈ acc, GV d) ⟨g, rfl, hg, rfl, fun d hd => by cases hd⟩ ?_ ?_
    · rintro i d acc r hdd ⟨g1, rfl, hg1, la, va⟩ k2 hk2
      simp -implicitDefEqProofs only [↓s_cs, ↓nx_ap, ↓s_nil, ↓s_set, ↓s_par, ↓s_unp, ↓s_ret, ↓s_retN, ↓s_drop, ↓s_if, ↓s_whl, ↓s_for, ↓s_app, ↓s_ext, ↓s_put, ↓s_ja, ↓s_ji, ↓s_js, ↓s_jl, ↓s_rais, ↓s_pass, ↓s_brk, ↓s_cont, ↓s_tri, ↓hd_nil, ↓hd_cons, ↓un_s, ↓un_n, ↓hu_ret, ↓hu_ifr, ↓hx_b, ↓hx_s, ↓hx_i, ↓hx_n, ↓hx_fld, ↓hx_isA, ↓hx_nt, ↓hx_and, ↓hx_ite, ↓hx_lst, ↓hx_tup, ↓hxs_nil, ↓hxs_cons, ↓ra_none, ↓ra_some, ↓x_calldB, ↓x_lw, ↓x_dct0, ↓x_v, ↓x_i, ↓x_b, ↓x_n, ↓x_st, ↓x_g, ↓x_tup, ↓x_lst, ↓x_bin, ↓x_neg, ↓x_nt, ↓x_cmp, ↓x_chain, ↓x_isN, ↓x_notN, ↓x_and, ↓x_or, ↓x_ite, ↓x_ix, ↓x_cut, ↓x_rev, ↓x_stp, ↓x_callB, ↓x_callkB, ↓x_bi, ↓x_comp, ↓x_pop, ↓x_popA, ↓x_jg, ↓x_jn, ↓x_jp, ↓x_scut, ↓x_slen, ↓srcK, ↓srcL, ↓t_yes, ↓t_and', ↓t_or', ↓t_nt', ↓t_ex, ↓e_nil, ↓e_cons, ↓a_nil', ↓a_cons', ↓rs_nil, ↓rs_cons, ↓frzS_v, ↓frzS_n, ↓asgs_nil, ↓asgs_cons, ↓rd_z, ↓rd_s, ↓set_z, ↓set_s, ↓at_mk, ↓isJar_j, ↓der_v, ↓der_n, ↓der_sl, ↓frz_v, ↓frz_n, ↓frz_sl, ↓asg_v, ↓asg_n, ↓asg_sl, ↓opW, ↓cmpW, ↓eqw_int, ↓eqw_str, ↓eqw_tup, ↓eqw_lst, ↓ordW, ↓truW, ↓noOw, ↓ixW, ↓biW, ↓tgW, ↓tgsW, ↓opwW, ↓itW, ↓wipe_nil, ↓wipe_cons, ↓unwipe, ↓isOw, true_and, Bool.and_true, Bool.not_true, Bool.not_false, Bool.false_eq_true, ↓reduceIte, ↓blk_ap, ↓compF]
      refine p_bent (n := n) ⟨b1, b3, pos.1⟩ ⟨b2_, b4, pos.2⟩ hg1 fun x g2 gx hg2 => ?_
      try simp -implicitDefEqProofs only [↓s_cs, ↓nx_ap, ↓s_nil, ↓s_set, ↓s_par, ↓s_unp, ↓s_ret, ↓s_retN, ↓s_drop, ↓s_if, ↓s_whl, ↓s_for, ↓s_app, ↓s_ext, ↓s_put, ↓s_ja, ↓s_ji, ↓s_js, ↓s_jl, ↓s_rais, ↓s_pass, ↓s_brk, ↓s_cont, ↓s_tri, ↓hd_nil, ↓hd_cons, ↓un_s, ↓un_n, ↓hu_ret, ↓hu_ifr, ↓hx_b, ↓hx_s, ↓hx_i, ↓hx_n, ↓hx_fld, ↓hx_isA, ↓hx_nt, ↓hx_and, ↓hx_ite, ↓hx_lst, ↓hx_tup, ↓hxs_nil, ↓hxs_cons, ↓ra_none, ↓ra_some, ↓x_calldB, ↓x_lw, ↓x_dct0, ↓x_v, ↓x_i, ↓x_b, ↓x_n, ↓x_st, ↓x_g, ↓x_tup, ↓x_lst, ↓x_bin, ↓x_neg, ↓x_nt, ↓x_cmp, ↓x_chain, ↓x_isN, ↓x_notN, ↓x_and, ↓x_or, ↓x_ite, ↓x_ix, ↓x_cut, ↓x_rev, ↓x_stp, ↓x_callB, ↓x_callkB, ↓x_bi, ↓x_comp, ↓x_pop, ↓x_popA, ↓x_jg, ↓x_jn, ↓x_jp, ↓x_scut, ↓x_slen, ↓srcK, ↓srcL, ↓t_yes, ↓t_and', ↓t_or', ↓t_nt', ↓t_ex, ↓e_nil, ↓e_cons, ↓a_nil', ↓a_cons', ↓rs_nil, ↓rs_cons, ↓frzS_v, ↓frzS_n, ↓asgs_nil, ↓asgs_cons, ↓rd_z, ↓rd_s, ↓set_z, ↓set_s, ↓at_mk, ↓isJar_j, ↓der_v, ↓der_n, ↓der_sl, ↓frz_v, ↓frz_n, ↓frz_sl, ↓asg_v, ↓asg_n, ↓asg_sl, ↓opW, ↓cmpW, ↓eqw_int, ↓eqw_str, ↓eqw_tup, ↓eqw_lst, ↓ordW, ↓truW, ↓noOw, ↓ixW, ↓biW, ↓tgW, ↓tgsW, ↓opwW, ↓itW, ↓wipe_nil, ↓wipe_cons, ↓unwipe, ↓isOw, true_and, Bool.and_true, Bool.not_true, Bool.not_false, Bool.false_eq_true, ↓reduceIte, ↓blk_ap]
      refine hk2 _ _ ⟨_, rfl, hg2, by rw [List.length_append, la]; rfl, fun y hy => ?_⟩
      rcases List.mem_append.mp hy with hy | hy
      · exact va y hy
      · simp only [Option.toList, List.mem_singleton] at hy
        subst hy
        exact gx
    · rintro acc r ⟨g1, rfl, hg1, la, va⟩
      have la : acc.length = 7 := la
      try simp -implicitDefEqProofs only [↓s_cs, ↓nx_ap, ↓s_nil, ↓s_set, ↓s_par, ↓s_unp, ↓s_ret, ↓s_retN, ↓s_drop, ↓s_if, ↓s_whl, ↓s_for, ↓s_app, ↓s_ext, ↓s_put, ↓s_ja, ↓s_ji, ↓s_js, ↓s_jl, ↓s_rais, ↓s_pass, ↓s_brk, ↓s_cont, ↓s_tri, ↓hd_nil, ↓hd_cons, ↓un_s, ↓un_n, ↓hu_ret, ↓hu_ifr, ↓hx_b, ↓hx_s, ↓hx_i, ↓hx_n, ↓hx_fld, ↓hx_isA, ↓hx_nt, ↓hx_and, ↓hx_ite, ↓hx_lst, ↓hx_tup, ↓hxs_nil, ↓hxs_cons, ↓ra_none, ↓ra_some, ↓x_calldB, ↓x_lw, ↓x_dct0, ↓x_v, ↓x_i, ↓x_b, ↓x_n, ↓x_st, ↓x_g, ↓x_tup, ↓x_lst, ↓x_bin, ↓x_neg, ↓x_nt, ↓x_cmp, ↓x_chain, ↓x_isN, ↓x_notN, ↓x_and, ↓x_or, ↓x_ite, ↓x_ix, ↓x_cut, ↓x_rev, ↓x_stp, ↓x_callB, ↓x_callkB, ↓x_bi, ↓x_comp, ↓x_pop, ↓x_popA, ↓x_jg, ↓x_jn, ↓x_jp, ↓x_scut, ↓x_slen, ↓srcK, ↓srcL, ↓t_yes, ↓t_and', ↓t_or', ↓t_nt', ↓t_ex, ↓e_nil, ↓e_cons, ↓a_nil', ↓a_cons', ↓rs_nil, ↓rs_cons, ↓frzS_v, ↓frzS_n, ↓asgs_nil, ↓asgs_cons, ↓rd_z, ↓rd_s, ↓set_z, ↓set_s, ↓at_mk, ↓isJar_j, ↓der_v, ↓der_n, ↓der_sl, ↓frz_v, ↓frz_n, ↓frz_sl, ↓asg_v, ↓asg_n, ↓asg_sl, ↓opW, ↓cmpW, ↓eqw_int, ↓eqw_str, ↓eqw_tup, ↓eqw_lst, ↓ordW, ↓truW, ↓noOw, ↓ixW, ↓biW, ↓tgW, ↓tgsW, ↓opwW, ↓itW, ↓wipe_nil, ↓wipe_cons, ↓unwipe, ↓isOw, true_and, Bool.and_true, Bool.not_true, Bool.not_false, Bool.false_eq_true, ↓reduceIte, ↓blk_ap]
      have hb190 : (10 : Nat) ^ 125 < 10 ^ 190 := by decide
      have hb41 : (10 : Nat) ^ 41 < 10 ^ 190 := by decide
      have gvr : GV (ppD L' H') := gv_pp ⟨by omega, by omega⟩ ⟨by omega, by omega⟩
      have all : ∀ d ∈ [ppD L' H'] ++ acc, GV d := fun d hd => by
        rcases List.mem_append.mp hd with hd | hd
        · rw [List.mem_singleton] at hd; subst hd; exact gvr
        · exact va d hd
      have vl : G.Val 6 1000000 (.list ([ppD L' H'] ++ acc)) := (val_lst (dp := 5) (m := 100000) (c := 8) (fun d hd => (all d hd).vs.v) (by rw [List.length_append, la]; show 1 + 7 ≤ 8; decide)).mono (Nat.le_refl _) (by decide)
      refine ⟨by rw [la]; show 1 + 7 ≤ SZ; decide, vl.rp (by decide) s1m ?_⟩
      generalize hvs : [ppD L' H'] ++ acc = vals at all vl
      refine for_inv (fun i r => ∃ s7 s8 : Slot, r = ⟨[.fz JAR, .fz (.int o), .fz (.int u), .fz (.int m), .fz (ppD L' H'), .fz (.list vals), .fz (.str (PyData.shown (.list vals))), s7, s8, .un], g1⟩) ⟨_, _, rfl⟩ ?_ ?_
      · rintro i d r hd ⟨s7, s8, rfl⟩ kk hk
        have gd := all d (List.mem_of_getElem? hd)
        have vd : VS 6 100000 d := gd.vs.mono (by decide) (Nat.le_refl _)
        simp -implicitDefEqProofs only [↓s_cs, ↓nx_ap, ↓s_nil, ↓s_set, ↓s_par, ↓s_unp, ↓s_ret, ↓s_retN, ↓s_drop, ↓s_if, ↓s_whl, ↓s_for, ↓s_app, ↓s_ext, ↓s_put, ↓s_ja, ↓s_ji, ↓s_js, ↓s_jl, ↓s_rais, ↓s_pass, ↓s_brk, ↓s_cont, ↓s_tri, ↓hd_nil, ↓hd_cons, ↓un_s, ↓un_n, ↓hu_ret, ↓hu_ifr, ↓hx_b, ↓hx_s, ↓hx_i, ↓hx_n, ↓hx_fld, ↓hx_isA, ↓hx_nt, ↓hx_and, ↓hx_ite, ↓hx_lst, ↓hx_tup, ↓hxs_nil, ↓hxs_cons, ↓ra_none, ↓ra_some, ↓x_calldB, ↓x_lw, ↓x_dct0, ↓x_v, ↓x_i, ↓x_b, ↓x_n, ↓x_st, ↓x_g, ↓x_tup, ↓x_lst, ↓x_bin, ↓x_neg, ↓x_nt, ↓x_cmp, ↓x_chain, ↓x_isN, ↓x_notN, ↓x_and, ↓x_or, ↓x_ite, ↓x_ix, ↓x_cut, ↓x_rev, ↓x_stp, ↓x_callB, ↓x_callkB, ↓x_bi, ↓x_comp, ↓x_pop, ↓x_popA, ↓x_jg, ↓x_jn, ↓x_jp, ↓x_scut, ↓x_slen, ↓srcK, ↓srcL, ↓t_yes, ↓t_and', ↓t_or', ↓t_nt', ↓t_ex, ↓e_nil, ↓e_cons, ↓a_nil', ↓a_cons', ↓rs_nil, ↓rs_cons, ↓frzS_v, ↓frzS_n, ↓asgs_nil, ↓asgs_cons, ↓rd_z, ↓rd_s, ↓set_z, ↓set_s, ↓at_mk, ↓isJar_j, ↓der_v, ↓der_n, ↓der_sl, ↓frz_v, ↓frz_n, ↓frz_sl, ↓asg_v, ↓asg_n, ↓asg_sl, ↓opW, ↓cmpW, ↓eqw_int, ↓eqw_str, ↓eqw_tup, ↓eqw_lst, ↓ordW, ↓truW, ↓noOw, ↓ixW, ↓biW, ↓tgW, ↓tgsW, ↓opwW, ↓itW, ↓wipe_nil, ↓wipe_cons, ↓unwipe, ↓isOw, true_and, Bool.and_true, Bool.not_true, Bool.not_false, Bool.false_eq_true, ↓reduceIte, ↓blk_ap, ↓forF, ↓d16_1]
        refine p_lfault (n := n) a vd gd.bd fun e he => ?_
        have ve := flt_val he
        try simp -implicitDefEqProofs only [↓s_cs, ↓nx_ap, ↓s_nil, ↓s_set, ↓s_par, ↓s_unp, ↓s_ret, ↓s_retN, ↓s_drop, ↓s_if, ↓s_whl, ↓s_for, ↓s_app, ↓s_ext, ↓s_put, ↓s_ja, ↓s_ji, ↓s_js, ↓s_jl, ↓s_rais, ↓s_pass, ↓s_brk, ↓s_cont, ↓s_tri, ↓hd_nil, ↓hd_cons, ↓un_s, ↓un_n, ↓hu_ret, ↓hu_ifr, ↓hx_b, ↓hx_s, ↓hx_i, ↓hx_n, ↓hx_fld, ↓hx_isA, ↓hx_nt, ↓hx_and, ↓hx_ite, ↓hx_lst, ↓hx_tup, ↓hxs_nil, ↓hxs_cons, ↓ra_none, ↓ra_some, ↓x_calldB, ↓x_lw, ↓x_dct0, ↓x_v, ↓x_i, ↓x_b, ↓x_n, ↓x_st, ↓x_g, ↓x_tup, ↓x_lst, ↓x_bin, ↓x_neg, ↓x_nt, ↓x_cmp, ↓x_chain, ↓x_isN, ↓x_notN, ↓x_and, ↓x_or, ↓x_ite, ↓x_ix, ↓x_cut, ↓x_rev, ↓x_stp, ↓x_callB, ↓x_callkB, ↓x_bi, ↓x_comp, ↓x_pop, ↓x_popA, ↓x_jg, ↓x_jn, ↓x_jp, ↓x_scut, ↓x_slen, ↓srcK, ↓srcL, ↓t_yes, ↓t_and', ↓t_or', ↓t_nt', ↓t_ex, ↓e_nil, ↓e_cons, ↓a_nil', ↓a_cons', ↓rs_nil, ↓rs_cons, ↓frzS_v, ↓frzS_n, ↓asgs_nil, ↓asgs_cons, ↓rd_z, ↓rd_s, ↓set_z, ↓set_s, ↓at_mk, ↓isJar_j, ↓der_v, ↓der_n, ↓der_sl, ↓frz_v, ↓frz_n, ↓frz_sl, ↓asg_v, ↓asg_n, ↓asg_sl, ↓opW, ↓cmpW, ↓eqw_int, ↓eqw_str, ↓eqw_tup, ↓eqw_lst, ↓ordW, ↓truW, ↓noOw, ↓ixW, ↓biW, ↓tgW, ↓tgsW, ↓opwW, ↓itW, ↓wipe_nil, ↓wipe_cons, ↓unwipe, ↓isOw, true_and, Bool.and_true, Bool.not_true, Bool.not_false, Bool.false_eq_true, ↓reduceIte, ↓blk_ap]
        refine p_err (n := n) a nr vd gd.bd fun e' he' => ?_
        obtain rfl := flt_det he he'
        try simp -implicitDefEqProofs only [↓s_cs, ↓nx_ap, ↓s_nil, ↓s_set, ↓s_par, ↓s_unp, ↓s_ret, ↓s_retN, ↓s_drop, ↓s_if, ↓s_whl, ↓s_for, ↓s_app, ↓s_ext, ↓s_put, ↓s_ja, ↓s_ji, ↓s_js, ↓s_jl, ↓s_rais, ↓s_pass, ↓s_brk, ↓s_cont, ↓s_tri, ↓hd_nil, ↓hd_cons, ↓un_s, ↓un_n, ↓hu_ret, ↓hu_ifr, ↓hx_b, ↓hx_s, ↓hx_i, ↓hx_n, ↓hx_fld, ↓hx_isA, ↓hx_nt, ↓hx_and, ↓hx_ite, ↓hx_lst, ↓hx_tup, ↓hxs_nil, ↓hxs_cons, ↓ra_none, ↓ra_some, ↓x_calldB, ↓x_lw, ↓x_dct0, ↓x_v, ↓x_i, ↓x_b, ↓x_n, ↓x_st, ↓x_g, ↓x_tup, ↓x_lst, ↓x_bin, ↓x_neg, ↓x_nt, ↓x_cmp, ↓x_chain, ↓x_isN, ↓x_notN, ↓x_and, ↓x_or, ↓x_ite, ↓x_ix, ↓x_cut, ↓x_rev, ↓x_stp, ↓x_callB, ↓x_callkB, ↓x_bi, ↓x_comp, ↓x_pop, ↓x_popA, ↓x_jg, ↓x_jn, ↓x_jp, ↓x_scut, ↓x_slen, ↓srcK, ↓srcL, ↓t_yes, ↓t_and', ↓t_or', ↓t_nt', ↓t_ex, ↓e_nil, ↓e_cons, ↓a_nil', ↓a_cons', ↓rs_nil, ↓rs_cons, ↓frzS_v, ↓frzS_n, ↓asgs_nil, ↓asgs_cons, ↓rd_z, ↓rd_s, ↓set_z, ↓set_s, ↓at_mk, ↓isJar_j, ↓der_v, ↓der_n, ↓der_sl, ↓frz_v, ↓frz_n, ↓frz_sl, ↓asg_v, ↓asg_n, ↓asg_sl, ↓opW, ↓cmpW, ↓eqw_int, ↓eqw_str, ↓eqw_tup, ↓eqw_lst, ↓ordW, ↓truW, ↓noOw, ↓ixW, ↓biW, ↓tgW, ↓tgsW, ↓opwW, ↓itW, ↓wipe_nil, ↓wipe_cons, ↓unwipe, ↓isOw, true_and, Bool.and_true, Bool.not_true, Bool.not_false, Bool.false_eq_true, ↓reduceIte, ↓blk_ap]
        refine p_same (n := n + 2) ve (by decide) s1000 ?_
        try simp -implicitDefEqProofs only [↓s_cs, ↓nx_ap, ↓s_nil, ↓s_set, ↓s_par, ↓s_unp, ↓s_ret, ↓s_retN, ↓s_drop, ↓s_if, ↓s_whl, ↓s_for, ↓s_app, ↓s_ext, ↓s_put, ↓s_ja, ↓s_ji, ↓s_js, ↓s_jl, ↓s_rais, ↓s_pass, ↓s_brk, ↓s_cont, ↓s_tri, ↓hd_nil, ↓hd_cons, ↓un_s, ↓un_n, ↓hu_ret, ↓hu_ifr, ↓hx_b, ↓hx_s, ↓hx_i, ↓hx_n, ↓hx_fld, ↓hx_isA, ↓hx_nt, ↓hx_and, ↓hx_ite, ↓hx_lst, ↓hx_tup, ↓hxs_nil, ↓hxs_cons, ↓ra_none, ↓ra_some, ↓x_calldB, ↓x_lw, ↓x_dct0, ↓x_v, ↓x_i, ↓x_b, ↓x_n, ↓x_st, ↓x_g, ↓x_tup, ↓x_lst, ↓x_bin, ↓x_neg, ↓x_nt, ↓x_cmp, ↓x_chain, ↓x_isN, ↓x_notN, ↓x_and, ↓x_or, ↓x_ite, ↓x_ix, ↓x_cut, ↓x_rev, ↓x_stp, ↓x_callB, ↓x_callkB, ↓x_bi, ↓x_comp, ↓x_pop, ↓x_popA, ↓x_jg, ↓x_jn, ↓x_jp, ↓x_scut, ↓x_slen, ↓srcK, ↓srcL, ↓t_yes, ↓t_and', ↓t_or', ↓t_nt', ↓t_ex, ↓e_nil, ↓e_cons, ↓a_nil', ↓a_cons', ↓rs_nil, ↓rs_cons, ↓frzS_v, ↓frzS_n, ↓asgs_nil, ↓asgs_cons, ↓rd_z, ↓rd_s, ↓set_z, ↓set_s, ↓at_mk, ↓isJar_j, ↓der_v, ↓der_n, ↓der_sl, ↓frz_v, ↓frz_n, ↓frz_sl, ↓asg_v, ↓asg_n, ↓asg_sl, ↓opW, ↓cmpW, ↓eqw_int, ↓eqw_str, ↓eqw_tup, ↓eqw_lst, ↓ordW, ↓truW, ↓noOw, ↓ixW, ↓biW, ↓tgW, ↓tgsW, ↓opwW, ↓itW, ↓wipe_nil, ↓wipe_cons, ↓unwipe, ↓isOw, true_and, Bool.and_true, Bool.not_true, Bool.not_false, Bool.false_eq_true, ↓reduceIte, ↓blk_ap]
        rw [k15]
        refine p_err (n := n) a nr vd gd.bd fun e2 he2 => ?_
        obtain rfl := flt_det he he2
        try simp -implicitDefEqProofs only [↓s_cs, ↓nx_ap, ↓s_nil, ↓s_set, ↓s_par, ↓s_unp, ↓s_ret, ↓s_retN, ↓s_drop, ↓s_if, ↓s_whl, ↓s_for, ↓s_app, ↓s_ext, ↓s_put, ↓s_ja, ↓s_ji, ↓s_js, ↓s_jl, ↓s_rais, ↓s_pass, ↓s_brk, ↓s_cont, ↓s_tri, ↓hd_nil, ↓hd_cons, ↓un_s, ↓un_n, ↓hu_ret, ↓hu_ifr, ↓hx_b, ↓hx_s, ↓hx_i, ↓hx_n, ↓hx_fld, ↓hx_isA, ↓hx_nt, ↓hx_and, ↓hx_ite, ↓hx_lst, ↓hx_tup, ↓hxs_nil, ↓hxs_cons, ↓ra_none, ↓ra_some, ↓x_calldB, ↓x_lw, ↓x_dct0, ↓x_v, ↓x_i, ↓x_b, ↓x_n, ↓x_st, ↓x_g, ↓x_tup, ↓x_lst, ↓x_bin, ↓x_neg, ↓x_nt, ↓x_cmp, ↓x_chain, ↓x_isN, ↓x_notN, ↓x_and, ↓x_or, ↓x_ite, ↓x_ix, ↓x_cut, ↓x_rev, ↓x_stp, ↓x_callB, ↓x_callkB, ↓x_bi, ↓x_comp, ↓x_pop, ↓x_popA, ↓x_jg, ↓x_jn, ↓x_jp, ↓x_scut, ↓x_slen, ↓srcK, ↓srcL, ↓t_yes, ↓t_and', ↓t_or', ↓t_nt', ↓t_ex, ↓e_nil, ↓e_cons, ↓a_nil', ↓a_cons', ↓rs_nil, ↓rs_cons, ↓frzS_v, ↓frzS_n, ↓asgs_nil, ↓asgs_cons, ↓rd_z, ↓rd_s, ↓set_z, ↓set_s, ↓at_mk, ↓isJar_j, ↓der_v, ↓der_n, ↓der_sl, ↓frz_v, ↓frz_n, ↓frz_sl, ↓asg_v, ↓asg_n, ↓asg_sl, ↓opW, ↓cmpW, ↓eqw_int, ↓eqw_str, ↓eqw_tup, ↓eqw_lst, ↓ordW, ↓truW, ↓noOw, ↓ixW, ↓biW, ↓tgW, ↓tgsW, ↓opwW, ↓itW, ↓wipe_nil, ↓wipe_cons, ↓unwipe, ↓isOw, true_and, Bool.and_true, Bool.not_true, Bool.not_false, Bool.false_eq_true, ↓reduceIte, ↓blk_ap]
        refine p_same (n := n + 2) ve (by decide) s1000 ?_
        try simp -implicitDefEqProofs only [↓s_cs, ↓nx_ap, ↓s_nil, ↓s_set, ↓s_par, ↓s_unp, ↓s_ret, ↓s_retN, ↓s_drop, ↓s_if, ↓s_whl, ↓s_for, ↓s_app, ↓s_ext, ↓s_put, ↓s_ja, ↓s_ji, ↓s_js, ↓s_jl, ↓s_rais, ↓s_pass, ↓s_brk, ↓s_cont, ↓s_tri, ↓hd_nil, ↓hd_cons, ↓un_s, ↓un_n, ↓hu_ret, ↓hu_ifr, ↓hx_b, ↓hx_s, ↓hx_i, ↓hx_n, ↓hx_fld, ↓hx_isA, ↓hx_nt, ↓hx_and, ↓hx_ite, ↓hx_lst, ↓hx_tup, ↓hxs_nil, ↓hxs_cons, ↓ra_none, ↓ra_some, ↓x_calldB, ↓x_lw, ↓x_dct0, ↓x_v, ↓x_i, ↓x_b, ↓x_n, ↓x_st, ↓x_g, ↓x_tup, ↓x_lst, ↓x_bin, ↓x_neg, ↓x_nt, ↓x_cmp, ↓x_chain, ↓x_isN, ↓x_notN, ↓x_and, ↓x_or, ↓x_ite, ↓x_ix, ↓x_cut, ↓x_rev, ↓x_stp, ↓x_callB, ↓x_callkB, ↓x_bi, ↓x_comp, ↓x_pop, ↓x_popA, ↓x_jg, ↓x_jn, ↓x_jp, ↓x_scut, ↓x_slen, ↓srcK, ↓srcL, ↓t_yes, ↓t_and', ↓t_or', ↓t_nt', ↓t_ex, ↓e_nil, ↓e_cons, ↓a_nil', ↓a_cons', ↓rs_nil, ↓rs_cons, ↓frzS_v, ↓frzS_n, ↓asgs_nil, ↓asgs_cons, ↓rd_z, ↓rd_s, ↓set_z, ↓set_s, ↓at_mk, ↓isJar_j, ↓der_v, ↓der_n, ↓der_sl, ↓frz_v, ↓frz_n, ↓frz_sl, ↓asg_v, ↓asg_n, ↓asg_sl, ↓opW, ↓cmpW, ↓eqw_int, ↓eqw_str, ↓eqw_tup, ↓eqw_lst, ↓ordW, ↓truW, ↓noOw, ↓ixW, ↓biW, ↓tgW, ↓tgsW, ↓opwW, ↓itW, ↓wipe_nil, ↓wipe_cons, ↓unwipe, ↓isOw, true_and, Bool.and_true, Bool.not_true, Bool.not_false, Bool.false_eq_true, ↓reduceIte, ↓blk_ap]
        exact hk _ ⟨_, _, rfl⟩
      · rintro r ⟨s7, s8, rfl⟩
        try simp -implicitDefEqProofs only [↓s_cs, ↓nx_ap, ↓s_nil, ↓s_set, ↓s_par, ↓s_unp, ↓s_ret, ↓s_retN, ↓s_drop, ↓s_if, ↓s_whl, ↓s_for, ↓s_app, ↓s_ext, ↓s_put, ↓s_ja, ↓s_ji, ↓s_js, ↓s_jl, ↓s_rais, ↓s_pass, ↓s_brk, ↓s_cont, ↓s_tri, ↓hd_nil, ↓hd_cons, ↓un_s, ↓un_n, ↓hu_ret, ↓hu_ifr, ↓hx_b, ↓hx_s, ↓hx_i, ↓hx_n, ↓hx_fld, ↓hx_isA, ↓hx_nt, ↓hx_and, ↓hx_ite, ↓hx_lst, ↓hx_tup, ↓hxs_nil, ↓hxs_cons, ↓ra_none, ↓ra_some, ↓x_calldB, ↓x_lw, ↓x_dct0, ↓x_v, ↓x_i, ↓x_b, ↓x_n, ↓x_st, ↓x_g, ↓x_tup, ↓x_lst, ↓x_bin, ↓x_neg, ↓x_nt, ↓x_cmp, ↓x_chain, ↓x_isN, ↓x_notN, ↓x_and, ↓x_or, ↓x_ite, ↓x_ix, ↓x_cut, ↓x_rev, ↓x_stp, ↓x_callB, ↓x_callkB, ↓x_bi, ↓x_comp, ↓x_pop, ↓x_popA, ↓x_jg, ↓x_jn, ↓x_jp, ↓x_scut, ↓x_slen, ↓srcK, ↓srcL, ↓t_yes, ↓t_and', ↓t_or', ↓t_nt', ↓t_ex, ↓e_nil, ↓e_cons, ↓a_nil', ↓a_cons', ↓rs_nil, ↓rs_cons, ↓frzS_v, ↓frzS_n, ↓asgs_nil, ↓asgs_cons, ↓rd_z, ↓rd_s, ↓set_z, ↓set_s, ↓at_mk, ↓isJar_j, ↓der_v, ↓der_n, ↓der_sl, ↓frz_v, ↓frz_n, ↓frz_sl, ↓asg_v, ↓asg_n, ↓asg_sl, ↓opW, ↓cmpW, ↓eqw_int, ↓eqw_str, ↓eqw_tup, ↓eqw_lst, ↓ordW, ↓truW, ↓noOw, ↓ixW, ↓biW, ↓tgW, ↓tgsW, ↓opwW, ↓itW, ↓wipe_nil, ↓wipe_cons, ↓unwipe, ↓isOw, true_and, Bool.and_true, Bool.not_true, Bool.not_false, Bool.false_eq_true, ↓reduceIte, ↓blk_ap]
        refine vl.rp (by decide) s1m ?_
        simpa using h g1 hg1
  by_cases q : m ≤ 70
  · rw [if_pos (decide_eq_true q)]
    refine p_nearest (n := n) a q nr ?_
    try simp -implicitDefEqProofs only [↓s_cs, ↓nx_ap, ↓s_nil, ↓s_set, ↓s_par, ↓s_unp, ↓s_ret, ↓s_retN, ↓s_drop, ↓s_if, ↓s_whl, ↓s_for, ↓s_app, ↓s_ext, ↓s_put, ↓s_ja, ↓s_ji, ↓s_js, ↓s_jl, ↓s_rais, ↓s_pass, ↓s_brk, ↓s_cont, ↓s_tri, ↓hd_nil, ↓hd_cons, ↓un_s, ↓un_n, ↓hu_ret, ↓hu_ifr, ↓hx_b, ↓hx_s, ↓hx_i, ↓hx_n, ↓hx_fld, ↓hx_isA, ↓hx_nt, ↓hx_and, ↓hx_ite, ↓hx_lst, ↓hx_tup, ↓hxs_nil, ↓hxs_cons, ↓ra_none, ↓ra_some, ↓x_calldB, ↓x_lw, ↓x_dct0, ↓x_v, ↓x_i, ↓x_b, ↓x_n, ↓x_st, ↓x_g, ↓x_tup, ↓x_lst, ↓x_bin, ↓x_neg, ↓x_nt, ↓x_cmp, ↓x_chain, ↓x_isN, ↓x_notN, ↓x_and, ↓x_or, ↓x_ite, ↓x_ix, ↓x_cut, ↓x_rev, ↓x_stp, ↓x_callB, ↓x_callkB, ↓x_bi, ↓x_comp, ↓x_pop, ↓x_popA, ↓x_jg, ↓x_jn, ↓x_jp, ↓x_scut, ↓x_slen, ↓srcK, ↓srcL, ↓t_yes, ↓t_and', ↓t_or', ↓t_nt', ↓t_ex, ↓e_nil, ↓e_cons, ↓a_nil', ↓a_cons', ↓rs_nil, ↓rs_cons, ↓frzS_v, ↓frzS_n, ↓asgs_nil, ↓asgs_cons, ↓rd_z, ↓rd_s, ↓set_z, ↓set_s, ↓at_mk, ↓isJar_j, ↓der_v, ↓der_n, ↓der_sl, ↓frz_v, ↓frz_n, ↓frz_sl, ↓asg_v, ↓asg_n, ↓asg_sl, ↓opW, ↓cmpW, ↓eqw_int, ↓eqw_str, ↓eqw_tup, ↓eqw_lst, ↓ordW, ↓truW, ↓noOw, ↓ixW, ↓biW, ↓tgW, ↓tgsW, ↓opwW, ↓itW, ↓wipe_nil, ↓wipe_cons, ↓unwipe, ↓isOw, true_and, Bool.and_true, Bool.not_true, Bool.not_false, Bool.false_eq_true, ↓reduceIte, ↓blk_ap]
    refine p_same (n := n + 2) vs.v (by decide) s900 ?_
    try simp -implicitDefEqProofs only [↓s_cs, ↓s_nil, ↓s_set, ↓s_par, ↓s_unp, ↓s_ret, ↓s_retN, ↓s_drop, ↓s_if, ↓s_whl, ↓s_for, ↓s_app, ↓s_ext, ↓s_put, ↓s_ja, ↓s_ji, ↓s_js, ↓s_jl, ↓s_rais, ↓s_pass, ↓s_brk, ↓s_cont, ↓s_tri, ↓hd_nil, ↓hd_cons, ↓un_s, ↓un_n, ↓hu_ret, ↓hu_ifr, ↓hx_b, ↓hx_s, ↓hx_i, ↓hx_n, ↓hx_fld, ↓hx_isA, ↓hx_nt, ↓hx_and, ↓hx_ite, ↓hx_lst, ↓hx_tup, ↓hxs_nil, ↓hxs_cons, ↓ra_none, ↓ra_some, ↓x_calldB, ↓x_lw, ↓x_dct0, ↓x_v, ↓x_i, ↓x_b, ↓x_n, ↓x_st, ↓x_g, ↓x_tup, ↓x_lst, ↓x_bin, ↓x_neg, ↓x_nt, ↓x_cmp, ↓x_chain, ↓x_isN, ↓x_notN, ↓x_and, ↓x_or, ↓x_ite, ↓x_ix, ↓x_cut, ↓x_rev, ↓x_stp, ↓x_callB, ↓x_callkB, ↓x_bi, ↓x_comp, ↓x_pop, ↓x_popA, ↓x_jg, ↓x_jn, ↓x_jp, ↓x_scut, ↓x_slen, ↓srcK, ↓srcL, ↓t_yes, ↓t_and', ↓t_or', ↓t_nt', ↓t_ex, ↓e_nil, ↓e_cons, ↓a_nil', ↓a_cons', ↓rs_nil, ↓rs_cons, ↓frzS_v, ↓frzS_n, ↓asgs_nil, ↓asgs_cons, ↓rd_z, ↓rd_s, ↓set_z, ↓set_s, ↓at_mk, ↓isJar_j, ↓der_v, ↓der_n, ↓der_sl, ↓frz_v, ↓frz_n, ↓frz_sl, ↓asg_v, ↓asg_n, ↓asg_sl, ↓opW, ↓cmpW, ↓eqw_int, ↓eqw_str, ↓eqw_tup, ↓eqw_lst, ↓ordW, ↓truW, ↓noOw, ↓ixW, ↓biW, ↓tgW, ↓tgsW, ↓opwW, ↓itW, ↓wipe_nil, ↓wipe_cons, ↓unwipe, ↓isOw, true_and, Bool.and_true, Bool.not_true, Bool.not_false, Bool.false_eq_true, ↓reduceIte, ↓blk_ap]
    rw [nx_ap]
    exact rest _ _ _ _ _ rfl
  · rw [if_neg (by rw [decide_eq_true_eq]; exact q)]
    rw [nx_ap]
    exact rest _ _ _ _ _ rfl
end G19

-- BLK
set_option linter.all false
set_option maxRecDepth 100000
set_option exponentiation.threshold 200000
namespace G19
open PySem PySem.Spec PyProof.Rows L2 G
def lvl : Nat := 8
theorem law19 {g : Gh} (hg : GOK g) : stsW (callW T lvl) sub bL (lawE nL.length g) { nx := fun _ => False, rt := fun d _ => d = .bool true, bk := fun _ => False, ct := fun _ => False, ex := noX } := by
  have e0 : lawE nL.length g = ⟨[.un, .fz JAR, .un, .un, .un, .un, .un, .un], g⟩ := rfl
  rw [e0]
  have ten : (10 : Int) ^ Int.toNat 40 = 10 ^ 40 := rfl
  have ten2 : (10 : Int) ^ Int.toNat 20 = 10 ^ 20 := rfl
  have p40 : 0 ≤ (40 : Int) ∧ (40 : Int) ≤ 1000000 ∧ Int.natAbs 10 < 2 ^ 64 := ⟨by decide, by decide, by decide⟩
  simp -implicitDefEqProofs only [↓s_cs, ↓nx_ap, ↓s_nil, ↓s_set, ↓s_par, ↓s_unp, ↓s_ret, ↓s_retN, ↓s_drop, ↓s_if, ↓s_whl, ↓s_for, ↓s_app, ↓s_ext, ↓s_put, ↓s_ja, ↓s_ji, ↓s_js, ↓s_jl, ↓s_rais, ↓s_pass, ↓s_brk, ↓s_cont, ↓s_tri, ↓hd_nil, ↓hd_cons, ↓un_s, ↓un_n, ↓hu_ret, ↓hu_ifr, ↓hx_b, ↓hx_s, ↓hx_i, ↓hx_n, ↓hx_fld, ↓hx_isA, ↓hx_nt, ↓hx_and, ↓hx_ite, ↓hx_lst, ↓hx_tup, ↓hxs_nil, ↓hxs_cons, ↓ra_none, ↓ra_some, ↓x_calldB, ↓x_lw, ↓x_dct0, ↓x_v, ↓x_i, ↓x_b, ↓x_n, ↓x_st, ↓x_g, ↓x_tup, ↓x_lst, ↓x_bin, ↓x_neg, ↓x_nt, ↓x_cmp, ↓x_chain, ↓x_isN, ↓x_notN, ↓x_and, ↓x_or, ↓x_ite, ↓x_ix, ↓x_cut, ↓x_rev, ↓x_stp, ↓x_callB, ↓x_callkB, ↓x_bi, ↓x_comp, ↓x_pop, ↓x_popA, ↓x_jg, ↓x_jn, ↓x_jp, ↓x_scut, ↓x_slen, ↓srcK, ↓srcL, ↓t_yes, ↓t_and', ↓t_or', ↓t_nt', ↓t_ex, ↓e_nil, ↓e_cons, ↓a_nil', ↓a_cons', ↓rs_nil, ↓rs_cons, ↓frzS_v, ↓frzS_n, ↓asgs_nil, ↓asgs_cons, ↓rd_z, ↓rd_s, ↓set_z, ↓set_s, ↓at_mk, ↓isJar_j, ↓der_v, ↓der_n, ↓der_sl, ↓frz_v, ↓frz_n, ↓frz_sl, ↓asg_v, ↓asg_n, ↓asg_sl, ↓opW, ↓cmpW, ↓eqw_int, ↓eqw_str, ↓eqw_tup, ↓eqw_lst, ↓ordW, ↓truW, ↓noOw, ↓ixW, ↓biW, ↓tgW, ↓tgsW, ↓opwW, ↓itW, ↓wipe_nil, ↓wipe_cons, ↓unwipe, ↓isOw, true_and, Bool.and_true, Bool.not_true, Bool.not_false, Bool.false_eq_true, ↓reduceIte, ↓blk_ap, ↓bL]
  refine ⟨by decide, for_inv (fun i r => ∃ (s2 s3 s4 s5 s6 s7 : Slot) (g' : Gh), r = ⟨[.un, .fz JAR, s2, s3, s4, s5, s6, s7], g'⟩ ∧ GOK g') ?_ ?_ ?_⟩
  · exact ⟨_, _, _, _, _, _, _, rfl, hg⟩
  · rintro t d r hd ⟨s2, s3, s4, s5, s6, s7, g1, rfl, hg1⟩ kk hk
    obtain ⟨ht, rfl⟩ := range_get hd
    rw [Int.zero_add]
    have after : ∀ (far : Int) (g2 : Gh), 1 ≤ far → far ≤ 10 ^ 40 → GOK g2 → stsW (callW T lvl) sub (stTl bL_1) ⟨[.un, .fz JAR, .fz (.int (t : Int)), .fz (.int far), s4, s5, s6, s7], g2⟩ { nx := kk, rt := fun d _ => d = .bool true, bk := nxS (callW T lvl) sub (stTl bL) { nx := fun _ => False, rt := fun d _ => d = .bool true, bk := fun _ => False, ct := fun _ => False, ex := noX }, ct := kk, ex := noX } := by
      intro far g2 f1 f2 hg2
      have fb : ∀ {x : Int}, 0 ≤ x → x ≤ 10 ^ 41 → x.natAbs < 2 ^ 700 := fun {x} h1 h2 => Nat.lt_of_le_of_lt (show x.natAbs ≤ 10 ^ 41 by omega) (by decide +kernel)
      try simp -implicitDefEqProofs only [↓s_cs, ↓nx_ap, ↓s_nil, ↓s_set, ↓s_par, ↓s_unp, ↓s_ret, ↓s_retN, ↓s_drop, ↓s_if, ↓s_whl, ↓s_for, ↓s_app, ↓s_ext, ↓s_put, ↓s_ja, ↓s_ji, ↓s_js, ↓s_jl, ↓s_rais, ↓s_pass, ↓s_brk, ↓s_cont, ↓s_tri, ↓hd_nil, ↓hd_cons, ↓un_s, ↓un_n, ↓hu_ret, ↓hu_ifr, ↓hx_b, ↓hx_s, ↓hx_i, ↓hx_n, ↓hx_fld, ↓hx_isA, ↓hx_nt, ↓hx_and, ↓hx_ite, ↓hx_lst, ↓hx_tup, ↓hxs_nil, ↓hxs_cons, ↓ra_none, ↓ra_some, ↓x_calldB, ↓x_lw, ↓x_dct0, ↓x_v, ↓x_i, ↓x_b, ↓x_n, ↓x_st, ↓x_g, ↓x_tup, ↓x_lst, ↓x_bin, ↓x_neg, ↓x_nt, ↓x_cmp, ↓x_chain, ↓x_isN, ↓x_notN, ↓x_and, ↓x_or, ↓x_ite, ↓x_ix, ↓x_cut, ↓x_rev, ↓x_stp, ↓x_callB, ↓x_callkB, ↓x_bi, ↓x_comp, ↓x_pop, ↓x_popA, ↓x_jg, ↓x_jn, ↓x_jp, ↓x_scut, ↓x_slen, ↓srcK, ↓srcL, ↓t_yes, ↓t_and', ↓t_or', ↓t_nt', ↓t_ex, ↓e_nil, ↓e_cons, ↓a_nil', ↓a_cons', ↓rs_nil, ↓rs_cons, ↓frzS_v, ↓frzS_n, ↓asgs_nil, ↓asgs_cons, ↓rd_z, ↓rd_s, ↓set_z, ↓set_s, ↓at_mk, ↓isJar_j, ↓der_v, ↓der_n, ↓der_sl, ↓frz_v, ↓frz_n, ↓frz_sl, ↓asg_v, ↓asg_n, ↓asg_sl, ↓opW, ↓cmpW, ↓eqw_int, ↓eqw_str, ↓eqw_tup, ↓eqw_lst, ↓ordW, ↓truW, ↓noOw, ↓ixW, ↓biW, ↓tgW, ↓tgsW, ↓opwW, ↓itW, ↓wipe_nil, ↓wipe_cons, ↓unwipe, ↓isOw, true_and, Bool.and_true, Bool.not_true, Bool.not_false, Bool.false_eq_true, ↓reduceIte, ↓blk_ap, ↓bL_1, stTl_c]
      refine ⟨mulS ⟨by decide, by decide⟩, p_draw (n := 7) hg2 (fb (by omega) (by omega)) fun x g3 x0 x1 hg3 => ?_⟩
      have x1 := x1 (by omega)
      try simp -implicitDefEqProofs only [↓s_cs, ↓nx_ap, ↓s_nil, ↓s_set, ↓s_par, ↓s_unp, ↓s_ret, ↓s_retN, ↓s_drop, ↓s_if, ↓s_whl, ↓s_for, ↓s_app, ↓s_ext, ↓s_put, ↓s_ja, ↓s_ji, ↓s_js, ↓s_jl, ↓s_rais, ↓s_pass, ↓s_brk, ↓s_cont, ↓s_tri, ↓hd_nil, ↓hd_cons, ↓un_s, ↓un_n, ↓hu_ret, ↓hu_ifr, ↓hx_b, ↓hx_s, ↓hx_i, ↓hx_n, ↓hx_fld, ↓hx_isA, ↓hx_nt, ↓hx_and, ↓hx_ite, ↓hx_lst, ↓hx_tup, ↓hxs_nil, ↓hxs_cons, ↓ra_none, ↓ra_some, ↓x_calldB, ↓x_lw, ↓x_dct0, ↓x_v, ↓x_i, ↓x_b, ↓x_n, ↓x_st, ↓x_g, ↓x_tup, ↓x_lst, ↓x_bin, ↓x_neg, ↓x_nt, ↓x_cmp, ↓x_chain, ↓x_isN, ↓x_notN, ↓x_and, ↓x_or, ↓x_ite, ↓x_ix, ↓x_cut, ↓x_rev, ↓x_stp, ↓x_callB, ↓x_callkB, ↓x_bi, ↓x_comp, ↓x_pop, ↓x_popA, ↓x_jg, ↓x_jn, ↓x_jp, ↓x_scut, ↓x_slen, ↓srcK, ↓srcL, ↓t_yes, ↓t_and', ↓t_or', ↓t_nt', ↓t_ex, ↓e_nil, ↓e_cons, ↓a_nil', ↓a_cons', ↓rs_nil, ↓rs_cons, ↓frzS_v, ↓frzS_n, ↓asgs_nil, ↓asgs_cons, ↓rd_z, ↓rd_s, ↓set_z, ↓set_s, ↓at_mk, ↓isJar_j, ↓der_v, ↓der_n, ↓der_sl, ↓frz_v, ↓frz_n, ↓frz_sl, ↓asg_v, ↓asg_n, ↓asg_sl, ↓opW, ↓cmpW, ↓eqw_int, ↓eqw_str, ↓eqw_tup, ↓eqw_lst, ↓ordW, ↓truW, ↓noOw, ↓ixW, ↓biW, ↓tgW, ↓tgsW, ↓opwW, ↓itW, ↓wipe_nil, ↓wipe_cons, ↓unwipe, ↓isOw, true_and, Bool.and_true, Bool.not_true, Bool.not_false, Bool.false_eq_true, ↓reduceIte, ↓blk_ap]
      refine p_draw (n := 7) hg3 (fb (by omega) (by omega)) fun y g4 y0 y1 hg4 => ?_
      have y1 := y1 (by omega)
      try simp -implicitDefEqProofs only [↓s_cs, ↓nx_ap, ↓s_nil, ↓s_set, ↓s_par, ↓s_unp, ↓s_ret, ↓s_retN, ↓s_drop, ↓s_if, ↓s_whl, ↓s_for, ↓s_app, ↓s_ext, ↓s_put, ↓s_ja, ↓s_ji, ↓s_js, ↓s_jl, ↓s_rais, ↓s_pass, ↓s_brk, ↓s_cont, ↓s_tri, ↓hd_nil, ↓hd_cons, ↓un_s, ↓un_n, ↓hu_ret, ↓hu_ifr, ↓hx_b, ↓hx_s, ↓hx_i, ↓hx_n, ↓hx_fld, ↓hx_isA, ↓hx_nt, ↓hx_and, ↓hx_ite, ↓hx_lst, ↓hx_tup, ↓hxs_nil, ↓hxs_cons, ↓ra_none, ↓ra_some, ↓x_calldB, ↓x_lw, ↓x_dct0, ↓x_v, ↓x_i, ↓x_b, ↓x_n, ↓x_st, ↓x_g, ↓x_tup, ↓x_lst, ↓x_bin, ↓x_neg, ↓x_nt, ↓x_cmp, ↓x_chain, ↓x_isN, ↓x_notN, ↓x_and, ↓x_or, ↓x_ite, ↓x_ix, ↓x_cut, ↓x_rev, ↓x_stp, ↓x_callB, ↓x_callkB, ↓x_bi, ↓x_comp, ↓x_pop, ↓x_popA, ↓x_jg, ↓x_jn, ↓x_jp, ↓x_scut, ↓x_slen, ↓srcK, ↓srcL, ↓t_yes, ↓t_and', ↓t_or', ↓t_nt', ↓t_ex, ↓e_nil, ↓e_cons, ↓a_nil', ↓a_cons', ↓rs_nil, ↓rs_cons, ↓frzS_v, ↓frzS_n, ↓asgs_nil, ↓asgs_cons, ↓rd_z, ↓rd_s, ↓set_z, ↓set_s, ↓at_mk, ↓isJar_j, ↓der_v, ↓der_n, ↓der_sl, ↓frz_v, ↓frz_n, ↓frz_sl, ↓asg_v, ↓asg_n, ↓asg_sl, ↓opW, ↓cmpW, ↓eqw_int, ↓eqw_str, ↓eqw_tup, ↓eqw_lst, ↓ordW, ↓truW, ↓noOw, ↓ixW, ↓biW, ↓tgW, ↓tgsW, ↓opwW, ↓itW, ↓wipe_nil, ↓wipe_cons, ↓unwipe, ↓isOw, true_and, Bool.and_true, Bool.not_true, Bool.not_false, Bool.false_eq_true, ↓reduceIte, ↓blk_ap]
      refine p_lowest (n := 6) (by omega) (fb (by omega) (by omega)) ?_
      have gp : 0 < Int.gcd (x - far) (1 + y) := Int.gcd_pos_of_ne_zero_right _ (by omega)
      have cop := Int.gcd_ediv_gcd_ediv_gcd gp
      have e1 : (x - far).fdiv (Int.gcd (x - far) (1 + y) : Nat) = (x - far) / (Int.gcd (x - far) (1 + y) : Nat) := Int.fdiv_eq_ediv_of_nonneg _ (by omega)
      have e2 : (1 + y).fdiv (Int.gcd (x - far) (1 + y) : Nat) = (1 + y) / (Int.gcd (x - far) (1 + y) : Nat) := Int.fdiv_eq_ediv_of_nonneg _ (by omega)
      rw [e1, e2]
      have n1 := Int.natAbs_ediv_le_natAbs (x - far) (Int.gcd (x - far) (1 + y) : Nat)
      have n2 := Int.natAbs_ediv_le_natAbs (1 + y) (Int.gcd (x - far) (1 + y) : Nat)
      have up : 0 < (1 + y) / ((Int.gcd (x - far) (1 + y) : Nat) : Int) := by
        have d2 : ((Int.gcd (x - far) (1 + y) : Nat) : Int) ∣ 1 + y := Int.gcd_dvd_right ..
        exact Int.ediv_pos_of_pos_of_dvd (by omega) (by omega) d2
      generalize (x - far) / ((Int.gcd (x - far) (1 + y) : Nat) : Int) = o at *
      generalize (1 + y) / ((Int.gcd (x - far) (1 + y) : Nat) : Int) = u at *
      try simp -implicitDefEqProofs only [↓s_cs, ↓nx_ap, ↓s_nil, ↓s_set, ↓s_par, ↓s_unp, ↓s_ret, ↓s_retN, ↓s_drop, ↓s_if, ↓s_whl, ↓s_for, ↓s_app, ↓s_ext, ↓s_put, ↓s_ja, ↓s_ji, ↓s_js, ↓s_jl, ↓s_rais, ↓s_pass, ↓s_brk, ↓s_cont, ↓s_tri, ↓hd_nil, ↓hd_cons, ↓un_s, ↓un_n, ↓hu_ret, ↓hu_ifr, ↓hx_b, ↓hx_s, ↓hx_i, ↓hx_n, ↓hx_fld, ↓hx_isA, ↓hx_nt, ↓hx_and, ↓hx_ite, ↓hx_lst, ↓hx_tup, ↓hxs_nil, ↓hxs_cons, ↓ra_none, ↓ra_some, ↓x_calldB, ↓x_lw, ↓x_dct0, ↓x_v, ↓x_i, ↓x_b, ↓x_n, ↓x_st, ↓x_g, ↓x_tup, ↓x_lst, ↓x_bin, ↓x_neg, ↓x_nt, ↓x_cmp, ↓x_chain, ↓x_isN, ↓x_notN, ↓x_and, ↓x_or, ↓x_ite, ↓x_ix, ↓x_cut, ↓x_rev, ↓x_stp, ↓x_callB, ↓x_callkB, ↓x_bi, ↓x_comp, ↓x_pop, ↓x_popA, ↓x_jg, ↓x_jn, ↓x_jp, ↓x_scut, ↓x_slen, ↓srcK, ↓srcL, ↓t_yes, ↓t_and', ↓t_or', ↓t_nt', ↓t_ex, ↓e_nil, ↓e_cons, ↓a_nil', ↓a_cons', ↓rs_nil, ↓rs_cons, ↓frzS_v, ↓frzS_n, ↓asgs_nil, ↓asgs_cons, ↓rd_z, ↓rd_s, ↓set_z, ↓set_s, ↓at_mk, ↓isJar_j, ↓der_v, ↓der_n, ↓der_sl, ↓frz_v, ↓frz_n, ↓frz_sl, ↓asg_v, ↓asg_n, ↓asg_sl, ↓opW, ↓cmpW, ↓eqw_int, ↓eqw_str, ↓eqw_tup, ↓eqw_lst, ↓ordW, ↓truW, ↓noOw, ↓ixW, ↓biW, ↓tgW, ↓tgsW, ↓opwW, ↓itW, ↓wipe_nil, ↓wipe_cons, ↓unwipe, ↓isOw, true_and, Bool.and_true, Bool.not_true, Bool.not_false, Bool.false_eq_true, ↓reduceIte, ↓blk_ap, pD]
      refine p_draw (n := 7) hg4 (by decide) fun z g5 z0 z1 hg5 => ?_
      have z1 := z1 (by decide)
      try simp -implicitDefEqProofs only [↓s_cs, ↓nx_ap, ↓s_nil, ↓s_set, ↓s_par, ↓s_unp, ↓s_ret, ↓s_retN, ↓s_drop, ↓s_if, ↓s_whl, ↓s_for, ↓s_app, ↓s_ext, ↓s_put, ↓s_ja, ↓s_ji, ↓s_js, ↓s_jl, ↓s_rais, ↓s_pass, ↓s_brk, ↓s_cont, ↓s_tri, ↓hd_nil, ↓hd_cons, ↓un_s, ↓un_n, ↓hu_ret, ↓hu_ifr, ↓hx_b, ↓hx_s, ↓hx_i, ↓hx_n, ↓hx_fld, ↓hx_isA, ↓hx_nt, ↓hx_and, ↓hx_ite, ↓hx_lst, ↓hx_tup, ↓hxs_nil, ↓hxs_cons, ↓ra_none, ↓ra_some, ↓x_calldB, ↓x_lw, ↓x_dct0, ↓x_v, ↓x_i, ↓x_b, ↓x_n, ↓x_st, ↓x_g, ↓x_tup, ↓x_lst, ↓x_bin, ↓x_neg, ↓x_nt, ↓x_cmp, ↓x_chain, ↓x_isN, ↓x_notN, ↓x_and, ↓x_or, ↓x_ite, ↓x_ix, ↓x_cut, ↓x_rev, ↓x_stp, ↓x_callB, ↓x_callkB, ↓x_bi, ↓x_comp, ↓x_pop, ↓x_popA, ↓x_jg, ↓x_jn, ↓x_jp, ↓x_scut, ↓x_slen, ↓srcK, ↓srcL, ↓t_yes, ↓t_and', ↓t_or', ↓t_nt', ↓t_ex, ↓e_nil, ↓e_cons, ↓a_nil', ↓a_cons', ↓rs_nil, ↓rs_cons, ↓frzS_v, ↓frzS_n, ↓asgs_nil, ↓asgs_cons, ↓rd_z, ↓rd_s, ↓set_z, ↓set_s, ↓at_mk, ↓isJar_j, ↓der_v, ↓der_n, ↓der_sl, ↓frz_v, ↓frz_n, ↓frz_sl, ↓asg_v, ↓asg_n, ↓asg_sl, ↓opW, ↓cmpW, ↓eqw_int, ↓eqw_str, ↓eqw_tup, ↓eqw_lst, ↓ordW, ↓truW, ↓noOw, ↓ixW, ↓biW, ↓tgW, ↓tgsW, ↓opwW, ↓itW, ↓wipe_nil, ↓wipe_cons, ↓unwipe, ↓isOw, true_and, Bool.and_true, Bool.not_true, Bool.not_false, Bool.false_eq_true, ↓reduceIte, ↓blk_ap]
      refine p_draw (n := 7) hg5 (fb (by omega) (by omega)) fun w g6 w0 w1 hg6 => ?_
      have w1 := w1 (by omega)
      try simp -implicitDefEqProofs only [↓s_cs, ↓nx_ap, ↓s_nil, ↓s_set, ↓s_par, ↓s_unp, ↓s_ret, ↓s_retN, ↓s_drop, ↓s_if, ↓s_whl, ↓s_for, ↓s_app, ↓s_ext, ↓s_put, ↓s_ja, ↓s_ji, ↓s_js, ↓s_jl, ↓s_rais, ↓s_pass, ↓s_brk, ↓s_cont, ↓s_tri, ↓hd_nil, ↓hd_cons, ↓un_s, ↓un_n, ↓hu_ret, ↓hu_ifr, ↓hx_b, ↓hx_s, ↓hx_i, ↓hx_n, ↓hx_fld, ↓hx_isA, ↓hx_nt, ↓hx_and, ↓hx_ite, ↓hx_lst, ↓hx_tup, ↓hxs_nil, ↓hxs_cons, ↓ra_none, ↓ra_some, ↓x_calldB, ↓x_lw, ↓x_dct0, ↓x_v, ↓x_i, ↓x_b, ↓x_n, ↓x_st, ↓x_g, ↓x_tup, ↓x_lst, ↓x_bin, ↓x_neg, ↓x_nt, ↓x_cmp, ↓x_chain, ↓x_isN, ↓x_notN, ↓x_and, ↓x_or, ↓x_ite, ↓x_ix, ↓x_cut, ↓x_rev, ↓x_stp, ↓x_callB, ↓x_callkB, ↓x_bi, ↓x_comp, ↓x_pop, ↓x_popA, ↓x_jg, ↓x_jn, ↓x_jp, ↓x_scut, ↓x_slen, ↓srcK, ↓srcL, ↓t_yes, ↓t_and', ↓t_or', ↓t_nt', ↓t_ex, ↓e_nil, ↓e_cons, ↓a_nil', ↓a_cons', ↓rs_nil, ↓rs_cons, ↓frzS_v, ↓frzS_n, ↓asgs_nil, ↓asgs_cons, ↓rd_z, ↓rd_s, ↓set_z, ↓set_s, ↓at_mk, ↓isJar_j, ↓der_v, ↓der_n, ↓der_sl, ↓frz_v, ↓frz_n, ↓frz_sl, ↓asg_v, ↓asg_n, ↓asg_sl, ↓opW, ↓cmpW, ↓eqw_int, ↓eqw_str, ↓eqw_tup, ↓eqw_lst, ↓ordW, ↓truW, ↓noOw, ↓ixW, ↓biW, ↓tgW, ↓tgsW, ↓opwW, ↓itW, ↓wipe_nil, ↓wipe_cons, ↓unwipe, ↓isOw, true_and, Bool.and_true, Bool.not_true, Bool.not_false, Bool.false_eq_true, ↓reduceIte, ↓blk_ap, ten, ten2]
      refine ⟨p40, p40, ⟨by decide, by decide, by decide⟩, p_draw (n := 7) hg6 (by decide +kernel) fun v g7 v0 v1 hg7 => ?_⟩
      have v1 := v1 (by decide)
      try simp -implicitDefEqProofs only [↓s_cs, ↓nx_ap, ↓s_nil, ↓s_set, ↓s_par, ↓s_unp, ↓s_ret, ↓s_retN, ↓s_drop, ↓s_if, ↓s_whl, ↓s_for, ↓s_app, ↓s_ext, ↓s_put, ↓s_ja, ↓s_ji, ↓s_js, ↓s_jl, ↓s_rais, ↓s_pass, ↓s_brk, ↓s_cont, ↓s_tri, ↓hd_nil, ↓hd_cons, ↓un_s, ↓un_n, ↓hu_ret, ↓hu_ifr, ↓hx_b, ↓hx_s, ↓hx_i, ↓hx_n, ↓hx_fld, ↓hx_isA, ↓hx_nt, ↓hx_and, ↓hx_ite, ↓hx_lst, ↓hx_tup, ↓hxs_nil, ↓hxs_cons, ↓ra_none, ↓ra_some, ↓x_calldB, ↓x_lw, ↓x_dct0, ↓x_v, ↓x_i, ↓x_b, ↓x_n, ↓x_st, ↓x_g, ↓x_tup, ↓x_lst, ↓x_bin, ↓x_neg, ↓x_nt, ↓x_cmp, ↓x_chain, ↓x_isN, ↓x_notN, ↓x_and, ↓x_or, ↓x_ite, ↓x_ix, ↓x_cut, ↓x_rev, ↓x_stp, ↓x_callB, ↓x_callkB, ↓x_bi, ↓x_comp, ↓x_pop, ↓x_popA, ↓x_jg, ↓x_jn, ↓x_jp, ↓x_scut, ↓x_slen, ↓srcK, ↓srcL, ↓t_yes, ↓t_and', ↓t_or', ↓t_nt', ↓t_ex, ↓e_nil, ↓e_cons, ↓a_nil', ↓a_cons', ↓rs_nil, ↓rs_cons, ↓frzS_v, ↓frzS_n, ↓asgs_nil, ↓asgs_cons, ↓rd_z, ↓rd_s, ↓set_z, ↓set_s, ↓at_mk, ↓isJar_j, ↓der_v, ↓der_n, ↓der_sl, ↓frz_v, ↓frz_n, ↓frz_sl, ↓asg_v, ↓asg_n, ↓asg_sl, ↓opW, ↓cmpW, ↓eqw_int, ↓eqw_str, ↓eqw_tup, ↓eqw_lst, ↓ordW, ↓truW, ↓noOw, ↓ixW, ↓biW, ↓tgW, ↓tgsW, ↓opwW, ↓itW, ↓wipe_nil, ↓wipe_cons, ↓unwipe, ↓isOw, true_and, Bool.and_true, Bool.not_true, Bool.not_false, Bool.false_eq_true, ↓reduceIte, ↓blk_ap]
      refine ⟨by show 7 + 2 ≤ SZ; decide, p_pick (n := 6) (.inl rfl) hg7 (show 1 ≤ 9 by decide) (show 9 < 10 ^ 9 by decide) fun q g8 hq hg8 => ?_⟩
      obtain ⟨m, rfl, hm⟩ : ∃ m : Int, q = .int m ∧ 1 ≤ m := by
        have mx : 1 ≤ (if u - 1 > 1 then u - 1 else 1) := by split <;> omega
        simp only [List.cons_append, List.nil_append, List.mem_cons, List.not_mem_nil, or_false] at hq
        rcases hq with rfl | rfl | rfl | rfl | rfl | rfl | rfl | rfl | rfl
        all_goals exact ⟨_, rfl, by first | omega | exact mx | decide⟩
      try simp -implicitDefEqProofs only [↓s_cs, ↓nx_ap, ↓s_nil, ↓s_set, ↓s_par, ↓s_unp, ↓s_ret, ↓s_retN, ↓s_drop, ↓s_if, ↓s_whl, ↓s_for, ↓s_app, ↓s_ext, ↓s_put, ↓s_ja, ↓s_ji, ↓s_js, ↓s_jl, ↓s_rais, ↓s_pass, ↓s_brk, ↓s_cont, ↓s_tri, ↓hd_nil, ↓hd_cons, ↓un_s, ↓un_n, ↓hu_ret, ↓hu_ifr, ↓hx_b, ↓hx_s, ↓hx_i, ↓hx_n, ↓hx_fld, ↓hx_isA, ↓hx_nt, ↓hx_and, ↓hx_ite, ↓hx_lst, ↓hx_tup, ↓hxs_nil, ↓hxs_cons, ↓ra_none, ↓ra_some, ↓x_calldB, ↓x_lw, ↓x_dct0, ↓x_v, ↓x_i, ↓x_b, ↓x_n, ↓x_st, ↓x_g, ↓x_tup, ↓x_lst, ↓x_bin, ↓x_neg, ↓x_nt, ↓x_cmp, ↓x_chain, ↓x_isN, ↓x_notN, ↓x_and, ↓x_or, ↓x_ite, ↓x_ix, ↓x_cut, ↓x_rev, ↓x_stp, ↓x_callB, ↓x_callkB, ↓x_bi, ↓x_comp, ↓x_pop, ↓x_popA, ↓x_jg, ↓x_jn, ↓x_jp, ↓x_scut, ↓x_slen, ↓srcK, ↓srcL, ↓t_yes, ↓t_and', ↓t_or', ↓t_nt', ↓t_ex, ↓e_nil, ↓e_cons, ↓a_nil', ↓a_cons', ↓rs_nil, ↓rs_cons, ↓frzS_v, ↓frzS_n, ↓asgs_nil, ↓asgs_cons, ↓rd_z, ↓rd_s, ↓set_z, ↓set_s, ↓at_mk, ↓isJar_j, ↓der_v, ↓der_n, ↓der_sl, ↓frz_v, ↓frz_n, ↓frz_sl, ↓asg_v, ↓asg_n, ↓asg_sl, ↓opW, ↓cmpW, ↓eqw_int, ↓eqw_str, ↓eqw_tup, ↓eqw_lst, ↓ordW, ↓truW, ↓noOw, ↓ixW, ↓biW, ↓tgW, ↓tgsW, ↓opwW, ↓itW, ↓wipe_nil, ↓wipe_cons, ↓unwipe, ↓isOw, true_and, Bool.and_true, Bool.not_true, Bool.not_false, Bool.false_eq_true, ↓reduceIte, ↓blk_ap]
      have ask : Ask o u (if m < 10 ^ 40 then m else 10 ^ 40) := ⟨by omega, up, by omega, by split <;> omega, by split <;> omega, cop⟩
      refine p_right (n := 4) ask hg8 fun g9 hg9 => ?_
      try simp -implicitDefEqProofs only [↓s_cs, ↓nx_ap, ↓s_nil, ↓s_set, ↓s_par, ↓s_unp, ↓s_ret, ↓s_retN, ↓s_drop, ↓s_if, ↓s_whl, ↓s_for, ↓s_app, ↓s_ext, ↓s_put, ↓s_ja, ↓s_ji, ↓s_js, ↓s_jl, ↓s_rais, ↓s_pass, ↓s_brk, ↓s_cont, ↓s_tri, ↓hd_nil, ↓hd_cons, ↓un_s, ↓un_n, ↓hu_ret, ↓hu_ifr, ↓hx_b, ↓hx_s, ↓hx_i, ↓hx_n, ↓hx_fld, ↓hx_isA, ↓hx_nt, ↓hx_and, ↓hx_ite, ↓hx_lst, ↓hx_tup, ↓hxs_nil, ↓hxs_cons, ↓ra_none, ↓ra_some, ↓x_calldB, ↓x_lw, ↓x_dct0, ↓x_v, ↓x_i, ↓x_b, ↓x_n, ↓x_st, ↓x_g, ↓x_tup, ↓x_lst, ↓x_bin, ↓x_neg, ↓x_nt, ↓x_cmp, ↓x_chain, ↓x_isN, ↓x_notN, ↓x_and, ↓x_or, ↓x_ite, ↓x_ix, ↓x_cut, ↓x_rev, ↓x_stp, ↓x_callB, ↓x_callkB, ↓x_bi, ↓x_comp, ↓x_pop, ↓x_popA, ↓x_jg, ↓x_jn, ↓x_jp, ↓x_scut, ↓x_slen, ↓srcK, ↓srcL, ↓t_yes, ↓t_and', ↓t_or', ↓t_nt', ↓t_ex, ↓e_nil, ↓e_cons, ↓a_nil', ↓a_cons', ↓rs_nil, ↓rs_cons, ↓frzS_v, ↓frzS_n, ↓asgs_nil, ↓asgs_cons, ↓rd_z, ↓rd_s, ↓set_z, ↓set_s, ↓at_mk, ↓isJar_j, ↓der_v, ↓der_n, ↓der_sl, ↓frz_v, ↓frz_n, ↓frz_sl, ↓asg_v, ↓asg_n, ↓asg_sl, ↓opW, ↓cmpW, ↓eqw_int, ↓eqw_str, ↓eqw_tup, ↓eqw_lst, ↓ordW, ↓truW, ↓noOw, ↓ixW, ↓biW, ↓tgW, ↓tgsW, ↓opwW, ↓itW, ↓wipe_nil, ↓wipe_cons, ↓unwipe, ↓isOw, true_and, Bool.and_true, Bool.not_true, Bool.not_false, Bool.false_eq_true, ↓reduceIte, ↓blk_ap]
      exact hk _ ⟨_, _, _, _, _, _, g9, rfl, hg9⟩
    simp -implicitDefEqProofs only [↓s_cs, ↓s_nil, ↓s_set, ↓s_par, ↓s_unp, ↓s_ret, ↓s_retN, ↓s_drop, ↓s_if, ↓s_whl, ↓s_for, ↓s_app, ↓s_ext, ↓s_put, ↓s_ja, ↓s_ji, ↓s_js, ↓s_jl, ↓s_rais, ↓s_pass, ↓s_brk, ↓s_cont, ↓s_tri, ↓hd_nil, ↓hd_cons, ↓un_s, ↓un_n, ↓hu_ret, ↓hu_ifr, ↓hx_b, ↓hx_s, ↓hx_i, ↓hx_n, ↓hx_fld, ↓hx_isA, ↓hx_nt, ↓hx_and, ↓hx_ite, ↓hx_lst, ↓hx_tup, ↓hxs_nil, ↓hxs_cons, ↓ra_none, ↓ra_some, ↓x_calldB, ↓x_lw, ↓x_dct0, ↓x_v, ↓x_i, ↓x_b, ↓x_n, ↓x_st, ↓x_g, ↓x_tup, ↓x_lst, ↓x_bin, ↓x_neg, ↓x_nt, ↓x_cmp, ↓x_chain, ↓x_isN, ↓x_notN, ↓x_and, ↓x_or, ↓x_ite, ↓x_ix, ↓x_cut, ↓x_rev, ↓x_stp, ↓x_callB, ↓x_callkB, ↓x_bi, ↓x_comp, ↓x_pop, ↓x_popA, ↓x_jg, ↓x_jn, ↓x_jp, ↓x_scut, ↓x_slen, ↓srcK, ↓srcL, ↓t_yes, ↓t_and', ↓t_or', ↓t_nt', ↓t_ex, ↓e_nil, ↓e_cons, ↓a_nil', ↓a_cons', ↓rs_nil, ↓rs_cons, ↓frzS_v, ↓frzS_n, ↓asgs_nil, ↓asgs_cons, ↓rd_z, ↓rd_s, ↓set_z, ↓set_s, ↓at_mk, ↓isJar_j, ↓der_v, ↓der_n, ↓der_sl, ↓frz_v, ↓frz_n, ↓frz_sl, ↓asg_v, ↓asg_n, ↓asg_sl, ↓opW, ↓cmpW, ↓eqw_int, ↓eqw_str, ↓eqw_tup, ↓eqw_lst, ↓ordW, ↓truW, ↓noOw, ↓ixW, ↓biW, ↓tgW, ↓tgsW, ↓opwW, ↓itW, ↓wipe_nil, ↓wipe_cons, ↓unwipe, ↓isOw, true_and, Bool.and_true, Bool.not_true, Bool.not_false, Bool.false_eq_true, ↓reduceIte, ↓blk_ap, ↓forF, ↓bL_1]
    by_cases q : (t : Int) < 4
    · rw [if_pos (decide_eq_true q)]
      try simp -implicitDefEqProofs only [↓s_cs, ↓s_nil, ↓s_set, ↓s_par, ↓s_unp, ↓s_ret, ↓s_retN, ↓s_drop, ↓s_if, ↓s_whl, ↓s_for, ↓s_app, ↓s_ext, ↓s_put, ↓s_ja, ↓s_ji, ↓s_js, ↓s_jl, ↓s_rais, ↓s_pass, ↓s_brk, ↓s_cont, ↓s_tri, ↓hd_nil, ↓hd_cons, ↓un_s, ↓un_n, ↓hu_ret, ↓hu_ifr, ↓hx_b, ↓hx_s, ↓hx_i, ↓hx_n, ↓hx_fld, ↓hx_isA, ↓hx_nt, ↓hx_and, ↓hx_ite, ↓hx_lst, ↓hx_tup, ↓hxs_nil, ↓hxs_cons, ↓ra_none, ↓ra_some, ↓x_calldB, ↓x_lw, ↓x_dct0, ↓x_v, ↓x_i, ↓x_b, ↓x_n, ↓x_st, ↓x_g, ↓x_tup, ↓x_lst, ↓x_bin, ↓x_neg, ↓x_nt, ↓x_cmp, ↓x_chain, ↓x_isN, ↓x_notN, ↓x_and, ↓x_or, ↓x_ite, ↓x_ix, ↓x_cut, ↓x_rev, ↓x_stp, ↓x_callB, ↓x_callkB, ↓x_bi, ↓x_comp, ↓x_pop, ↓x_popA, ↓x_jg, ↓x_jn, ↓x_jp, ↓x_scut, ↓x_slen, ↓srcK, ↓srcL, ↓t_yes, ↓t_and', ↓t_or', ↓t_nt', ↓t_ex, ↓e_nil, ↓e_cons, ↓a_nil', ↓a_cons', ↓rs_nil, ↓rs_cons, ↓frzS_v, ↓frzS_n, ↓asgs_nil, ↓asgs_cons, ↓rd_z, ↓rd_s, ↓set_z, ↓set_s, ↓at_mk, ↓isJar_j, ↓der_v, ↓der_n, ↓der_sl, ↓frz_v, ↓frz_n, ↓frz_sl, ↓asg_v, ↓asg_n, ↓asg_sl, ↓opW, ↓cmpW, ↓eqw_int, ↓eqw_str, ↓eqw_tup, ↓eqw_lst, ↓ordW, ↓truW, ↓noOw, ↓ixW, ↓biW, ↓tgW, ↓tgsW, ↓opwW, ↓itW, ↓wipe_nil, ↓wipe_cons, ↓unwipe, ↓isOw, true_and, Bool.and_true, Bool.not_true, Bool.not_false, Bool.false_eq_true, ↓reduceIte, ↓blk_ap, ten]
      refine ⟨p40, p_pick (n := 6) (.inl rfl) hg1 (by decide) (by decide) fun far g2 hf hg2 => ?_⟩
      try simp -implicitDefEqProofs only [↓s_cs, ↓s_nil, ↓s_set, ↓s_par, ↓s_unp, ↓s_ret, ↓s_retN, ↓s_drop, ↓s_if, ↓s_whl, ↓s_for, ↓s_app, ↓s_ext, ↓s_put, ↓s_ja, ↓s_ji, ↓s_js, ↓s_jl, ↓s_rais, ↓s_pass, ↓s_brk, ↓s_cont, ↓s_tri, ↓hd_nil, ↓hd_cons, ↓un_s, ↓un_n, ↓hu_ret, ↓hu_ifr, ↓hx_b, ↓hx_s, ↓hx_i, ↓hx_n, ↓hx_fld, ↓hx_isA, ↓hx_nt, ↓hx_and, ↓hx_ite, ↓hx_lst, ↓hx_tup, ↓hxs_nil, ↓hxs_cons, ↓ra_none, ↓ra_some, ↓x_calldB, ↓x_lw, ↓x_dct0, ↓x_v, ↓x_i, ↓x_b, ↓x_n, ↓x_st, ↓x_g, ↓x_tup, ↓x_lst, ↓x_bin, ↓x_neg, ↓x_nt, ↓x_cmp, ↓x_chain, ↓x_isN, ↓x_notN, ↓x_and, ↓x_or, ↓x_ite, ↓x_ix, ↓x_cut, ↓x_rev, ↓x_stp, ↓x_callB, ↓x_callkB, ↓x_bi, ↓x_comp, ↓x_pop, ↓x_popA, ↓x_jg, ↓x_jn, ↓x_jp, ↓x_scut, ↓x_slen, ↓srcK, ↓srcL, ↓t_yes, ↓t_and', ↓t_or', ↓t_nt', ↓t_ex, ↓e_nil, ↓e_cons, ↓a_nil', ↓a_cons', ↓rs_nil, ↓rs_cons, ↓frzS_v, ↓frzS_n, ↓asgs_nil, ↓asgs_cons, ↓rd_z, ↓rd_s, ↓set_z, ↓set_s, ↓at_mk, ↓isJar_j, ↓der_v, ↓der_n, ↓der_sl, ↓frz_v, ↓frz_n, ↓frz_sl, ↓asg_v, ↓asg_n, ↓asg_sl, ↓opW, ↓cmpW, ↓eqw_int, ↓eqw_str, ↓eqw_tup, ↓eqw_lst, ↓ordW, ↓truW, ↓noOw, ↓ixW, ↓biW, ↓tgW, ↓tgsW, ↓opwW, ↓itW, ↓wipe_nil, ↓wipe_cons, ↓unwipe, ↓isOw, true_and, Bool.and_true, Bool.not_true, Bool.not_false, Bool.false_eq_true, ↓reduceIte, ↓blk_ap]
      simp only [List.mem_cons, List.not_mem_nil, or_false] at hf
      rcases hf with rfl | rfl | rfl | rfl
      all_goals
        try simp -implicitDefEqProofs only [↓s_cs, ↓s_nil, ↓s_set, ↓s_par, ↓s_unp, ↓s_ret, ↓s_retN, ↓s_drop, ↓s_if, ↓s_whl, ↓s_for, ↓s_app, ↓s_ext, ↓s_put, ↓s_ja, ↓s_ji, ↓s_js, ↓s_jl, ↓s_rais, ↓s_pass, ↓s_brk, ↓s_cont, ↓s_tri, ↓hd_nil, ↓hd_cons, ↓un_s, ↓un_n, ↓hu_ret, ↓hu_ifr, ↓hx_b, ↓hx_s, ↓hx_i, ↓hx_n, ↓hx_fld, ↓hx_isA, ↓hx_nt, ↓hx_and, ↓hx_ite, ↓hx_lst, ↓hx_tup, ↓hxs_nil, ↓hxs_cons, ↓ra_none, ↓ra_some, ↓x_calldB, ↓x_lw, ↓x_dct0, ↓x_v, ↓x_i, ↓x_b, ↓x_n, ↓x_st, ↓x_g, ↓x_tup, ↓x_lst, ↓x_bin, ↓x_neg, ↓x_nt, ↓x_cmp, ↓x_chain, ↓x_isN, ↓x_notN, ↓x_and, ↓x_or, ↓x_ite, ↓x_ix, ↓x_cut, ↓x_rev, ↓x_stp, ↓x_callB, ↓x_callkB, ↓x_bi, ↓x_comp, ↓x_pop, ↓x_popA, ↓x_jg, ↓x_jn, ↓x_jp, ↓x_scut, ↓x_slen, ↓srcK, ↓srcL, ↓t_yes, ↓t_and', ↓t_or', ↓t_nt', ↓t_ex, ↓e_nil, ↓e_cons, ↓a_nil', ↓a_cons', ↓rs_nil, ↓rs_cons, ↓frzS_v, ↓frzS_n, ↓asgs_nil, ↓asgs_cons, ↓rd_z, ↓rd_s, ↓set_z, ↓set_s, ↓at_mk, ↓isJar_j, ↓der_v, ↓der_n, ↓der_sl, ↓frz_v, ↓frz_n, ↓frz_sl, ↓asg_v, ↓asg_n, ↓asg_sl, ↓opW, ↓cmpW, ↓eqw_int, ↓eqw_str, ↓eqw_tup, ↓eqw_lst, ↓ordW, ↓truW, ↓noOw, ↓ixW, ↓biW, ↓tgW, ↓tgsW, ↓opwW, ↓itW, ↓wipe_nil, ↓wipe_cons, ↓unwipe, ↓isOw, true_and, Bool.and_true, Bool.not_true, Bool.not_false, Bool.false_eq_true, ↓reduceIte, ↓blk_ap]
        rw [nx_ap]
        exact after _ _ (by decide) (by decide) hg2
    · rw [if_neg (by rw [decide_eq_true_eq]; exact q)]
      try simp -implicitDefEqProofs only [↓s_cs, ↓s_nil, ↓s_set, ↓s_par, ↓s_unp, ↓s_ret, ↓s_retN, ↓s_drop, ↓s_if, ↓s_whl, ↓s_for, ↓s_app, ↓s_ext, ↓s_put, ↓s_ja, ↓s_ji, ↓s_js, ↓s_jl, ↓s_rais, ↓s_pass, ↓s_brk, ↓s_cont, ↓s_tri, ↓hd_nil, ↓hd_cons, ↓un_s, ↓un_n, ↓hu_ret, ↓hu_ifr, ↓hx_b, ↓hx_s, ↓hx_i, ↓hx_n, ↓hx_fld, ↓hx_isA, ↓hx_nt, ↓hx_and, ↓hx_ite, ↓hx_lst, ↓hx_tup, ↓hxs_nil, ↓hxs_cons, ↓ra_none, ↓ra_some, ↓x_calldB, ↓x_lw, ↓x_dct0, ↓x_v, ↓x_i, ↓x_b, ↓x_n, ↓x_st, ↓x_g, ↓x_tup, ↓x_lst, ↓x_bin, ↓x_neg, ↓x_nt, ↓x_cmp, ↓x_chain, ↓x_isN, ↓x_notN, ↓x_and, ↓x_or, ↓x_ite, ↓x_ix, ↓x_cut, ↓x_rev, ↓x_stp, ↓x_callB, ↓x_callkB, ↓x_bi, ↓x_comp, ↓x_pop, ↓x_popA, ↓x_jg, ↓x_jn, ↓x_jp, ↓x_scut, ↓x_slen, ↓srcK, ↓srcL, ↓t_yes, ↓t_and', ↓t_or', ↓t_nt', ↓t_ex, ↓e_nil, ↓e_cons, ↓a_nil', ↓a_cons', ↓rs_nil, ↓rs_cons, ↓frzS_v, ↓frzS_n, ↓asgs_nil, ↓asgs_cons, ↓rd_z, ↓rd_s, ↓set_z, ↓set_s, ↓at_mk, ↓isJar_j, ↓der_v, ↓der_n, ↓der_sl, ↓frz_v, ↓frz_n, ↓frz_sl, ↓asg_v, ↓asg_n, ↓asg_sl, ↓opW, ↓cmpW, ↓eqw_int, ↓eqw_str, ↓eqw_tup, ↓eqw_lst, ↓ordW, ↓truW, ↓noOw, ↓ixW, ↓biW, ↓tgW, ↓tgsW, ↓opwW, ↓itW, ↓wipe_nil, ↓wipe_cons, ↓unwipe, ↓isOw, true_and, Bool.and_true, Bool.not_true, Bool.not_false, Bool.false_eq_true, ↓reduceIte, ↓blk_ap, ten]
      rw [nx_ap]
      exact ⟨p40, after _ _ (by decide) (by decide) hg1⟩
  · rintro r ⟨s2, s3, s4, s5, s6, s7, g1, rfl, hg1⟩
    try simp -implicitDefEqProofs only [↓s_cs, ↓nx_ap, ↓s_nil, ↓s_set, ↓s_par, ↓s_unp, ↓s_ret, ↓s_retN, ↓s_drop, ↓s_if, ↓s_whl, ↓s_for, ↓s_app, ↓s_ext, ↓s_put, ↓s_ja, ↓s_ji, ↓s_js, ↓s_jl, ↓s_rais, ↓s_pass, ↓s_brk, ↓s_cont, ↓s_tri, ↓hd_nil, ↓hd_cons, ↓un_s, ↓un_n, ↓hu_ret, ↓hu_ifr, ↓hx_b, ↓hx_s, ↓hx_i, ↓hx_n, ↓hx_fld, ↓hx_isA, ↓hx_nt, ↓hx_and, ↓hx_ite, ↓hx_lst, ↓hx_tup, ↓hxs_nil, ↓hxs_cons, ↓ra_none, ↓ra_some, ↓x_calldB, ↓x_lw, ↓x_dct0, ↓x_v, ↓x_i, ↓x_b, ↓x_n, ↓x_st, ↓x_g, ↓x_tup, ↓x_lst, ↓x_bin, ↓x_neg, ↓x_nt, ↓x_cmp, ↓x_chain, ↓x_isN, ↓x_notN, ↓x_and, ↓x_or, ↓x_ite, ↓x_ix, ↓x_cut, ↓x_rev, ↓x_stp, ↓x_callB, ↓x_callkB, ↓x_bi, ↓x_comp, ↓x_pop, ↓x_popA, ↓x_jg, ↓x_jn, ↓x_jp, ↓x_scut, ↓x_slen, ↓srcK, ↓srcL, ↓t_yes, ↓t_and', ↓t_or', ↓t_nt', ↓t_ex, ↓e_nil, ↓e_cons, ↓a_nil', ↓a_cons', ↓rs_nil, ↓rs_cons, ↓frzS_v, ↓frzS_n, ↓asgs_nil, ↓asgs_cons, ↓rd_z, ↓rd_s, ↓set_z, ↓set_s, ↓at_mk, ↓isJar_j, ↓der_v, ↓der_n, ↓der_sl, ↓frz_v, ↓frz_n, ↓frz_sl, ↓asg_v, ↓asg_n, ↓asg_sl, ↓opW, ↓cmpW, ↓eqw_int, ↓eqw_str, ↓eqw_tup, ↓eqw_lst, ↓ordW, ↓truW, ↓noOw, ↓ixW, ↓biW, ↓tgW, ↓tgsW, ↓opwW, ↓itW, ↓wipe_nil, ↓wipe_cons, ↓unwipe, ↓isOw, true_and, Bool.and_true, Bool.not_true, Bool.not_false, Bool.false_eq_true, ↓reduceIte, ↓blk_ap]
theorem core : ∀ ns : List Int, ns.length ≤ 63 → mkW (fun _ _ _ _ _ => False) sub n0.length mk0 (SCR ns :: cs0.map .int) [] fun g => stsW (callW (tbOf dfs sub) lvl) (tbOf dfs sub).sub bL (lawE nL.length g) { nx := fun _ => False, rt := fun d _ => d = .bool true, bk := fun _ => False, ct := fun _ => False, ex := noX } :=
  fun _ _ => deckW fun _ hg => law19 hg
end G19

set_option linter.all false
set_option maxRecDepth 100000
namespace G19
open PySem PySem.Spec PyProof.Rows L2 G
theorem all_mk {l : PySem.W.OpenLaw} {w : World} {K : PySem.W.Frag} {h : Heap} {mg : Str → Option Value} {fa : Addr} (X : K.In h) (Gn : h.Ns mainGlobals mg) (hfa : mg "law" = some (.ref fa)) {fL fM : Addr}
    {odL anL : Option Addr} {slL : Array (Option Value)} {ocL kVL dcL pmL cdL ctL : Value}
    {odM anM : Option Addr} {slM : Array (Option Value)} {ocM kVM dcM pmM cdM ctM : Value}
    {od0 an0 : Option Addr} {sl0 : Array (Option Value)} {oc0 kV0 dc0 pm0 cd0 ct0 : Value}
    {od1 an1 : Option Addr} {sl1 : Array (Option Value)} {oc1 kV1 dc1 pm1 cd1 ct1 : Value}
    {od2 an2 : Option Addr} {sl2 : Array (Option Value)} {oc2 kV2 dc2 pm2 cd2 ct2 : Value}
    {od3 an3 : Option Addr} {sl3 : Array (Option Value)} {oc3 kV3 dc3 pm3 cd3 ct3 : Value}
    {od4 an4 : Option Addr} {sl4 : Array (Option Value)} {oc4 kV4 dc4 pm4 cd4 ct4 : Value}
    {od5 an5 : Option Addr} {sl5 : Array (Option Value)} {oc5 kV5 dc5 pm5 cd5 ct5 : Value}
    {od6 an6 : Option Addr} {sl6 : Array (Option Value)} {oc6 kV6 dc6 pm6 cd6 ct6 : Value}
    {od7 an7 : Option Addr} {sl7 : Array (Option Value)} {oc7 kV7 dc7 pm7 cd7 ct7 : Value}
    {od8 an8 : Option Addr} {sl8 : Array (Option Value)} {oc8 kV8 dc8 pm8 cd8 ct8 : Value}
    {od9 an9 : Option Addr} {sl9 : Array (Option Value)} {oc9 kV9 dc9 pm9 cd9 ct9 : Value}
    {od10 an10 : Option Addr} {sl10 : Array (Option Value)} {oc10 kV10 dc10 pm10 cd10 ct10 : Value}
    {od11 an11 : Option Addr} {sl11 : Array (Option Value)} {oc11 kV11 dc11 pm11 cd11 ct11 : Value}
    {od12 an12 : Option Addr} {sl12 : Array (Option Value)} {oc12 kV12 dc12 pm12 cd12 ct12 : Value}
    {od13 an13 : Option Addr} {sl13 : Array (Option Value)} {oc13 kV13 dc13 pm13 cd13 ct13 : Value}
    {od14 an14 : Option Addr} {sl14 : Array (Option Value)} {oc14 kV14 dc14 pm14 cd14 ct14 : Value}
    {od15 an15 : Option Addr} {sl15 : Array (Option Value)} {oc15 kV15 dc15 pm15 cd15 ct15 : Value}
    {od16 an16 : Option Addr} {sl16 : Array (Option Value)} {oc16 kV16 dc16 pm16 cd16 ct16 : Value}
    {f0 f1 f2 f3 f4 f5 f6 f7 f8 f9 f10 f11 f12 f13 f14 f15 f16 : Addr}
    (aL : PySem.W.nsIn K mainGlobals "law" = some (some (.ref fL)))
    (lL : K.lookup fL = some ⟨ocL, odL, .func (PySem.W.fnOf "law" "law" (defArgs stL) (defBody stL) (defScope stL) .none kVL dcL pmL anL cdL ctL), slL⟩)
    (cL_ : PySem.W.codeIn K cdL "law" = true)
    (kL_ : PySem.W.keepIn K (.ref fL) = true)
    (aM : PySem.W.nsIn K mainGlobals mkN = some (some (.ref fM)))
    (lM : K.lookup fM = some ⟨ocM, odM, .func (PySem.W.fnOf mkN mkN (defArgs stM) (defBody stM) (defScope stM) .none kVM dcM pmM anM cdM ctM), slM⟩)
    (cM_ : PySem.W.codeIn K cdM mkN = true)
    (kM_ : PySem.W.keepIn K (.ref fM) = true)
    (a0 : PySem.W.nsIn K mainGlobals d0.nm = some (some (.ref f0)))
    (l0 : K.lookup f0 = some ⟨oc0, od0, .func (PySem.W.fnOf d0.nm d0.nm (defArgs st0) (defBody st0) (defScope st0) .none kV0 dc0 pm0 an0 cd0 ct0), sl0⟩)
    (c0_ : PySem.W.codeIn K cd0 d0.nm = true)
    (k0_ : PySem.W.keepIn K (.ref f0) = true)
    (a1 : PySem.W.nsIn K mainGlobals d1.nm = some (some (.ref f1)))
    (l1 : K.lookup f1 = some ⟨oc1, od1, .func (PySem.W.fnOf d1.nm d1.nm (defArgs st1) (defBody st1) (defScope st1) .none kV1 dc1 pm1 an1 cd1 ct1), sl1⟩)
    (c1_ : PySem.W.codeIn K cd1 d1.nm = true)
    (k1_ : PySem.W.keepIn K (.ref f1) = true)
    (a2 : PySem.W.nsIn K mainGlobals d2.nm = some (some (.ref f2)))
    (l2 : K.lookup f2 = some ⟨oc2, od2, .func (PySem.W.fnOf d2.nm d2.nm (defArgs st2) (defBody st2) (defScope st2) .none kV2 dc2 pm2 an2 cd2 ct2), sl2⟩)
    (c2_ : PySem.W.codeIn K cd2 d2.nm = true)
    (k2_ : PySem.W.keepIn K (.ref f2) = true)
    (a3 : PySem.W.nsIn K mainGlobals d3.nm = some (some (.ref f3)))
    (l3 : K.lookup f3 = some ⟨oc3, od3, .func (PySem.W.fnOf d3.nm d3.nm (defArgs st3) (defBody st3) (defScope st3) .none kV3 dc3 pm3 an3 cd3 ct3), sl3⟩)
    (c3_ : PySem.W.codeIn K cd3 d3.nm = true)
    (k3_ : PySem.W.keepIn K (.ref f3) = true)
    (a4 : PySem.W.nsIn K mainGlobals d4.nm = some (some (.ref f4)))
    (l4 : K.lookup f4 = some ⟨oc4, od4, .func (PySem.W.fnOf d4.nm d4.nm (defArgs st4) (defBody st4) (defScope st4) .none kV4 dc4 pm4 an4 cd4 ct4), sl4⟩)
    (c4_ : PySem.W.codeIn K cd4 d4.nm = true)
    (k4_ : PySem.W.keepIn K (.ref f4) = true)
    (a5 : PySem.W.nsIn K mainGlobals d5.nm = some (some (.ref f5)))
    (l5 : K.lookup f5 = some ⟨oc5, od5, .func (PySem.W.fnOf d5.nm d5.nm (defArgs st5) (defBody st5) (defScope st5) .none kV5 dc5 pm5 an5 cd5 ct5), sl5⟩)
    (c5_ : PySem.W.codeIn K cd5 d5.nm = true)
    (k5_ : PySem.W.keepIn K (.ref f5) = true)
    (a6 : PySem.W.nsIn K mainGlobals d6.nm = some (some (.ref f6)))
    (l6 : K.lookup f6 = some ⟨oc6, od6, .func (PySem.W.fnOf d6.nm d6.nm (defArgs st6) (defBody st6) (defScope st6) .none kV6 dc6 pm6 an6 cd6 ct6), sl6⟩)
    (c6_ : PySem.W.codeIn K cd6 d6.nm = true)
    (k6_ : PySem.W.keepIn K (.ref f6) = true)
    (a7 : PySem.W.nsIn K mainGlobals d7.nm = some (some (.ref f7)))
    (l7 : K.lookup f7 = some ⟨oc7, od7, .func (PySem.W.fnOf d7.nm d7.nm (defArgs st7) (defBody st7) (defScope st7) .none kV7 dc7 pm7 an7 cd7 ct7), sl7⟩)
    (c7_ : PySem.W.codeIn K cd7 d7.nm = true)
    (k7_ : PySem.W.keepIn K (.ref f7) = true)
    (a8 : PySem.W.nsIn K mainGlobals d8.nm = some (some (.ref f8)))
    (l8 : K.lookup f8 = some ⟨oc8, od8, .func (PySem.W.fnOf d8.nm d8.nm (defArgs st8) (defBody st8) (defScope st8) .none kV8 dc8 pm8 an8 cd8 ct8), sl8⟩)
    (c8_ : PySem.W.codeIn K cd8 d8.nm = true)
    (k8_ : PySem.W.keepIn K (.ref f8) = true)
    (a9 : PySem.W.nsIn K mainGlobals d9.nm = some (some (.ref f9)))
    (l9 : K.lookup f9 = some ⟨oc9, od9, .func (PySem.W.fnOf d9.nm d9.nm (defArgs st9) (defBody st9) (defScope st9) .none kV9 dc9 pm9 an9 cd9 ct9), sl9⟩)
    (c9_ : PySem.W.codeIn K cd9 d9.nm = true)
    (k9_ : PySem.W.keepIn K (.ref f9) = true)
    (a10 : PySem.W.nsIn K mainGlobals d10.nm = some (some (.ref f10)))
    (l10 : K.lookup f10 = some ⟨oc10, od10, .func (PySem.W.fnOf d10.nm d10.nm (defArgs st10) (defBody st10) (defScope st10) .none kV10 dc10 pm10 an10 cd10 ct10), sl10⟩)
    (c10_ : PySem.W.codeIn K cd10 d10.nm = true)
    (k10_ : PySem.W.keepIn K (.ref f10) = true)
    (a11 : PySem.W.nsIn K mainGlobals d11.nm = some (some (.ref f11)))
    (l11 : K.lookup f11 = some ⟨oc11, od11, .func (PySem.W.fnOf d11.nm d11.nm (defArgs st11) (defBody st11) (defScope st11) .none kV11 dc11 pm11 an11 cd11 ct11), sl11⟩)
    (c11_ : PySem.W.codeIn K cd11 d11.nm = true)
    (k11_ : PySem.W.keepIn K (.ref f11) = true)
    (a12 : PySem.W.nsIn K mainGlobals d12.nm = some (some (.ref f12)))
    (l12 : K.lookup f12 = some ⟨oc12, od12, .func (PySem.W.fnOf d12.nm d12.nm (defArgs st12) (defBody st12) (defScope st12) .none kV12 dc12 pm12 an12 cd12 ct12), sl12⟩)
    (c12_ : PySem.W.codeIn K cd12 d12.nm = true)
    (k12_ : PySem.W.keepIn K (.ref f12) = true)
    (a13 : PySem.W.nsIn K mainGlobals d13.nm = some (some (.ref f13)))
    (l13 : K.lookup f13 = some ⟨oc13, od13, .func (PySem.W.fnOf d13.nm d13.nm (defArgs st13) (defBody st13) (defScope st13) .none kV13 dc13 pm13 an13 cd13 ct13), sl13⟩)
    (c13_ : PySem.W.codeIn K cd13 d13.nm = true)
    (k13_ : PySem.W.keepIn K (.ref f13) = true)
    (a14 : PySem.W.nsIn K mainGlobals d14.nm = some (some (.ref f14)))
    (l14 : K.lookup f14 = some ⟨oc14, od14, .func (PySem.W.fnOf d14.nm d14.nm (defArgs st14) (defBody st14) (defScope st14) .none kV14 dc14 pm14 an14 cd14 ct14), sl14⟩)
    (c14_ : PySem.W.codeIn K cd14 d14.nm = true)
    (k14_ : PySem.W.keepIn K (.ref f14) = true)
    (a15 : PySem.W.nsIn K mainGlobals d15.nm = some (some (.ref f15)))
    (l15 : K.lookup f15 = some ⟨oc15, od15, .func (PySem.W.fnOf d15.nm d15.nm (defArgs st15) (defBody st15) (defScope st15) .none kV15 dc15 pm15 an15 cd15 ct15), sl15⟩)
    (c15_ : PySem.W.codeIn K cd15 d15.nm = true)
    (k15_ : PySem.W.keepIn K (.ref f15) = true)
    (a16 : PySem.W.nsIn K mainGlobals d16.nm = some (some (.ref f16)))
    (l16 : K.lookup f16 = some ⟨oc16, od16, .func (PySem.W.fnOf d16.nm d16.nm (defArgs st16) (defBody st16) (defScope st16) .none kV16 dc16 pm16 an16 cd16 ct16), sl16⟩)
    (c16_ : PySem.W.codeIn K cd16 d16.nm = true)
    (k16_ : PySem.W.keepIn K (.ref f16) = true)
    (gC : PySem.W.nsIn K mainGlobals "gcd" = some (some (.builtin "math.gcd")))
    (z : FreeAt K cf.free) (z0 : FreeAt K cf0.free) (k : IntsAt K cf.consts) (k0 : IntsAt K cf0.consts) :
    ∃ fd : FuncData, (∀ (s : Shared) (u : Value), BindsTo s fd ⟨[u], []⟩ [("script", u)]) ∧ ∀ b0 : Heap, K.In b0 → b0.Ns mainGlobals mg → LawG l.prog w K mg b0 (lvl + 2) fa fd "script" 63 := by
  have AL : DefAt K "law" stL [] fL := ⟨⟨_, _, _, _, _, _, _, _, _, _, aL, lL, cL_, kL_, .inl ⟨rfl, rfl⟩⟩⟩
  have AM : DefAt K mkN stM [] fM := ⟨⟨_, _, _, _, _, _, _, _, _, _, aM, lM, cM_, kM_, .inl ⟨rfl, rfl⟩⟩⟩
  have A0 : DefAt K d0.nm st0 [] f0 := ⟨⟨_, _, _, _, _, _, _, _, _, _, a0, l0, c0_, k0_, .inl ⟨rfl, rfl⟩⟩⟩
  have A1 : DefAt K d1.nm st1 [] f1 := ⟨⟨_, _, _, _, _, _, _, _, _, _, a1, l1, c1_, k1_, .inl ⟨rfl, rfl⟩⟩⟩
  have A2 : DefAt K d2.nm st2 [] f2 := ⟨⟨_, _, _, _, _, _, _, _, _, _, a2, l2, c2_, k2_, .inl ⟨rfl, rfl⟩⟩⟩
  have A3 : DefAt K d3.nm st3 [] f3 := ⟨⟨_, _, _, _, _, _, _, _, _, _, a3, l3, c3_, k3_, .inl ⟨rfl, rfl⟩⟩⟩
  have A4 : DefAt K d4.nm st4 [] f4 := ⟨⟨_, _, _, _, _, _, _, _, _, _, a4, l4, c4_, k4_, .inl ⟨rfl, rfl⟩⟩⟩
  have A5 : DefAt K d5.nm st5 [] f5 := ⟨⟨_, _, _, _, _, _, _, _, _, _, a5, l5, c5_, k5_, .inl ⟨rfl, rfl⟩⟩⟩
  have A6 : DefAt K d6.nm st6 [] f6 := ⟨⟨_, _, _, _, _, _, _, _, _, _, a6, l6, c6_, k6_, .inl ⟨rfl, rfl⟩⟩⟩
  have A7 : DefAt K d7.nm st7 [] f7 := ⟨⟨_, _, _, _, _, _, _, _, _, _, a7, l7, c7_, k7_, .inl ⟨rfl, rfl⟩⟩⟩
  have A8 : DefAt K d8.nm st8 [] f8 := ⟨⟨_, _, _, _, _, _, _, _, _, _, a8, l8, c8_, k8_, .inl ⟨rfl, rfl⟩⟩⟩
  have A9 : DefAt K d9.nm st9 [] f9 := ⟨⟨_, _, _, _, _, _, _, _, _, _, a9, l9, c9_, k9_, .inl ⟨rfl, rfl⟩⟩⟩
  have A10 : DefAt K d10.nm st10 [] f10 := ⟨⟨_, _, _, _, _, _, _, _, _, _, a10, l10, c10_, k10_, .inl ⟨rfl, rfl⟩⟩⟩
  have A11 : DefAt K d11.nm st11 [] f11 := ⟨⟨_, _, _, _, _, _, _, _, _, _, a11, l11, c11_, k11_, .inl ⟨rfl, rfl⟩⟩⟩
  have A12 : DefAt K d12.nm st12 [] f12 := ⟨⟨_, _, _, _, _, _, _, _, _, _, a12, l12, c12_, k12_, .inl ⟨rfl, rfl⟩⟩⟩
  have A13 : DefAt K d13.nm st13 [] f13 := ⟨⟨_, _, _, _, _, _, _, _, _, _, a13, l13, c13_, k13_, .inl ⟨rfl, rfl⟩⟩⟩
  have A14 : DefAt K d14.nm st14 [] f14 := ⟨⟨_, _, _, _, _, _, _, _, _, _, a14, l14, c14_, k14_, .inl ⟨rfl, rfl⟩⟩⟩
  have A15 : DefAt K d15.nm st15 [] f15 := ⟨⟨_, _, _, _, _, _, _, _, _, _, a15, l15, c15_, k15_, .inl ⟨rfl, rfl⟩⟩⟩
  have A16 : DefAt K d16.nm st16 [] f16 := ⟨⟨_, _, _, _, _, _, _, _, _, _, a16, l16, c16_, k16_, .inl ⟨rfl, rfl⟩⟩⟩
  have e := hfa.symm.trans (PySem.W.mg_of X Gn aL)
  cases e
  have D : DefsAt K cf [(d0, st0, f0), (d1, st1, f1), (d2, st2, f2), (d3, st3, f3), (d4, st4, f4), (d5, st5, f5), (d6, st6, f6), (d7, st7, f7), (d8, st8, f8), (d9, st9, f9), (d10, st10, f10), (d11, st11, f11), (d12, st12, f12), (d13, st13, f13), (d14, st14, f14), (d15, st15, f15), (d16, st16, f16)] := (.cons A0 c0 (.cons A1 c1 (.cons A2 c2 (.cons A3 c3 (.cons A4 c4 (.cons A5 c5 (.cons A6 c6 (.cons A7 c7 (.cons A8 c8 (.cons A9 c9 (.cons A10 c10 (.cons A11 c11 (.cons A12 c12 (.cons A13 c13 (.cons A14 c14 (.cons A15 c15 (.cons A16 c16 .nil)))))))))))))))))
  have EX : ExcsK l.prog K cf.excs [] := .nil
  have SM : SubM K sub [] 0 [] := .nil
  exact law_df (T := tbOf dfs sub) tbOf_ok (by decide) AL cL (facts_of X Gn z (fun _ => PySem.W.mg_of X Gn gC) k) rfl (fun dk h => by cases h; rfl) AM cM rfl (facts_of X Gn z0 (fun h => by cases h) k0) (excF_of X Gn EX SM rfl) _ (hd_of D rfl rfl rfl) core
end G19
open PySem PySem.W PyProof.Rows
set_option maxHeartbeats 0 in
theorem PySem.Challenge.cw_gridfields_k19_whole_nearest_fractions_holds : PySem.Challenge.rw_gridfields_k19_whole_nearest_fractions.Holds := by
  w_on; o_law; k_head; (case hw => w_witness2)
  k_fill
  refine G.walk_g (l := PySem.Challenge.rw_gridfields_k19_whole_nearest_fractions) (n := 63) (k := G19.lvl + 2) (x := "script") rfl (by decide) rfl ⟨rfl, by decide, by decide⟩ (fun w h Y => PySem.W.kIn_of Y) ?F
  case F =>
    intro w mg fa h KX Gm hmg
    refine' G19.all_mk KX Gm hmg ?aL ?lL ?cL_ ?kL_ ?aM ?lM ?cM_ ?kM_ ?a0 ?l0 ?c0_ ?k0_ ?a1 ?l1 ?c1_ ?k1_ ?a2 ?l2 ?c2_ ?k2_ ?a3 ?l3 ?c3_ ?k3_ ?a4 ?l4 ?c4_ ?k4_ ?a5 ?l5 ?c5_ ?k5_ ?a6 ?l6 ?c6_ ?k6_ ?a7 ?l7 ?c7_ ?k7_ ?a8 ?l8 ?c8_ ?k8_ ?a9 ?l9 ?c9_ ?k9_ ?a10 ?l10 ?c10_ ?k10_ ?a11 ?l11 ?c11_ ?k11_ ?a12 ?l12 ?c12_ ?k12_ ?a13 ?l13 ?c13_ ?k13_ ?a14 ?l14 ?c14_ ?k14_ ?a15 ?l15 ?c15_ ?k15_ ?a16 ?l16 ?c16_ ?k16_ ?gC ?zz ?zz0 ?kk ?kk0
    (case aL => k_is)
    (case lL => k_is)
    (case cL_ => k_is)
    (case kL_ => k_is)
    (case aM => k_is)
    (case lM => k_is)
    (case cM_ => k_is)
    (case kM_ => k_is)
    (case a0 => k_is)
    (case l0 => k_is)
    (case c0_ => k_is)
    (case k0_ => k_is)
    (case a1 => k_is)
    (case l1 => k_is)
    (case c1_ => k_is)
    (case k1_ => k_is)
    (case a2 => k_is)
    (case l2 => k_is)
    (case c2_ => k_is)
    (case k2_ => k_is)
    (case a3 => k_is)
    (case l3 => k_is)
    (case c3_ => k_is)
    (case k3_ => k_is)
    (case a4 => k_is)
    (case l4 => k_is)
    (case c4_ => k_is)
    (case k4_ => k_is)
    (case a5 => k_is)
    (case l5 => k_is)
    (case c5_ => k_is)
    (case k5_ => k_is)
    (case a6 => k_is)
    (case l6 => k_is)
    (case c6_ => k_is)
    (case k6_ => k_is)
    (case a7 => k_is)
    (case l7 => k_is)
    (case c7_ => k_is)
    (case k7_ => k_is)
    (case a8 => k_is)
    (case l8 => k_is)
    (case c8_ => k_is)
    (case k8_ => k_is)
    (case a9 => k_is)
    (case l9 => k_is)
    (case c9_ => k_is)
    (case k9_ => k_is)
    (case a10 => k_is)
    (case l10 => k_is)
    (case c10_ => k_is)
    (case k10_ => k_is)
    (case a11 => k_is)
    (case l11 => k_is)
    (case c11_ => k_is)
    (case k11_ => k_is)
    (case a12 => k_is)
    (case l12 => k_is)
    (case c12_ => k_is)
    (case k12_ => k_is)
    (case a13 => k_is)
    (case l13 => k_is)
    (case c13_ => k_is)
    (case k13_ => k_is)
    (case a14 => k_is)
    (case l14 => k_is)
    (case c14_ => k_is)
    (case k14_ => k_is)
    (case a15 => k_is)
    (case l15 => k_is)
    (case c15_ => k_is)
    (case k15_ => k_is)
    (case a16 => k_is)
    (case l16 => k_is)
    (case c16_ => k_is)
    (case k16_ => k_is)
    (case gC => k_is)
    (case zz => exact (.cons (by k_is) (.cons (by k_is) (.cons (by k_is) (.cons (by k_is) (.cons (by k_is) (.cons (by k_is) (.cons (by k_is) (.cons (by k_is) (.cons (by k_is) (.cons (by k_is) (.cons (by k_is) (.cons (by k_is) (.cons (by k_is) .nil))))))))))))))
    (case zz0 => exact (.cons (by k_is) (.cons (by k_is) (.cons (by k_is) .nil))))
    (case kk => exact .nil)
    (case kk0 => exact .nil)

