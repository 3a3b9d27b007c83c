import PyProof.Rows.All
import Wide.All
import OpenK.AllK
import Wide.FinOn
import KE.KSortTup
import PySem.Challenge.RW_no0092_01
set_option Elab.async false
set_option maxRecDepth 100000
-- om begin
local macro_rules
  | `(tactic| omega) => `(tactic| first
    | with_reducible assumption
    | with_reducible exact Nat.le_refl _
    | with_reducible exact Nat.zero_le _
    | with_reducible exact Nat.le_of_lt (by assumption)
    | with_reducible exact Nat.lt_succ_of_le (by assumption)
    | with_reducible exact Nat.lt_of_lt_of_le (by assumption) (by assumption)
    | with_reducible exact Nat.lt_of_le_of_lt (by assumption) (by assumption)
    | with_reducible exact Nat.le_trans (by assumption) (by assumption)
    | with_reducible exact Int.natCast_nonneg _
    | with_reducible exact Int.ofNat_lt.mpr (by assumption)
    | with_reducible exact Int.ofNat_le.mpr (by assumption)
    | lia
    | omega (splitDisjunctions := true))
-- om end
section -- P1
/- a small interpreter over trees of data: the program's functions are read through it -/
namespace Mini
open PySem

inductive D where
  | int (i : Int) | bool (b : Bool) | none | str | pool
  | list (l : List D) | tup (l : List D)
deriving Inhabited

noncomputable abbrev Pool := Option (Int × Int)

inductive Slot where
  | un | frz (d : D) | own (l : List D)
deriving Inhabited

inductive Bop where | add | sub | mul | fdiv | mod | pow | shl
deriving DecidableEq
inductive Cop where | lt | le | gt | ge | eq | ne | is_ | isnot
deriving DecidableEq
inductive Bi where | len | abs | int | max2 | max1 | min1 | list | sorted
deriving DecidableEq

set_option genSizeOfSpec false in
set_option genInjectivity false in
inductive Ex where
  | int (i : Int) | bool (b : Bool) | none
  | var (x : Nat)
  | bin (o : Bop) (a b : Ex)
  | neg (a : Ex)
  | rep (a b : Ex)
  | cmp (o : Cop) (a b : Ex)
  | chain (o o' : Cop) (a b c : Ex)
  | and (a b : Ex) | or (a b : Ex) | not (a : Ex)
  | ite (c a b : Ex)
  | list (es : Ex) | tup (es : Ex)
  | nil | cons (e es : Ex)
  | sub (a i : Ex) | subv (x : Nat) (i : Ex)
  | slice (a lo hi st : Ex)
  | lenv (x : Nat)
  | call (f : Nat) (es : Ex)
  | bi (b : Bi) (es : Ex)
  | isint (a : Ex)
  | comp (tg : List Nat) (isT : Bool) (fv : List (Option Nat)) (elt it cond : Ex)
  | range (es : Ex) | enum (e : Ex) | zip (a b : Ex) | rev (a : Ex)

set_option genSizeOfSpec false in
set_option genInjectivity false in
inductive St where
  | nil | cons (s r : St)
  | assign (fz : List Nat) (x : Nat) (e : Ex)
  | tupA (fz : List Nat) (xs : List Nat) (es : Ex)
  | unp (fz : List Nat) (xs : List Nat) (e : Ex)
  | setS (fz : List Nat) (x : Nat) (i e : Ex)
  | aug (fz : List Nat) (x : Nat) (o : Bop) (e : Ex)
  | augS (fz : List Nat) (x : Nat) (i : Ex) (o : Bop) (e : Ex)
  | app (fz : List Nat) (x : Nat) (e : Ex)
  | expr (fz : List Nat) (e : Ex)
  | ret (fz : List Nat) (e : Ex) | retN
  | ite (fz : List Nat) (c : Ex) (a b : St)
  | whil (c : Ex) (b : St)
  | for_ (fz : List Nat) (tg : List Nat) (isT : Bool) (it : Ex) (b : St)
  | cont
  | raise (xs : List Nat)
  | tryE (fz : List Nat) (e : Ex) (h : St)
  | bad


noncomputable def ins {α : Type} (le : α → α → Bool) (x : α) : List α → List α
  | [] => [x]
  | y :: r => if le x y then x :: y :: r else y :: ins le x r
noncomputable def isort {α : Type} (le : α → α → Bool) : List α → List α
  | [] => []
  | x :: r => ins le x (isort le r)
noncomputable def leI (a b : Int) : Bool := decide (a ≤ b)
noncomputable def leP (a b : Int × Int) : Bool := decide (a.1 < b.1) || (a.1 == b.1 && decide (a.2 ≤ b.2))
noncomputable def pairD (p : Int × Int) : D := .tup [.int p.1, .int p.2]
noncomputable def lim : Nat := 100000
noncomputable def D.isNone : D → Bool
  | .none => true
  | _ => false

/-! ## what follows a value that must have a shape -/
noncomputable def asI (d : D) (k : Int → Prop) : Prop := match d with | .int i => k i | _ => False
noncomputable def asB (d : D) (k : Bool → Prop) : Prop := match d with | .bool i => k i | _ => False
noncomputable def asN (d : D) (k : Prop) : Prop := match d with | .none => k | _ => False
noncomputable def asL (d : D) (k : List D → Prop) : Prop := match d with | .list i => k i | _ => False
noncomputable def asT (d : D) (k : List D → Prop) : Prop := match d with | .tup i => k i | _ => False
noncomputable def on1 (ds : List D) (k : D → Prop) : Prop := match ds with
  | [] => False
  | x :: r => match r with
    | [] => k x
    | _ :: _ => False
noncomputable def on2 (ds : List D) (k : D → D → Prop) : Prop := match ds with
  | [] => False
  | x :: r => on1 r (k x)
/-- a branch -/
noncomputable def brW (b : Bool) (x y : Prop) : Prop := (b = true → x) ∧ (b = false → y)

noncomputable def addW (x y : D) (k : Bool → D → Prop) : Prop := match x with
  | .int a => asI y fun b => k false (.int (a + b))
  | .list a => asL y fun b => a.length + b.length ≤ lim ∧ k true (.list (a ++ b))
  | _ => False
noncomputable def binW (o : Bop) (x y : D) (k : Bool → D → Prop) : Prop := match o with
  | .add => addW x y k
  | .sub => asI x fun a => asI y fun b => k false (.int (a - b))
  | .mul => asI x fun a => asI y fun b => (a.natAbs < 2 ^ 63 ∨ b.natAbs < 2 ^ 63) ∧ k false (.int (a * b))
  | .fdiv => asI x fun a => asI y fun b => (0 < b ∧ b < 1000000000) ∧ k false (.int (a / b))
  | .mod => asI x fun a => asI y fun b => 0 < b ∧ k false (.int (a % b))
  | .pow => asI x fun a => asI y fun b => (0 ≤ b ∧ b ≤ 100 ∧ a.natAbs < 2 ^ 64) ∧ k false (.int (a ^ b.toNat))
  | .shl => asI x fun a => asI y fun b => (0 ≤ b ∧ b ≤ 1000 ∧ a.natAbs < 2 ^ 64) ∧ k false (.int (a * 2 ^ b.toNat))

noncomputable def eqLW (a b : List D) (k : Bool → Prop) : Prop :=
  (∃ m n : List Int, a = m.map .int ∧ b = n.map .int ∧ k (decide (m = n))) ∨ ∃ m n : List Bool, a = m.map .bool ∧ b = n.map .bool ∧ k (decide (m = n))
noncomputable def eqW (x y : D) (k : Bool → Prop) : Prop := match x with
  | .int a => asI y fun b => k (decide (a = b))
  | .bool a => asB y fun b => k (a == b)
  | .list a => asL y fun b => eqLW a b k
  | _ => False
noncomputable def cmpW (o : Cop) (x y : D) (k : Bool → Prop) : Prop := match o with
  | .lt => asI x fun a => asI y fun b => k (decide (a < b))
  | .le => asI x fun a => asI y fun b => k (decide (a ≤ b))
  | .gt => asI x fun a => asI y fun b => k (decide (b < a))
  | .ge => asI x fun a => asI y fun b => k (decide (b ≤ a))
  | .eq => eqW x y k
  | .ne => eqW x y fun b => k (!b)
  | .is_ => asN y (k x.isNone)
  | .isnot => asN y (k (!x.isNone))

noncomputable def sortW (l : List D) (k : D → Prop) : Prop :=
  (∃ a : List Int, l = a.map .int ∧ a.length < 64 ∧ k (.list ((isort leI a).map .int))) ∨ ∃ a : List (Int × Int), l = a.map pairD ∧ a.length < 64 ∧ a.Nodup ∧ k (.list ((isort leP a).map pairD))
noncomputable def biW (b : Bi) (ds : List D) (k : Bool → D → Prop) : Prop := match b with
  | .len => on1 ds fun x => asL x fun l => l.length ≤ lim ∧ k false (.int l.length)
  | .abs => on1 ds fun x => asI x fun a => k false (.int a.natAbs)
  | .int => on1 ds fun x => asB x fun b => k false (.int (if b then 1 else 0))
  | .max2 => on2 ds fun x y => asI x fun a => asI y fun b => k false (.int (if a < b then b else a))
  | .max1 => on1 ds fun x => asL x fun l => ∃ (a : Int) (r : List Int), l = (a :: r).map .int ∧ ∀ m, m ∈ a :: r → (∀ x ∈ a :: r, x ≤ m) → k false (.int m)
  | .min1 => on1 ds fun x => asL x fun l => ∃ (a : Int) (r : List Int), l = (a :: r).map .int ∧ ∀ m, m ∈ a :: r → (∀ x ∈ a :: r, m ≤ x) → k false (.int m)
  | .list => on1 ds fun x => asL x fun l => l.length ≤ lim ∧ k true (.list l)
  | .sorted => on1 ds fun x => asL x fun l => sortW l fun d => k true d

@[irreducible] noncomputable def idxW (l : List D) (k : D) (K : D → Prop) : Prop := asI k fun i => (0 ≤ i ∧ i < 1000000) ∧ ∃ d, l[i.toNat]? = some d ∧ K d

noncomputable def partW (d : D) (k : Option Int → Prop) : Prop := match d with
  | .none => k none
  | .int i => k (some i)
  | _ => False
noncomputable def pickD (l : List D) (lo hi st : Option Int) : List D :=
  (sliceRange (sliceBounds lo hi st l.length).1 (sliceBounds lo hi st l.length).2.1 (sliceBounds lo hi st l.length).2.2).filterMap (l[·]?)
noncomputable def sliceW (a lo hi st : D) (k : D → Prop) : Prop := asL a fun l => partW lo fun x => partW hi fun y => partW st fun z => (z ≠ some 0 ∧ l.length ≤ lim) ∧ k (.list (pickD l x y z))

noncomputable def rangeL (a b c : Int) : List D := (List.range (Builtin.Range.rangeSize a b c).toNat).map fun (k : Nat) => D.int (a + c * (k : Int))
noncomputable def rangeW (a b c : Int) (k : D → Prop) : Prop := (c ≠ 0 ∧ a.natAbs ≤ lim ∧ b.natAbs ≤ lim ∧ c.natAbs ≤ lim) ∧ k (.list (rangeL a b c))
@[irreducible] noncomputable def rangeE (ds : List D) (k : D → Prop) : Prop := match ds with
  | [] => False
  | x :: r => match r with
    | [] => asI x fun b => rangeW 0 b 1 k
    | y :: r => match r with
      | [] => asI x fun a => asI y fun b => rangeW a b 1 k
      | z :: r => match r with
        | [] => asI x fun a => asI y fun b => asI z fun c => rangeW a b c k
        | _ :: _ => False

noncomputable def enumL : Nat → List D → List D
  | _, [] => []
  | k, d :: r => .tup [.int k, d] :: enumL (k + 1) r
noncomputable def zipL : List D → List D → List D
  | [], _ => []
  | a :: r, y => match y with
    | [] => []
    | b :: t => .tup [a, b] :: zipL r t

/-! ## slots -/
noncomputable def sg : List Slot → Nat → Slot
  | [], _ => .un
  | t :: r, n => match n with
    | 0 => t
    | n + 1 => sg r n
noncomputable def frzW (t : Slot) (k : D → Prop) : Prop := match t with | .frz d => k d | _ => False
noncomputable def ownW (t : Slot) (k : List D → Prop) : Prop := match t with | .own d => k d | _ => False
noncomputable def setAll : List Nat → List D → List Slot → List Slot
  | [], _, sl => sl
  | x :: xs, ds, sl => match ds with
    | [] => sl
    | d :: ds => setAll xs ds (sl.set x (.frz d))
noncomputable def bindW (tg : List Nat) (isT : Bool) (d : D) (sl : List Slot) (k : List Slot → Prop) : Prop := match isT with
  | false => match tg with
    | [] => False
    | x :: r => match r with
      | [] => k (sl.set x (.frz d))
      | _ :: _ => False
  | true => asT d fun ds => ds.length = tg.length ∧ k (setAll tg ds sl)
noncomputable def frzOf (sl : List Slot) : Option Nat → Slot
  | some j => (match sg sl j with | .frz d => .frz d | _ => .un)
  | none => .un
/-- a name that holds a list or the pool -/
noncomputable def okD (d : D) : Bool := match d with | .list _ => true | .pool => true | _ => false
noncomputable def okS (t : Slot) : Bool := match t with | .own _ => true | .frz d => okD d | .un => false
noncomputable def ifT (b : Bool) (k : Prop) : Prop := match b with | true => k | false => False
/-- an item of a name's list, tuple or of the pool -/
noncomputable def itemD (d : D) (p : Pool) (k : D) (K : D → Prop) : Prop := match d with
  | .list l => idxW l k K
  | .pool => (match p with | some q => idxW [.int q.1, .int q.2] k K | none => False)
  | _ => False
noncomputable def itemW (t : Slot) (p : Pool) (k : D) (K : D → Prop) : Prop := match t with
  | .own l => idxW l k K
  | .frz d => itemD d p k K
  | .un => False
noncomputable def lenW (t : Slot) (K : Nat → Prop) : Prop := match t with
  | .own l => K l.length
  | .frz d => asL d fun l => K l.length
  | .un => False

noncomputable abbrev Calls := Nat → List D → Pool → (Bool → D → Pool → Prop) → (Pool → Prop) → Prop

noncomputable def compW (f : List Slot → Pool → (Bool → Pool → Prop) → Prop) (g : List Slot → Pool → (D → Pool → Prop) → Prop) (tg : List Nat) (isT : Bool) (sl : List Slot) : List D → List D → Pool → (List D → Pool → Prop) → Prop
  | [], acc, p, K => K acc p
  | d :: r, acc, p, K => bindW tg isT d sl fun s => f s p fun b q => brW b (g s q fun v q => compW f g tg isT sl r (acc ++ [v]) q K) (compW f g tg isT sl r acc q K)

noncomputable def ev (C : Calls) : Ex → List Slot → Pool → (Bool → D → Pool → Prop) → (Pool → Prop) → Prop
  | .int i, _, p, Q, _ => Q false (.int i) p
  | .bool b, _, p, Q, _ => Q false (.bool b) p
  | .none, _, p, Q, _ => Q false .none p
  | .var x, sl, p, Q, _ => frzW (sg sl x) fun d => Q false d p
  | .bin o a b, sl, p, Q, E => ev C a sl p (fun _ x p => ev C b sl p (fun _ y p => binW o x y fun fl d => Q fl d p) E) E
  | .rep a b, sl, p, Q, E => ev C a sl p (fun _ x p => ev C b sl p (fun _ y p => asI y fun n => (0 ≤ n ∧ n ≤ 100000) ∧ Q true (.list (List.replicate n.toNat x)) p) E) E
  | .neg a, sl, p, Q, E => ev C a sl p (fun _ x p => asI x fun i => Q false (.int (-i)) p) E
  | .cmp o a b, sl, p, Q, E => ev C a sl p (fun _ x p => ev C b sl p (fun _ y p => cmpW o x y fun r => Q false (.bool r) p) E) E
  | .chain o o' a b c, sl, p, Q, E => ev C a sl p (fun _ x p => ev C b sl p (fun _ y p => cmpW o x y fun r =>
      brW r (ev C c sl p (fun _ z p => cmpW o' y z fun r => Q false (.bool r) p) E) (Q false (.bool false) p)) E) E
  | .and a b, sl, p, Q, E => ev C a sl p (fun _ x p => asB x fun c => brW c (ev C b sl p (fun _ y p => asB y fun d => Q false (.bool d) p) E) (Q false (.bool false) p)) E
  | .or a b, sl, p, Q, E => ev C a sl p (fun _ x p => asB x fun c => brW c (Q false (.bool true) p) (ev C b sl p (fun _ y p => asB y fun d => Q false (.bool d) p) E)) E
  | .not a, sl, p, Q, E => ev C a sl p (fun _ x p => asB x fun c => Q false (.bool (!c)) p) E
  | .ite c a b, sl, p, Q, E => ev C c sl p (fun _ x p => asB x fun t => brW t (ev C a sl p Q E) (ev C b sl p Q E)) E
  | .list es, sl, p, Q, E => ev C es sl p (fun _ x p => asL x fun l => l.length ≤ 1000 ∧ Q true (.list l) p) E
  | .tup es, sl, p, Q, E => ev C es sl p (fun _ x p => asL x fun l => l.length ≤ 1000 ∧ Q false (.tup l) p) E
  | .nil, _, p, Q, _ => Q false (.list []) p
  | .cons e es, sl, p, Q, E => ev C e sl p (fun _ x p => ev C es sl p (fun _ y p => asL y fun l => Q false (.list (x :: l)) p) E) E
  | .sub a i, sl, p, Q, E => ev C a sl p (fun _ x p => ev C i sl p (fun _ k p => asT x fun l => idxW l k fun d => Q false d p) E) E
  | .subv x i, sl, p, Q, E => ifT (okS (sg sl x)) (ev C i sl p (fun _ k p => itemW (sg sl x) p k fun d => Q false d p) E)
  | .slice a lo hi st, sl, p, Q, E => ev C a sl p (fun _ x p => ev C lo sl p (fun _ y p => ev C hi sl p (fun _ z p => ev C st sl p (fun _ u p => sliceW x y z u fun d => Q true d p) E) E) E) E
  | .lenv x, sl, p, Q, _ => lenW (sg sl x) fun n => n ≤ lim ∧ Q false (.int n) p
  | .call f es, sl, p, Q, E => ev C es sl p (fun _ x p => asL x fun ds => C f ds p Q E) E
  | .bi b es, sl, p, Q, E => ev C es sl p (fun _ x p => asL x fun ds => biW b ds fun fl d => Q fl d p) E
  | .isint a, sl, p, Q, E => ev C a sl p (fun _ x p => asI x fun _ => Q false (.bool true) p) E
  | .comp tg isT fv elt it cond, sl, p, Q, E => ev C it sl p (fun _ x p => asL x fun l =>
      l.length ≤ lim ∧ compW (fun s q K => ev C cond s q (fun _ d q => asB d fun b => K b q) (fun _ => False)) (fun s q K => ev C elt s q (fun _ d q => K d q) (fun _ => False)) tg isT (fv.map (frzOf sl)) l [] p fun r p => Q true (.list r) p) E
  | .range es, sl, p, Q, E => ev C es sl p (fun _ x p => asL x fun ds => rangeE ds fun d => Q false d p) E
  | .enum e, sl, p, Q, E => ev C e sl p (fun _ x p => asL x fun l => l.length ≤ lim ∧ Q false (.list (enumL 0 l)) p) E
  | .zip a b, sl, p, Q, E => ev C a sl p (fun _ x p => asL x fun l => ev C b sl p (fun _ y p => asL y fun m => (l.length ≤ lim ∧ m.length ≤ lim) ∧ Q false (.list (zipL l m)) p) E) E
  | .rev a, sl, p, Q, E => ev C a sl p (fun _ x p => asL x fun l => l.length ≤ lim ∧ Q false (.list l.reverse) p) E

inductive Fl where
  | next | cont | ret (fl : Bool) (d : D)

noncomputable def freeze1 (sl : List Slot) (x : Nat) : List Slot := match sg sl x with
  | .own l => sl.set x (.frz (.list l))
  | _ => sl
noncomputable def freeze : List Nat → List Slot → List Slot
  | [], sl => sl
  | x :: r, sl => freeze r (freeze1 sl x)
noncomputable def slotOf (own : Bool) (d : D) : Slot := match own with
  | true => (match d with | .list l => .own l | d => .frz d)
  | false => .frz d
/-- the items of a tuple display, each with its flag, from the left -/
noncomputable def evT (C : Calls) : Ex → List Slot → Pool → (List (Bool × D) → Pool → Prop) → (Pool → Prop) → Prop
  | .nil, _, p, Q, _ => Q [] p
  | .cons e es, sl, p, Q, E => ev C e sl p (fun fl d p => evT C es sl p (fun l p => Q ((fl, d) :: l) p) E) E
  | _, _, _, _, _ => False
noncomputable def putAll : List Nat → List (Bool × D) → List Slot → List Slot
  | [], _, sl => sl
  | x :: xs, ds, sl => match ds with
    | [] => sl
    | d :: ds => putAll xs ds (sl.set x (slotOf d.1 d.2))

/-- after a statement of a row -/
noncomputable def seqW (f : Fl) (A : Prop) (B : Fl → Prop) : Prop := match f with | .next => A | .cont => B .cont | .ret fl d => B (.ret fl d)
/-- after a loop's body -/
noncomputable def loopW (f : Fl) (A : Prop) (B : Bool → D → Prop) : Prop := match f with | .next => A | .cont => A | .ret fl d => B fl d

noncomputable def forW (tg : List Nat) (isT : Bool) (f : List Slot → Pool → (Fl → List Slot → Pool → Prop) → Prop) : List D → List Slot → Pool → (Fl → List Slot → Pool → Prop) → Prop
  | [], sl, p, K => K .next sl p
  | d :: r, sl, p, K => bindW tg isT d sl fun s => f s p fun fl s q => loopW fl (forW tg isT f r s q K) fun a b => K (.ret a b) s q
noncomputable def whileN (c : List Slot → Pool → (Bool → Pool → Prop) → Prop) (f : List Slot → Pool → (Fl → List Slot → Pool → Prop) → Prop) : Nat → List Slot → Pool → (Fl → List Slot → Pool → Prop) → Prop
  | 0, _, _, _ => False
  | n + 1, sl, p, K => c sl p fun b q => brW b (f sl q fun fl s q => loopW fl (whileN c f n s q K) fun a b => K (.ret a b) s q) (K .next sl q)
@[irreducible] noncomputable def whileW (c : List Slot → Pool → (Bool → Pool → Prop) → Prop) (f : List Slot → Pool → (Fl → List Slot → Pool → Prop) → Prop) (n : Nat) (sl : List Slot) (p : Pool) (K : Fl → List Slot → Pool → Prop) : Prop := whileN c f n sl p K

noncomputable def fitsText (d : Slot) : Bool := match d with
  | .frz d => (match d with | .int i => decide (i.natAbs < 10 ^ 10) | _ => false)
  | _ => false

@[irreducible] noncomputable def setL (l : List D) (k : D) (K : Nat → Prop) : Prop := asI k fun k => (0 ≤ k ∧ k < 1000000 ∧ k < l.length) ∧ K k.toNat
noncomputable def setP (p : Pool) (k v : D) (K : Pool → Prop) : Prop := match p with
  | none => False
  | some q => asI k fun k => asI v fun i => (k = 0 ∧ K (some (i, q.2))) ∨ (k = 1 ∧ K (some (q.1, i)))
noncomputable def setW (sl : List Slot) (x : Nat) (k v : D) (p : Pool) (K : List Slot → Pool → Prop) : Prop := match sg sl x with
  | .own l => setL l k fun k => K (sl.set x (.own (l.set k v))) p
  | .frz d => (match d with | .pool => setP p k v fun p => K sl p | _ => False)
  | .un => False

noncomputable def ex (C : Calls) : St → List Slot → Pool → (Fl → List Slot → Pool → Prop) → (Pool → Prop) → Prop
  | .nil, sl, p, Q, _ => Q .next sl p
  | .cons s r, sl, p, Q, E => ex C s sl p (fun f s p => seqW f (ex C r s p Q E) fun f => Q f s p) E
  | .assign fz x e, sl, p, Q, E => ev C e (freeze fz sl) p (fun fl d p => Q .next ((freeze fz sl).set x (slotOf fl d)) p) E
  | .tupA fz xs es, sl, p, Q, E => evT C es (freeze fz sl) p (fun l p => l.length = xs.length ∧ Q .next (putAll xs l (freeze fz sl)) p) E
  | .unp fz xs e, sl, p, Q, E => ev C e (freeze fz sl) p (fun _ d p => asT d fun ds => ds.length = xs.length ∧ Q .next (setAll xs ds (freeze fz sl)) p) E
  | .setS fz x i e, sl, p, Q, E => ifT (okS (sg (freeze fz sl) x)) (ev C e (freeze fz sl) p (fun _ v p => ev C i (freeze fz sl) p (fun _ k p => setW (freeze fz sl) x k v p fun s p => Q .next s p) E) E)
  | .aug fz x o e, sl, p, Q, E => frzW (sg (freeze fz sl) x) fun d => ev C e (freeze fz sl) p (fun _ y p => asI d fun a => asI y fun b => binW o (.int a) (.int b) fun _ v => Q .next ((freeze fz sl).set x (.frz v)) p) E
  | .augS fz x i o e, sl, p, Q, E => ifT (okS (sg (freeze fz sl) x)) (ev C i (freeze fz sl) p (fun _ k p => itemW (sg (freeze fz sl) x) p k fun d => ev C e (freeze fz sl) p (fun _ y p => asI d fun a => asI y fun b => binW o (.int a) (.int b) fun _ v => setW (freeze fz sl) x k v p fun s p => Q .next s p) E) E)
  | .app fz x e, sl, p, Q, E => ownW (sg (freeze fz sl) x) fun l => ev C e (freeze fz sl) p (fun _ d p => l.length < lim ∧ Q .next ((freeze fz sl).set x (.own (l ++ [d]))) p) E
  | .expr fz e, sl, p, Q, E => ev C e (freeze fz sl) p (fun _ _ p => Q .next (freeze fz sl) p) E
  | .ret fz e, sl, p, Q, E => ev C e (freeze fz sl) p (fun fl d p => Q (.ret fl d) (freeze fz sl) p) E
  | .retN, sl, p, Q, _ => Q (.ret false .none) sl p
  | .ite fz c a b, sl, p, Q, E => ev C c (freeze fz sl) p (fun _ x p => asB x fun t => brW t (ex C a (freeze fz sl) p Q E) (ex C b (freeze fz sl) p Q E)) E
  | .whil c b, sl, p, Q, E => whileW (fun s q K => ev C c s q (fun _ d q => asB d fun b => K b q) E) (fun s q K => ex C b s q K E) 100 sl p Q
  | .for_ fz tg isT it b, sl, p, Q, E => ev C it (freeze fz sl) p (fun _ x p => asL x fun l => forW tg isT (fun s q K => ex C b s q K E) l (freeze fz sl) p Q) E
  | .cont, sl, p, Q, _ => Q .cont sl p
  | .raise xs, sl, p, _, E => xs.all (fun x => fitsText (sg sl x)) = true ∧ E p
  | .tryE fz e h, sl, p, Q, E => ev C e (freeze fz sl) p (fun _ _ p => Q .next (freeze fz sl) p) (fun q => ex C h (freeze fz sl) q Q E)
  | .bad, _, _, _, _ => False

end Mini
end
section -- PG
namespace Mini
/-- counts_by_length -/
noncomputable def vs0 : List PySem.Str := [PySem.Str.ofString "lengths", PySem.Str.ofString "longest", PySem.Str.ofString "found", PySem.Str.ofString "length"]
noncomputable def xb0 : St := (.cons (.assign [] 2 (.rep (.int 0) (.bin .add (.var 1) (.int 1)))) (.cons (.for_ [] [3] false (.var 0) (.cons (.ite [] (.not (.chain .le .le (.int 0) (.var 3) (.var 1))) (.cons .bad .nil) .nil) (.cons (.augS [] 2 (.var 3) .add (.int 1)) .nil))) (.cons (.ret [2] (.var 2)) .nil)))
/-- room_of -/
noncomputable def vs1 : List PySem.Str := [PySem.Str.ofString "counts", PySem.Str.ofString "left", PySem.Str.ofString "count"]
noncomputable def xb1 : St := (.cons (.assign [] 1 (.int 1)) (.cons (.for_ [] [2] false (.slice (.var 0) (.int 1) .none .none) (.cons (.assign [] 1 (.bin .sub (.bin .mul (.var 1) (.int 2)) (.var 2))) .nil)) (.cons (.ret [] (.var 1)) .nil)))
/-- check_lengths -/
noncomputable def vs2 : List PySem.Str := [PySem.Str.ofString "lengths", PySem.Str.ofString "longest", PySem.Str.ofString "lone", PySem.Str.ofString "counts", PySem.Str.ofString "used", PySem.Str.ofString "left"]
noncomputable def xb2 : St := (.cons (.assign [] 3 (.call 0 (.cons (.var 0) (.cons (.var 1) .nil)))) (.cons (.assign [] 4 (.bin .sub (.lenv 0) (.subv 3 (.int 0)))) (.cons (.ite [] (.cmp .eq (.var 4) (.int 0)) (.cons (.ite [] (.not (.var 2)) (.cons .bad .nil) .nil) (.cons .retN .nil)) .nil) (.cons (.assign [3] 5 (.call 1 (.cons (.var 3) .nil))) (.cons (.ite [5] (.cmp .lt (.var 5) (.int 0)) (.cons .bad .nil) .nil) (.cons (.ite [5] (.and (.cmp .gt (.var 5) (.int 0)) (.not (.and (.var 2) (.and (.cmp .eq (.var 4) (.int 1)) (.cmp .eq (.subv 3 (.int 1)) (.int 1)))))) (.cons .bad .nil) .nil) .nil))))))
/-- used_symbols -/
noncomputable def vs3 : List PySem.Str := [PySem.Str.ofString "counts", PySem.Str.ofString "found", PySem.Str.ofString "symbol", PySem.Str.ofString "count"]
noncomputable def xb3 : St := (.cons (.assign [] 1 (.list .nil)) (.cons (.for_ [] [2, 3] true (.enum (.var 0)) (.cons (.ite [] (.cmp .lt (.var 3) (.int 0)) (.cons (.raise [3]) .nil) .nil) (.cons (.ite [] (.cmp .gt (.var 3) (.int 0)) (.cons (.app [] 1 (.tup (.cons (.var 3) (.cons (.var 2) .nil)))) .nil) .nil) .nil))) (.cons (.ret [1] (.bi .sorted (.cons (.var 1) .nil))) .nil)))
/-- total_bits -/
noncomputable def vs4 : List PySem.Str := [PySem.Str.ofString "counts", PySem.Str.ofString "lengths", PySem.Str.ofString "found", PySem.Str.ofString "symbol", PySem.Str.ofString "count"]
noncomputable def xb4 : St := (.cons (.assign [] 2 (.int 0)) (.cons (.for_ [] [3, 4] true (.enum (.var 0)) (.cons (.ite [] (.cmp .gt (.var 4) (.int 0)) (.cons (.ite [] (.or (.cmp .ge (.var 3) (.lenv 1)) (.cmp .eq (.subv 1 (.var 3)) (.int 0))) (.cons (.raise [3]) .nil) .nil) (.cons (.aug [] 2 .add (.bin .mul (.var 4) (.subv 1 (.var 3)))) .nil)) .nil) .nil)) (.cons (.ret [] (.var 2)) .nil)))
/-- placed -/
noncomputable def vs5 : List PySem.Str := [PySem.Str.ofString "size", PySem.Str.ofString "rows", PySem.Str.ofString "depths", PySem.Str.ofString "found", PySem.Str.ofString "place", PySem.Str.ofString "depth"]
noncomputable def xb5 : St := (.cons (.assign [] 3 (.rep (.int 0) (.var 0))) (.cons (.for_ [] [4, 5] true (.enum (.var 2)) (.cons (.setS [] 3 (.sub (.subv 1 (.var 4)) (.int 1)) (.var 5)) .nil)) (.cons (.ret [3] (.var 3)) .nil)))
/-- tree_depths -/
noncomputable def vs6 : List PySem.Str := [PySem.Str.ofString "weights", PySem.Str.ofString "many", PySem.Str.ofString "parents", PySem.Str.ofString "leaf", PySem.Str.ofString "joined", PySem.Str.ofString "made", PySem.Str.ofString "both", PySem.Str.ofString "side", PySem.Str.ofString "taken", PySem.Str.ofString "depths", PySem.Str.ofString "place"]
noncomputable def xb6 : St := (.cons (.assign [] 1 (.lenv 0)) (.cons (.assign [0] 0 (.bi .list (.cons (.var 0) .nil))) (.cons (.assign [1] 2 (.rep (.int 0) (.bin .sub (.bin .mul (.int 2) (.var 1)) (.int 1)))) (.cons (.tupA [1] [3, 4] (.cons (.int 0) (.cons (.var 1) .nil))) (.cons (.for_ [1] [5] false (.range (.cons (.var 1) (.cons (.bin .sub (.bin .mul (.int 2) (.var 1)) (.int 1)) .nil))) (.cons (.assign [] 6 (.int 0)) (.cons (.for_ [] [7] false (.range (.cons (.int 2) .nil)) (.cons (.ite [1] (.and (.cmp .lt (.var 3) (.var 1)) (.or (.cmp .ge (.var 4) (.var 5)) (.cmp .le (.subv 0 (.var 3)) (.subv 0 (.var 4))))) (.cons (.tupA [] [8, 3] (.cons (.var 3) (.cons (.bin .add (.var 3) (.int 1)) .nil))) .nil) (.cons (.tupA [] [8, 4] (.cons (.var 4) (.cons (.bin .add (.var 4) (.int 1)) .nil))) .nil)) (.cons (.setS [] 2 (.var 8) (.var 5)) (.cons (.aug [] 6 .add (.subv 0 (.var 8))) .nil)))) (.cons (.app [] 0 (.var 6)) .nil)))) (.cons (.assign [1] 9 (.rep (.int 0) (.bin .sub (.bin .mul (.int 2) (.var 1)) (.int 1)))) (.cons (.for_ [1] [10] false (.range (.cons (.bin .sub (.bin .mul (.int 2) (.var 1)) (.int 3)) (.cons (.neg (.int 1)) (.cons (.neg (.int 1)) .nil)))) (.cons (.setS [] 9 (.var 10) (.bin .add (.subv 9 (.subv 2 (.var 10))) (.int 1))) .nil)) (.cons (.ret [9, 1] (.slice (.var 9) .none (.var 1) .none)) .nil))))))))
/-- free_lengths -/
noncomputable def vs7 : List PySem.Str := [PySem.Str.ofString "counts", PySem.Str.ofString "rows"]
noncomputable def xb7 : St := (.cons (.assign [] 1 (.call 3 (.cons (.var 0) .nil))) (.cons (.ite [] (.cmp .lt (.lenv 1) (.int 2)) (.cons (.ret [1] (.call 5 (.cons (.lenv 0) (.cons (.var 1) (.cons (.rep (.int 1) (.lenv 1)) .nil))))) .nil) .nil) (.cons (.ret [1] (.call 5 (.cons (.lenv 0) (.cons (.var 1) (.cons (.call 6 (.cons (.comp [0, 1] true [none, none] (.var 0) (.var 1) (.bool true)) .nil)) .nil))))) .nil)))
/-- check_room -/
noncomputable def vs8 : List PySem.Str := [PySem.Str.ofString "many", PySem.Str.ofString "longest"]
noncomputable def xb8 : St := (.cons (.ite [] (.or (.and (.cmp .gt (.var 0) (.int 0)) (.cmp .lt (.var 1) (.int 1))) (.cmp .gt (.var 0) (.bin .shl (.int 1) (.bi .max2 (.cons (.int 0) (.cons (.var 1) .nil)))))) (.cons (.raise [0, 1]) .nil) .nil) .nil)
/-- merged -/
noncomputable def vs9 : List PySem.Str := [PySem.Str.ofString "weights", PySem.Str.ofString "pairs", PySem.Str.ofString "row", PySem.Str.ofString "leaves", PySem.Str.ofString "leaf", PySem.Str.ofString "pair", PySem.Str.ofString "is_leaf"]
noncomputable def xb9 : St := (.cons (.tupA [] [2, 3, 4, 5] (.cons (.list .nil) (.cons (.list .nil) (.cons (.int 0) (.cons (.int 0) .nil))))) (.cons (.whil (.or (.cmp .lt (.var 4) (.lenv 0)) (.cmp .lt (.var 5) (.lenv 1))) (.cons (.assign [] 6 (.or (.cmp .eq (.var 5) (.lenv 1)) (.and (.cmp .lt (.var 4) (.lenv 0)) (.cmp .le (.subv 0 (.var 4)) (.subv 1 (.var 5)))))) (.cons (.app [] 3 (.var 6)) (.cons (.ite [] (.var 6) (.cons (.app [] 2 (.subv 0 (.var 4))) (.cons (.aug [] 4 .add (.int 1)) .nil)) (.cons (.app [] 2 (.subv 1 (.var 5))) (.cons (.aug [] 5 .add (.int 1)) .nil))) .nil)))) (.cons (.ret [2, 3] (.tup (.cons (.var 2) (.cons (.var 3) .nil)))) .nil)))
/-- package_depths -/
noncomputable def vs10 : List PySem.Str := [PySem.Str.ofString "weights", PySem.Str.ofString "longest", PySem.Str.ofString "rows", PySem.Str.ofString "row", PySem.Str.ofString "lap", PySem.Str.ofString "pairs", PySem.Str.ofString "leaves", PySem.Str.ofString "depths", PySem.Str.ofString "wanted", PySem.Str.ofString "taken", PySem.Str.ofString "is_leaf", PySem.Str.ofString "place"]
noncomputable def xb10 : St := (.cons (.tupA [] [2, 3] (.cons (.list .nil) (.cons (.list .nil) .nil))) (.cons (.for_ [] [4] false (.range (.cons (.var 1) .nil)) (.cons (.assign [3] 5 (.comp [0] false [none, some 3] (.bin .add (.subv 1 (.var 0)) (.subv 1 (.bin .add (.var 0) (.int 1)))) (.range (.cons (.int 0) (.cons (.bin .sub (.lenv 3) (.int 1)) (.cons (.int 2) .nil)))) (.bool true))) (.cons (.unp [5] [3, 6] (.call 9 (.cons (.var 0) (.cons (.var 5) .nil)))) (.cons (.app [] 2 (.var 6)) .nil)))) (.cons (.tupA [] [7, 8] (.cons (.rep (.int 0) (.lenv 0)) (.cons (.bin .sub (.bin .mul (.int 2) (.lenv 0)) (.int 2)) .nil))) (.cons (.for_ [2] [6] false (.rev (.var 2)) (.cons (.assign [] 9 (.int 0)) (.cons (.for_ [] [10] false (.slice (.var 6) .none (.var 8) .none) (.cons (.aug [] 9 .add (.bi .int (.cons (.var 10) .nil))) .nil)) (.cons (.for_ [] [11] false (.range (.cons (.var 9) .nil)) (.cons (.augS [] 7 (.var 11) .add (.int 1)) .nil)) (.cons (.assign [] 8 (.bin .mul (.int 2) (.bin .sub (.var 8) (.var 9)))) .nil))))) (.cons (.ret [7] (.var 7)) .nil)))))
/-- least_lengths -/
noncomputable def vs11 : List PySem.Str := [PySem.Str.ofString "counts", PySem.Str.ofString "longest", PySem.Str.ofString "rows"]
noncomputable def xb11 : St := (.cons (.assign [] 2 (.call 3 (.cons (.var 0) .nil))) (.cons (.expr [] (.call 8 (.cons (.lenv 2) (.cons (.var 1) .nil)))) (.cons (.ite [] (.cmp .lt (.lenv 2) (.int 2)) (.cons (.ret [2] (.call 5 (.cons (.lenv 0) (.cons (.var 2) (.cons (.rep (.int 1) (.lenv 2)) .nil))))) .nil) .nil) (.cons (.ret [2] (.call 5 (.cons (.lenv 0) (.cons (.var 2) (.cons (.call 10 (.cons (.comp [0, 1] true [none, none] (.var 0) (.var 2) (.bool true)) (.cons (.var 1) .nil))) .nil))))) .nil))))
/-- _law_pool -/
noncomputable def vs12 : List PySem.Str := [PySem.Str.ofString "script", PySem.Str.ofString "whole", PySem.Str.ofString "cell"]
noncomputable def xb12 : St := (.cons (.assign [] 1 (.int 0)) (.cons (.for_ [] [2] false (.slice (.var 0) .none (.int 24) .none) (.cons (.assign [] 1 (.bin .mod (.bin .add (.bin .add (.bin .mul (.var 1) (.int 1009)) (.bin .mul (.int 2) (.bi .abs (.cons (.var 2) .nil)))) (.bi .int (.cons (.cmp .lt (.var 2) (.int 0)) .nil))) (.bin .pow (.int 10) (.int 70)))) .nil)) (.cons (.ret [] (.list (.cons (.var 1) (.cons (.int 0) .nil)))) .nil)))
/-- _law_take -/
noncomputable def vs13 : List PySem.Str := [PySem.Str.ofString "pool", PySem.Str.ofString "many", PySem.Str.ofString "digit"]
noncomputable def xb13 : St := (.cons (.ite [] (.cmp .gt (.subv 0 (.int 0)) (.int 0)) (.cons (.assign [] 2 (.bin .mod (.subv 0 (.int 0)) (.var 1))) (.cons (.setS [] 0 (.int 0) (.bin .fdiv (.subv 0 (.int 0)) (.var 1))) (.cons (.ret [] (.var 2)) .nil))) .nil) (.cons (.augS [] 0 (.int 1) .add (.int 1)) (.cons (.ret [] (.bin .mod (.bin .add (.bin .mul (.int 7) (.subv 0 (.int 1))) (.int 3)) (.var 1))) .nil)))
/-- _law_counts -/
noncomputable def vs14 : List PySem.Str := [PySem.Str.ofString "pool", PySem.Str.ofString "many", PySem.Str.ofString "sort", PySem.Str.ofString "found", PySem.Str.ofString "k", PySem.Str.ofString "count", PySem.Str.ofString "turn", PySem.Str.ofString "one", PySem.Str.ofString "other", PySem.Str.ofString "swapped"]
noncomputable def xb14 : St := (.cons (.tupA [] [1, 2] (.cons (.bin .add (.int 2) (.call 13 (.cons (.var 0) (.cons (.int 9) .nil)))) (.cons (.call 13 (.cons (.var 0) (.cons (.int 6) .nil))) .nil))) (.cons (.assign [] 3 (.list .nil)) (.cons (.for_ [] [4] false (.range (.cons (.var 1) .nil)) (.cons (.assign [] 5 (.bin .add (.int 1) (.call 13 (.cons (.var 0) (.cons (.int 9) .nil))))) (.cons (.ite [2] (.cmp .eq (.var 2) (.int 1)) (.cons (.assign [] 5 (.int 3)) .nil) .nil) (.cons (.ite [2] (.and (.cmp .eq (.var 2) (.int 2)) (.cmp .gt (.var 4) (.int 1))) (.cons (.assign [] 5 (.bin .add (.bin .add (.subv 3 (.bin .sub (.var 4) (.int 1))) (.subv 3 (.bin .sub (.var 4) (.int 2)))) (.call 13 (.cons (.var 0) (.cons (.int 2) .nil))))) .nil) .nil) (.cons (.ite [2] (.cmp .eq (.var 2) (.int 3)) (.cons (.assign [] 5 (.bin .shl (.int 1) (.bin .mul (.int 2) (.var 4)))) .nil) .nil) (.cons (.ite [2] (.cmp .eq (.var 2) (.int 4)) (.cons (.assign [] 5 (.bin .add (.bin .pow (.int 10) (.int 25)) (.call 13 (.cons (.var 0) (.cons (.int 1000) .nil))))) .nil) .nil) (.cons (.ite [2] (.and (.cmp .gt (.var 2) (.int 4)) (.cmp .eq (.call 13 (.cons (.var 0) (.cons (.int 3) .nil))) (.int 0))) (.cons (.assign [] 5 (.int 0)) .nil) .nil) (.cons (.app [] 3 (.var 5)) .nil)))))))) (.cons (.ite [] (.cmp .eq (.call 13 (.cons (.var 0) (.cons (.int 3) .nil))) (.int 0)) (.cons (.setS [] 3 (.call 13 (.cons (.var 0) (.cons (.var 1) .nil))) (.int 0)) .nil) .nil) (.cons (.for_ [] [6] false (.range (.cons (.call 13 (.cons (.var 0) (.cons (.int 3) .nil))) .nil)) (.cons (.tupA [] [7, 8] (.cons (.call 13 (.cons (.var 0) (.cons (.var 1) .nil))) (.cons (.call 13 (.cons (.var 0) (.cons (.var 1) .nil))) .nil))) (.cons (.assign [7] 9 (.subv 3 (.var 7))) (.cons (.setS [8, 7] 3 (.var 7) (.subv 3 (.var 8))) (.cons (.setS [8] 3 (.var 8) (.var 9)) .nil))))) (.cons (.ret [3] (.var 3)) .nil))))))
/-- _law_total -/
noncomputable def vs15 : List PySem.Str := [PySem.Str.ofString "counts", PySem.Str.ofString "lengths", PySem.Str.ofString "found", PySem.Str.ofString "count", PySem.Str.ofString "length"]
noncomputable def xb15 : St := (.cons (.assign [] 2 (.int 0)) (.cons (.for_ [] [3, 4] true (.zip (.var 0) (.var 1)) (.cons (.aug [] 2 .add (.bin .mul (.var 3) (.var 4))) .nil)) (.cons (.ret [] (.var 2)) .nil)))
/-- _law_least -/
noncomputable def vs16 : List PySem.Str := [PySem.Str.ofString "used", PySem.Str.ofString "longest", PySem.Str.ofString "room", PySem.Str.ofString "best", PySem.Str.ofString "count", PySem.Str.ofString "later", PySem.Str.ofString "spent", PySem.Str.ofString "total", PySem.Str.ofString "length", PySem.Str.ofString "there", PySem.Str.ofString "told"]
noncomputable def xb16 : St := (.cons (.assign [] 2 (.bin .shl (.int 1) (.var 1))) (.cons (.assign [] 3 (.comp [0] false [none] .none (.range (.cons (.bin .add (.var 2) (.int 1)) .nil)) (.bool true))) (.cons (.setS [] 3 (.int 0) (.int 0)) (.cons (.for_ [] [4] false (.var 0) (.cons (.assign [] 5 (.comp [0] false [none] .none (.range (.cons (.bin .add (.var 2) (.int 1)) .nil)) (.bool true))) (.cons (.for_ [3] [6, 7] true (.enum (.var 3)) (.cons (.ite [] (.cmp .is_ (.var 7) .none) (.cons .cont .nil) .nil) (.cons (.for_ [] [8] false (.range (.cons (.int 1) (.cons (.bin .add (.var 1) (.int 1)) .nil))) (.cons (.assign [] 9 (.bin .add (.var 6) (.bin .shl (.int 1) (.bin .sub (.var 1) (.var 8))))) (.cons (.ite [] (.and (.cmp .le (.var 9) (.var 2)) (.or (.cmp .is_ (.subv 5 (.var 9)) .none) (.cmp .lt (.bin .add (.var 7) (.bin .mul (.var 4) (.var 8))) (.subv 5 (.var 9))))) (.cons (.setS [] 5 (.var 9) (.bin .add (.var 7) (.bin .mul (.var 4) (.var 8)))) .nil) .nil) .nil))) .nil))) (.cons (.assign [5] 3 (.var 5)) .nil)))) (.cons (.assign [3] 10 (.comp [0] false [none] (.var 0) (.var 3) (.cmp .isnot (.var 0) .none))) (.cons (.ret [10] (.ite (.cmp .ne (.var 10) (.list .nil)) (.bi .min1 (.cons (.var 10) .nil)) .none)) .nil))))))
/-- _law_rows -/
noncomputable def vs17 : List PySem.Str := [PySem.Str.ofString "many", PySem.Str.ofString "longest", PySem.Str.ofString "found", PySem.Str.ofString "turn", PySem.Str.ofString "longer", PySem.Str.ofString "row", PySem.Str.ofString "length"]
noncomputable def xb17 : St := (.cons (.assign [] 2 (.list (.cons (.list .nil) .nil))) (.cons (.for_ [] [3] false (.range (.cons (.var 0) .nil)) (.cons (.assign [] 4 (.list .nil)) (.cons (.for_ [2] [5] false (.var 2) (.cons (.for_ [] [6] false (.range (.cons (.int 1) (.cons (.bin .add (.var 1) (.int 1)) .nil))) (.cons (.app [] 4 (.bin .add (.var 5) (.list (.cons (.var 6) .nil)))) .nil)) .nil)) (.cons (.assign [4] 2 (.var 4)) .nil)))) (.cons (.ret [2] (.var 2)) .nil)))
/-- _law_by_rows -/
noncomputable def vs18 : List PySem.Str := [PySem.Str.ofString "used", PySem.Str.ofString "longest", PySem.Str.ofString "best", PySem.Str.ofString "row", PySem.Str.ofString "space", PySem.Str.ofString "length", PySem.Str.ofString "total"]
noncomputable def xb18 : St := (.cons (.assign [] 2 .none) (.cons (.for_ [] [3] false (.call 17 (.cons (.lenv 0) (.cons (.var 1) .nil))) (.cons (.assign [] 4 (.int 0)) (.cons (.for_ [] [5] false (.var 3) (.cons (.aug [] 4 .add (.bin .shl (.int 1) (.bin .sub (.var 1) (.var 5)))) .nil)) (.cons (.ite [] (.cmp .le (.var 4) (.bin .shl (.int 1) (.var 1))) (.cons (.assign [] 6 (.call 15 (.cons (.var 0) (.cons (.var 3) .nil)))) (.cons (.ite [6] (.or (.cmp .is_ (.var 2) .none) (.cmp .lt (.var 6) (.var 2))) (.cons (.assign [6] 2 (.var 6)) .nil) .nil) .nil)) .nil) .nil)))) (.cons (.ret [] (.var 2)) .nil)))
/-- _law_merged -/
noncomputable def vs19 : List PySem.Str := [PySem.Str.ofString "used", PySem.Str.ofString "left", PySem.Str.ofString "found", PySem.Str.ofString "both"]
noncomputable def xb19 : St := (.cons (.tupA [] [1, 2] (.cons (.bi .sorted (.cons (.var 0) .nil)) (.cons (.int 0) .nil))) (.cons (.whil (.cmp .gt (.lenv 1) (.int 1)) (.cons (.assign [] 3 (.bin .add (.subv 1 (.int 0)) (.subv 1 (.int 1)))) (.cons (.aug [] 2 .add (.var 3)) (.cons (.assign [1] 1 (.bi .sorted (.cons (.bin .add (.slice (.var 1) (.int 2) .none .none) (.list (.cons (.var 3) .nil))) .nil))) .nil)))) (.cons (.ret [] (.var 2)) .nil)))
/-- _law_row_right -/
noncomputable def vs20 : List PySem.Str := [PySem.Str.ofString "counts", PySem.Str.ofString "longest", PySem.Str.ofString "handed", PySem.Str.ofString "lengths", PySem.Str.ofString "space", PySem.Str.ofString "count", PySem.Str.ofString "length", PySem.Str.ofString "used"]
noncomputable def xb20 : St := (.cons (.assign [] 2 (.bi .list (.cons (.var 0) .nil))) (.cons (.assign [2] 3 (.call 11 (.cons (.var 2) (.cons (.var 1) .nil)))) (.cons (.ite [2] (.or (.cmp .ne (.var 2) (.var 0)) (.cmp .ne (.lenv 3) (.lenv 0))) (.cons (.ret [] .none) .nil) .nil) (.cons (.assign [] 4 (.int 0)) (.cons (.for_ [3] [5, 6] true (.zip (.var 0) (.var 3)) (.cons (.ite [] (.or (.not (.isint (.var 6))) (.or (.cmp .ne (.cmp .eq (.var 6) (.int 0)) (.cmp .eq (.var 5) (.int 0))) (.or (.cmp .gt (.var 6) (.var 1)) (.cmp .lt (.var 6) (.int 0))))) (.cons (.ret [] .none) .nil) .nil) (.cons (.ite [] (.cmp .gt (.var 6) (.int 0)) (.cons (.aug [] 4 .add (.bin .shl (.int 1) (.bin .sub (.var 1) (.var 6)))) .nil) .nil) .nil))) (.cons (.assign [] 7 (.comp [0] false [none] (.var 0) (.var 0) (.cmp .gt (.var 0) (.int 0)))) (.cons (.ite [3] (.or (.and (.cmp .eq (.lenv 7) (.int 1)) (.cmp .ne (.bi .max1 (.cons (.var 3) .nil)) (.int 1))) (.and (.cmp .gt (.lenv 7) (.int 1)) (.cmp .ne (.var 4) (.bin .shl (.int 1) (.var 1))))) (.cons (.ret [] .none) .nil) .nil) (.cons (.ite [3] (.cmp .ne (.call 4 (.cons (.var 0) (.cons (.var 3) .nil))) (.call 15 (.cons (.var 0) (.cons (.var 3) .nil)))) (.cons (.ret [] .none) .nil) .nil) (.cons (.ite [7] (.cmp .ne (.var 7) (.list .nil)) (.cons (.expr [3] (.call 2 (.cons (.var 3) (.cons (.var 1) (.cons (.bool true) .nil))))) .nil) .nil) (.cons (.ret [3] (.bi .list (.cons (.var 3) .nil))) .nil))))))))))
/-- _law_ordered -/
noncomputable def vs21 : List PySem.Str := [PySem.Str.ofString "counts", PySem.Str.ofString "lengths", PySem.Str.ofString "one", PySem.Str.ofString "length", PySem.Str.ofString "other", PySem.Str.ofString "far"]
noncomputable def xb21 : St := (.cons (.for_ [] [2, 3] true (.zip (.var 0) (.var 1)) (.cons (.for_ [] [4, 5] true (.zip (.var 0) (.var 1)) (.cons (.ite [] (.and (.cmp .gt (.var 4) (.int 0)) (.and (.cmp .gt (.var 2) (.var 4)) (.cmp .gt (.var 3) (.var 5)))) (.cons (.ret [] (.bool false)) .nil) .nil) .nil)) .nil)) (.cons (.ret [] (.bool true)) .nil))
/-- _law_low_tree_right -/
noncomputable def vs22 : List PySem.Str := [PySem.Str.ofString "counts", PySem.Str.ofString "used", PySem.Str.ofString "free", PySem.Str.ofString "whole", PySem.Str.ofString "longest"]
noncomputable def xb22 : St := (.cons (.assign [] 2 (.call 7 (.cons (.var 0) .nil))) (.cons (.ite [2] (.cmp .ne (.comp [0] false [none] (.cmp .gt (.var 0) (.int 0)) (.var 2) (.bool true)) (.comp [0] false [none] (.cmp .gt (.var 0) (.int 0)) (.var 0) (.bool true))) (.cons (.ret [] (.bool false)) .nil) .nil) (.cons (.ite [] (.cmp .lt (.lenv 1) (.int 2)) (.cons (.ret [2] (.cmp .eq (.bi .max1 (.cons (.var 2) .nil)) (.lenv 1))) .nil) .nil) (.cons (.assign [] 3 (.call 19 (.cons (.var 1) .nil))) (.cons (.ite [2, 3] (.cmp .ne (.call 15 (.cons (.var 0) (.cons (.var 2) .nil))) (.var 3)) (.cons (.ret [] (.bool false)) .nil) .nil) (.cons (.for_ [] [4] false (.range (.cons (.int 1) (.cons (.int 6) .nil))) (.cons (.ite [3] (.and (.cmp .ge (.bin .shl (.int 1) (.var 4)) (.lenv 1)) (.cmp .eq (.call 16 (.cons (.var 1) (.cons (.var 4) .nil))) (.var 3))) (.cons (.ret [2] (.cmp .eq (.bi .max1 (.cons (.var 2) .nil)) (.var 4))) .nil) .nil) .nil)) (.cons (.ret [2] (.cmp .gt (.bi .max1 (.cons (.var 2) .nil)) (.int 5))) .nil)))))))
/-- _law_total_refused -/
noncomputable def vs23 : List PySem.Str := [PySem.Str.ofString "counts", PySem.Str.ofString "lengths"]
noncomputable def xb23 : St := (.cons (.tryE [] (.call 4 (.cons (.var 0) (.cons (.var 1) .nil))) (.cons (.ret [] (.bool true)) .nil)) (.cons (.ret [] (.bool false)) .nil))
/-- _law_refused -/
noncomputable def vs24 : List PySem.Str := [PySem.Str.ofString "counts", PySem.Str.ofString "longest"]
noncomputable def xb24 : St := (.cons (.tryE [] (.call 11 (.cons (.var 0) (.cons (.var 1) .nil))) (.cons (.ret [] (.bool true)) .nil)) (.cons (.ret [] (.bool false)) .nil))
/-- law -/
noncomputable def vs25 : List PySem.Str := [PySem.Str.ofString "script", PySem.Str.ofString "pool", PySem.Str.ofString "counts", PySem.Str.ofString "used", PySem.Str.ofString "need", PySem.Str.ofString "longest", PySem.Str.ofString "lengths", PySem.Str.ofString "at", PySem.Str.ofString "total", PySem.Str.ofString "wide", PySem.Str.ofString "times", PySem.Str.ofString "more", PySem.Str.ofString "other"]
noncomputable def xb25 : St := (.cons (.assign [1] 2 (.call 14 (.cons (.var 1) .nil))) (.cons (.assign [2] 3 (.comp [0] false [none] (.var 0) (.var 2) (.cmp .gt (.var 0) (.int 0)))) (.cons (.assign [] 4 (.int 1)) (.cons (.whil (.cmp .lt (.bin .shl (.int 1) (.var 4)) (.lenv 3)) (.cons (.aug [] 4 .add (.int 1)) .nil)) (.cons (.assign [1] 5 (.bin .add (.var 4) (.call 13 (.cons (.var 1) (.cons (.bin .sub (.int 6) (.var 4)) .nil))))) (.cons (.ite [2] (.and (.cmp .gt (.var 4) (.int 1)) (.not (.call 24 (.cons (.var 2) (.cons (.bin .sub (.var 4) (.int 1)) .nil))))) (.cons (.ret [] (.bool false)) .nil) .nil) (.cons (.assign [2] 6 (.call 20 (.cons (.var 2) (.cons (.var 5) .nil)))) (.cons (.ite [6, 2] (.or (.cmp .is_ (.var 6) .none) (.or (.not (.call 21 (.cons (.var 2) (.cons (.var 6) .nil)))) (.not (.call 24 (.cons (.bin .add (.var 2) (.list (.cons (.neg (.int 1)) .nil))) (.cons (.int 11) .nil)))))) (.cons (.ret [] (.bool false)) .nil) .nil) (.cons (.ite [3] (.cmp .eq (.var 3) (.list .nil)) (.cons (.ret [] (.bool true)) .nil) .nil) (.cons (.assign [2] 7 (.bi .max1 (.cons (.comp [0, 1] true [none, none] (.var 0) (.enum (.var 2)) (.cmp .gt (.var 1) (.int 0))) .nil))) (.cons (.ite [2, 6, 7] (.or (.not (.call 23 (.cons (.var 2) (.cons (.slice (.var 6) .none (.var 7) .none) .nil)))) (.not (.call 23 (.cons (.var 2) (.cons (.bin .add (.bin .add (.slice (.var 6) .none (.var 7) .none) (.list (.cons (.int 0) .nil))) (.slice (.var 6) (.bin .add (.var 7) (.int 1)) .none .none)) .nil))))) (.cons (.ret [] (.bool false)) .nil) .nil) (.cons (.ite [2, 3] (.and (.cmp .lt (.lenv 3) (.int 7)) (.not (.call 22 (.cons (.var 2) (.cons (.var 3) .nil))))) (.cons (.ret [] (.bool false)) .nil) .nil) (.cons (.assign [2, 6] 8 (.call 15 (.cons (.var 2) (.cons (.var 6) .nil)))) (.cons (.ite [8, 3] (.and (.cmp .gt (.lenv 3) (.int 1)) (.cmp .ne (.var 8) (.call 16 (.cons (.var 3) (.cons (.var 5) .nil))))) (.cons (.ret [] (.bool false)) .nil) .nil) (.cons (.ite [8, 3] (.and (.cmp .gt (.lenv 3) (.int 1)) (.and (.cmp .lt (.lenv 3) (.int 5)) (.and (.cmp .lt (.var 5) (.int 5)) (.cmp .ne (.var 8) (.call 18 (.cons (.var 3) (.cons (.var 5) .nil))))))) (.cons (.ret [] (.bool false)) .nil) .nil) (.cons (.assign [2] 9 (.call 20 (.cons (.var 2) (.cons (.bin .add (.lenv 3) (.int 1)) .nil)))) (.cons (.ite [9, 2, 8] (.or (.cmp .is_ (.var 9) .none) (.and (.cmp .gt (.call 15 (.cons (.var 2) (.cons (.var 9) .nil))) (.var 8)) (.cmp .ge (.bin .add (.lenv 3) (.int 1)) (.var 5)))) (.cons (.ret [] (.bool false)) .nil) .nil) (.cons (.ite [2, 9, 3] (.and (.cmp .gt (.lenv 3) (.int 1)) (.cmp .ne (.call 15 (.cons (.var 2) (.cons (.var 9) .nil))) (.call 19 (.cons (.var 3) .nil)))) (.cons (.ret [] (.bool false)) .nil) .nil) (.cons (.assign [1] 10 (.bin .add (.int 2) (.call 13 (.cons (.var 1) (.cons (.int 1000) .nil))))) (.cons (.assign [2] 11 (.call 20 (.cons (.comp [0] false [none, some 10] (.bin .mul (.var 0) (.var 1)) (.var 2) (.bool true)) (.cons (.var 5) .nil)))) (.cons (.assign [2] 12 (.call 20 (.cons (.slice (.var 2) .none .none (.neg (.int 1))) (.cons (.var 5) .nil)))) (.cons (.ite [11, 12] (.or (.cmp .is_ (.var 11) .none) (.cmp .is_ (.var 12) .none)) (.cons (.ret [] (.bool false)) .nil) .nil) (.cons (.ret [2, 11, 8, 12] (.and (.cmp .eq (.call 15 (.cons (.var 2) (.cons (.var 11) .nil))) (.var 8)) (.cmp .eq (.call 15 (.cons (.slice (.var 2) .none .none (.neg (.int 1))) (.cons (.var 12) .nil))) (.var 8)))) .nil)))))))))))))))))))))))
end Mini
end
section -- HD
open PySem PySem.W PyProof.Rows
namespace Mini
noncomputable def funs : List (Str × Arguments × List Stmt × Scope) := PySem.Challenge.pw_no0092_01.main.body.filterMap fun
  | .FunctionDef n a b _ _ _ sc _ _ _ => some (n, a, b, sc)
  | _ => none
noncomputable def nameF (i : Nat) : Str := ((funs[i]?).map (·.1)).getD default
noncomputable def parsF (i : Nat) : Arguments := ((funs[i]?).map (·.2.1)).getD default
noncomputable def scopeF (i : Nat) : Scope := ((funs[i]?).map (·.2.2.2)).getD default
noncomputable def bodyF (i : Nat) : List Stmt := ((funs[i]?).map (·.2.2.1)).getD []
/-- the refusals' own __init__ -/
noncomputable def initF : Str × Arguments × List Stmt × Scope := match PySem.Challenge.pw_no0092_01.main.body.drop 1 with
  | Stmt.ClassDef _ _ _ (Stmt.FunctionDef n a b _ _ _ sc _ _ _ :: _) _ _ _ _ _ _ _ :: _ => (n, a, b, sc)
  | _ => default
end Mini
namespace Mine
open Mini
/-- the text's statements that the view keeps -/
noncomputable def vw : Program := { PySem.Challenge.pw_no0092_01 with main := { PySem.Challenge.pw_no0092_01.main with body := (PySem.Challenge.pw_no0092_01.main.body.drop 1).take 3 ++ (PySem.Challenge.pw_no0092_01.main.body.drop 5).take 2 ++ (PySem.Challenge.pw_no0092_01.main.body.drop 8).take 9 ++ PySem.Challenge.pw_no0092_01.main.body.drop 18 } }
noncomputable def de (P : Params) (k : Str) (i : Nat) (v : Value) : DictEntry := { hash := PyData.keyHash P k, key := .str k i, val := v }
noncomputable def coO (n : Str) (i1 i2 i3 : Nat) (l a : Int) (r1 : Nat) (k : Int) (r2 : Nat) (v3 v4 : Value) (r5 : Nat) (m : Int) (i4 : Nat) : Obj :=
  { cls := .type "code", data := .fields #[.str n i1, .str n i2, .str "/claim/cut.py" i3, .int l 0, .int a 0, .int 0 0, .int 0 0, .int 3 0, .ref r1, .bool true, .int k 0, .ref r2, .none, v3, v4, .ref r5, .int m 0, .int l 0, .str "/claim/cut.py" i4] }
noncomputable def fnD (i : Nat) (d m : Value) (c : Nat) : FuncData :=
  { name := nameF i, qualname := nameF i, params := parsF i, body := .stmts (bodyF i), scope := scopeF i, globals := 3, closure := [], defaults := d, kwdefaults := .none, pyModule := m, code := .ref c }
noncomputable def fnO (i : Nat) (d m : Value) (c : Nat) : Obj := { cls := .type "function", data := .func (fnD i d m c) }
/-- what is known of the heap behind the top -/
noncomputable def KF (P : Params) : Frag := [
  (3, ⟨.type "dict", none, .dict #[de P "__name__" 165 (.str "law_no0092_01" 371), de P "__doc__" 166 (.none), de P "__package__" 167 (.none), de P "__loader__" 168 (.builtin "__main__.__loader__#opaque"), de P "__spec__" 169 (.none), de P "__annotations__" 170 (.ref 6), de P "__builtins__" 171 (.ref 4), de P "__file__" 173 (.str "/claim/cut.py" 172), de P "__cached__" 174 (.none), de P "PressError" 216 (.ref 32), de P "BadCode" 232 (.ref 45), de P "BadArgument" 248 (.ref 57), de P "counts_by_length" 260 (.ref 66), de P "room_of" 269 (.ref 73), de P "check_lengths" 281 (.ref 81), de P "used_symbols" 291 (.ref 88), de P "total_bits" 302 (.ref 95), de P "placed" 314 (.ref 102), de P "tree_depths" 331 (.ref 109), de P "free_lengths" 337 (.ref 114), de P "check_room" 345 (.ref 121), de P "merged" 358 (.ref 128), de P "package_depths" 364 (.ref 133), de P "least_lengths" 370 (.ref 138), de P "_law_pool" 381 (.ref 145), de P "_law_take" 390 (.ref 152), de P "_law_counts" 406 (.ref 159), de P "_law_total" 417 (.ref 166), de P "_law_least" 423 (.ref 171), de P "_law_rows" 436 (.ref 178), de P "_law_by_rows" 449 (.ref 185), de P "_law_merged" 459 (.ref 192), de P "_law_row_right" 465 (.ref 197), de P "_law_ordered" 477 (.ref 204), de P "_law_low_tree_right" 483 (.ref 209), de P "_law_total_refused" 491 (.ref 216), de P "_law_refused" 499 (.ref 223), de P "law" 505 (.ref 228)] 38, #[]⟩),
  (22, { cls := .type "tuple", data := .seq #[.str "" 201] }),
  (28, { cls := .type "code", data := .fields #[.str "__init__" 202, .str "PressError.__init__" 203, .str "/claim/cut.py" 204, .int 4 0, .int 2 0, .int 0 0, .int 0 0, .int 3 0, .ref 23, .bool true, .int 181 0, .ref 24, .none, .ref 25, .ref 26, .ref 27, .int 207 0, .int 4 0, .str "/claim/cut.py" 208] }),
  (29, { cls := .type "function", data := .func { name := initF.1, qualname := "PressError.__init__", params := initF.2.1, body := .stmts initF.2.2.1, scope := initF.2.2.2, globals := 3, closure := [], defaults := .ref 22, kwdefaults := .none, pyModule := .str "threepress.errors" 187, code := .ref 28 } }),
  (31, ⟨.type "dict", none, .dict #[de P "__module__" 196 (.str "threepress.errors" 187), de P "__firstlineno__" 200 (.int 2 199), de P "__init__" 209 (.ref 29), de P "__static_attributes__" 211 (.ref 30), de P "__weakref__" 213 (.ref 33), de P "__doc__" 214 (.none)] 3, #[]⟩),
  (32, { cls := .type "type", data := .cls { name := "PressError", bases := [.type "ValueError"], mro := [.ref 32, .type "ValueError", .type "Exception", .type "BaseException", .type "object"], ns := 31, qualname := "PressError", subclasses := [.ref 45, .ref 57] }, slots := #[some (.ref 15), none, some (.str "PressError" 189), some (.str "PressError" 197), some (.builtin "ValueError.__new__"), some (.bool true)] }),
  (56, ⟨.type "dict", none, .dict #[de P "__module__" 240 (.str "threepress.errors" 187), de P "__firstlineno__" 244 (.int 9 243), de P "__static_attributes__" 245 (.ref 55), de P "__doc__" 246 (.none)] 2, #[]⟩),
  (57, { cls := .type "type", data := .cls { name := "BadArgument", bases := [.ref 32], mro := [.ref 57, .ref 32, .type "ValueError", .type "Exception", .type "BaseException", .type "object"], ns := 56, qualname := "BadArgument" }, slots := #[some (.ref 48), none, some (.str "BadArgument" 233), some (.str "BadArgument" 241), some (.builtin "ValueError.__new__"), some (.bool true)] }),
  (65, coO "counts_by_length" 251 252 253 12 2 60 181 61 (.ref 62) (.ref 63) 64 258 259),
  (66, fnO 0 (.none) (.str "threepress.prefix" 249) 65),
  (72, coO "room_of" 261 262 263 19 1 67 181 68 (.ref 69) (.ref 70) 71 267 268),
  (73, fnO 1 (.none) (.str "threepress.prefix" 249) 72),
  (74, { cls := .type "tuple", data := .seq #[.bool false] }),
  (80, coO "check_lengths" 270 271 272 24 3 75 181 76 (.ref 77) (.ref 78) 79 279 280),
  (81, fnO 2 (.ref 74) (.str "threepress.prefix" 249) 80),
  (87, coO "used_symbols" 282 283 284 36 1 82 181 83 (.ref 84) (.ref 85) 86 289 290),
  (88, fnO 3 (.none) (.str "threepress.prefix" 249) 87),
  (94, coO "total_bits" 292 293 294 44 2 89 181 90 (.ref 91) (.ref 92) 93 300 301),
  (95, fnO 4 (.none) (.str "threepress.prefix" 249) 94),
  (101, coO "placed" 303 304 305 52 3 96 181 97 (.ref 98) (.ref 99) 100 312 313),
  (102, fnO 5 (.none) (.str "threepress.prefix" 249) 101),
  (108, coO "tree_depths" 315 316 317 57 1 103 181 104 (.ref 105) (.ref 106) 107 329 330),
  (109, fnO 6 (.none) (.str "threepress.prefix" 249) 108),
  (113, coO "free_lengths" 332 333 334 76 1 110 181 111 (.none) (.none) 112 335 336),
  (114, fnO 7 (.none) (.str "threepress.prefix" 249) 113),
  (120, coO "check_room" 338 339 340 81 2 115 181 116 (.ref 117) (.ref 118) 119 343 344),
  (121, fnO 8 (.none) (.str "threepress.prefix" 249) 120),
  (127, coO "merged" 346 347 348 84 2 122 181 123 (.ref 124) (.ref 125) 126 356 357),
  (128, fnO 9 (.none) (.str "threepress.prefix" 249) 127),
  (132, coO "package_depths" 359 360 361 96 2 129 181 130 (.none) (.none) 131 362 363),
  (133, fnO 10 (.none) (.str "threepress.prefix" 249) 132),
  (137, coO "least_lengths" 365 366 367 111 2 134 181 135 (.none) (.none) 136 368 369),
  (138, fnO 11 (.none) (.str "threepress.prefix" 249) 137),
  (144, coO "_law_pool" 373 374 375 118 1 139 181 140 (.ref 141) (.ref 142) 143 379 380),
  (145, fnO 12 (.none) (.str "law_no0092_01" 371) 144),
  (151, coO "_law_take" 382 383 384 123 2 146 181 147 (.ref 148) (.ref 149) 150 388 389),
  (152, fnO 13 (.none) (.str "law_no0092_01" 371) 151),
  (158, coO "_law_counts" 391 392 393 130 1 153 181 154 (.ref 155) (.ref 156) 157 404 405),
  (159, fnO 14 (.none) (.str "law_no0092_01" 371) 158),
  (165, coO "_law_total" 407 408 409 154 2 160 181 161 (.ref 162) (.ref 163) 164 415 416),
  (166, fnO 15 (.none) (.str "law_no0092_01" 371) 165),
  (170, coO "_law_least" 418 419 420 159 2 167 181 168 (.none) (.none) 169 421 422),
  (171, fnO 16 (.none) (.str "law_no0092_01" 371) 170),
  (177, coO "_law_rows" 424 425 426 175 2 172 181 173 (.ref 174) (.ref 175) 176 434 435),
  (178, fnO 17 (.none) (.str "law_no0092_01" 371) 177),
  (184, coO "_law_by_rows" 437 438 439 184 2 179 181 180 (.ref 181) (.ref 182) 183 447 448),
  (185, fnO 18 (.none) (.str "law_no0092_01" 371) 184),
  (191, coO "_law_merged" 450 451 452 195 1 186 181 187 (.ref 188) (.ref 189) 190 457 458),
  (192, fnO 19 (.none) (.str "law_no0092_01" 371) 191),
  (196, coO "_law_row_right" 460 461 462 202 2 193 181 194 (.none) (.none) 195 463 464),
  (197, fnO 20 (.none) (.str "law_no0092_01" 371) 196),
  (203, coO "_law_ordered" 466 467 468 221 2 198 181 199 (.ref 200) (.ref 201) 202 475 476),
  (204, fnO 21 (.none) (.str "law_no0092_01" 371) 203),
  (208, coO "_law_low_tree_right" 478 479 480 227 2 205 181 206 (.none) (.none) 207 481 482),
  (209, fnO 22 (.none) (.str "law_no0092_01" 371) 208),
  (215, coO "_law_total_refused" 484 485 486 240 2 210 181 211 (.ref 212) (.ref 213) 214 489 490),
  (216, fnO 23 (.none) (.str "law_no0092_01" 371) 215),
  (222, coO "_law_refused" 492 493 494 246 2 217 181 218 (.ref 219) (.ref 220) 221 497 498),
  (223, fnO 24 (.none) (.str "law_no0092_01" 371) 222)]
noncomputable def ksF : List Addr := [3, 22, 28, 29, 31, 32, 56, 57, 65, 66, 72, 73, 74, 80, 81, 87, 88, 94, 95, 101, 102, 108, 109, 113, 114, 120, 121, 127, 128, 132, 133, 137, 138, 144, 145, 151, 152, 158, 159, 165, 166, 170, 171, 177, 178, 184, 185, 191, 192, 196, 197, 203, 204, 208, 209, 215, 216, 222, 223]
theorem ksF_eq (P : Params) : ksF = (KF P).map (·.1) := rfl
noncomputable def hk : Hook := kHook KF ksF ksF_eq
theorem said : OpenLaw.wellSaid PySem.Challenge.rw_no0092_01 = true := by
  unfold OpenLaw.wellSaid OpenRow.wellSaid OpenRow.partSaid looksOpen
  rw [PySem.W.Fast.named_eq]
  simp only [Bool.and_eq_true]
  and_intros
  all_goals ((try rw [PySem.W.Fast.te2368527892694137696]); (try rw [PySem.W.Fast.te11788848310118352699]); (try rw [PySem.W.Fast.te8377067652309620493]); (try rw [PySem.W.Fast.te17119622794617984870]); (try rw [PySem.W.Fast.te10501279942588096481]); (try rw [PySem.W.Fast.te8179353310426384613]); (try rw [PySem.W.Fast.te797321630700447069]); (try rw [PySem.W.Fast.te9572597257264208301]); (try rw [PySem.W.Fast.te9558739934217749035]); (try rw [PySem.W.Fast.te16286561074155671207]); (try rw [PySem.W.Fast.te6984425678791042302]); (try rw [PySem.W.Fast.te17095254045102204799]); (try rw [PySem.W.Fast.te12879404354523853263]); (try rw [PySem.W.Fast.te482687673346738481]); (try rw [PySem.W.Fast.te3471404346716756564]); (try rw [PySem.W.Fast.te10792542408131684335]); (try rw [PySem.W.Fast.te7723801398212525404]); (try rw [PySem.W.Fast.te18344453789297297638]); (try rw [PySem.W.Fast.te12749700546528644094]); (try rw [PySem.W.Fast.te14412699480532031325]); (try rw [PySem.W.Fast.te13582783067957832011]); (try rw [PySem.W.Fast.te9807087744658564304]); (try rw [PySem.W.Fast.te12862048085361865435]); (try rw [PySem.W.Fast.te13343964577679436407]); (try rw [PySem.W.Fast.te17868728402115742887]); (try rw [PySem.W.Fast.te8326940854005059898]); (try rw [PySem.W.Fast.te5923862056798008813]); decide +kernel)
noncomputable def loF : List Str := ["PressError", "check_lengths"]
noncomputable def cpO (i : Nat) : Obj := { cls := .none, data := .func { name := nameF i, qualname := nameF i, params := parsF i, body := .stmts (bodyF i), scope := scopeF i, globals := 0, closure := [], defaults := .none, kwdefaults := .none } }
noncomputable def o11 (P : Params) : Obj := { cls := .type "tuple", data := .seq #[] }
noncomputable def o12 (P : Params) : Obj := { cls := .none, data := .fields #[] }
noncomputable def o13 (P : Params) : Obj := { cls := .type "code", data := .fields #[.str "<module>" 182, .str "<module>" 183, .str "/claim/cut.py" 184, .int 1 0, .int 0 0, .int 0 0, .int 0 0, .int 0 0, .ref 11, .bool false, .int 181 0, .ref 12, .none, .none, .none, .none, .int 185 0, .int 1 0, .str "/claim/cut.py" 186] }
noncomputable def o14 (P : Params) : Obj := { cls := .type "frame", slots := #[some (.ref 13), some (.ref 3), some (.ref 3), none, some (.str "__main__" 164), none, some (.ref 0)] }

noncomputable def t_pre (P : Params) : BT := .node (boot_o_0 P) (.node (boot_o_1 P) (.node (boot_o_3 P) (.node (boot_o_7 P) .nil .nil) (.node (o11 P) .nil .nil)) (.node (boot_o_5 P) (.node (boot_o_9 P) .nil .nil) (.node (o13 P) .nil .nil))) (.node (boot_o_2 P) (.node (boot_o_4 P) (.node (boot_o_8 P) .nil .nil) (.node (o12 P) .nil .nil)) (.node (boot_o_6 P) (.node (boot_o_10 P) .nil .nil) (.node (o14 P) .nil .nil)))
noncomputable def o3_p1 (P : Params) : Obj := { cls := .type "dict", data := .dict #[de P "__name__" 165 (.str "threepress.errors" 187), de P "__doc__" 166 (.none), de P "__package__" 167 (.none), de P "__loader__" 168 (.builtin "__main__.__loader__#opaque"), de P "__spec__" 169 (.none), de P "__annotations__" 170 (.ref 6), de P "__builtins__" 171 (.ref 4), de P "__file__" 173 (.str "/claim/cut.py" 172), de P "__cached__" 174 (.none), de P "PressError" 216 (.ref 32)] 10 }
noncomputable def o12_p1 (P : Params) : Obj := { cls := .none, data := .fields #[.int 2 0, .int 0 0, .ref 20] }
noncomputable def o15 (P : Params) : Obj := { cls := .type "tuple", data := .seq #[.type "ValueError"] }
noncomputable def o16 (P : Params) : Obj := { cls := .type "builtin_function_or_method", data := .fields #[.builtin "type.__prepare__", .type "type"] }
noncomputable def o17 (P : Params) : Obj := { cls := .type "dict", data := .dict #[de P "__module__" 196 (.str "threepress.errors" 187), de P "__qualname__" 198 (.str "PressError" 197), de P "__firstlineno__" 200 (.int 2 199), de P "__init__" 209 (.ref 29), de P "__static_attributes__" 211 (.ref 30)] 5 }
noncomputable def o19 (P : Params) : Obj := { cls := .none, data := .fields #[.int 4 0, .int 4 0, .ref 28] }
noncomputable def o20 (P : Params) : Obj := { cls := .type "code", data := .fields #[.str "PressError" 191, .str "PressError" 192, .str "/claim/cut.py" 193, .int 2 0, .int 0 0, .int 0 0, .int 0 0, .int 0 0, .ref 18, .bool false, .int 181 0, .ref 19, .none, .none, .none, .none, .int 194 0, .int 2 0, .str "/claim/cut.py" 195] }
noncomputable def o21 (P : Params) : Obj := { cls := .type "frame", slots := #[some (.ref 20), some (.ref 3), some (.ref 17), none, some (.str "threepress.errors" 187), none, some (.ref 0)] }
noncomputable def o22 (P : Params) : Obj := { cls := .type "tuple", data := .seq #[.str "" 201] }
noncomputable def o25 (P : Params) : Obj := { cls := .type "tuple", data := .seq #[.str "self" 205, .str "reason" 206] }
noncomputable def o27 (P : Params) : Obj := { cls := .none, data := .func { name := initF.1, qualname := "PressError.__init__", params := initF.2.1, body := .stmts initF.2.2.1, scope := initF.2.2.2, globals := 0, closure := [], defaults := .none, kwdefaults := .none, pyModule := .none, code := .none } }
noncomputable def o28 (P : Params) : Obj := { cls := .type "code", data := .fields #[.str "__init__" 202, .str "PressError.__init__" 203, .str "/claim/cut.py" 204, .int 4 0, .int 2 0, .int 0 0, .int 0 0, .int 3 0, .ref 23, .bool true, .int 181 0, .ref 24, .none, .ref 25, .ref 26, .ref 27, .int 207 0, .int 4 0, .str "/claim/cut.py" 208] }
noncomputable def o29 (P : Params) : Obj := { cls := .type "function", data := .func { name := initF.1, qualname := "PressError.__init__", params := initF.2.1, body := .stmts initF.2.2.1, scope := initF.2.2.2, globals := 3, closure := [], defaults := .ref 22, kwdefaults := .none, pyModule := .str "threepress.errors" 187, code := .ref 28 } }
noncomputable def o30 (P : Params) : Obj := { cls := .type "tuple", data := .seq #[.str "reason" 210] }
noncomputable def o31 (P : Params) : Obj := { cls := .type "dict", data := .dict #[de P "__module__" 196 (.str "threepress.errors" 187), de P "__firstlineno__" 200 (.int 2 199), de P "__init__" 209 (.ref 29), de P "__static_attributes__" 211 (.ref 30), de P "__weakref__" 213 (.ref 33), de P "__doc__" 214 (.none)] 3 }
noncomputable def o32_p1 (P : Params) : Obj := { cls := .type "type", data := .cls { name := "PressError", bases := [.type "ValueError"], mro := [.ref 32, .type "ValueError", .type "Exception", .type "BaseException", .type "object"], ns := 31, qualname := "PressError" }, slots := #[some (.ref 15), none, some (.str "PressError" 189), some (.str "PressError" 197), some (.builtin "ValueError.__new__"), some (.bool true)] }
noncomputable def o33 (P : Params) : Obj := { cls := .type "getset_descriptor", data := .fields #[.str "__weakref__" 212, .ref 32, .builtin "ExceptionGroup.__weakref__", .none] }
noncomputable def o34 (P : Params) : Obj := { cls := .type "super", data := .fields #[.ref 32, .ref 32, .ref 32] }
noncomputable def o35 (P : Params) : Obj := { cls := .type "builtin_function_or_method", data := .fields #[.builtin "object.__init_subclass__", .ref 32] }

noncomputable def t_p1 (P : Params) : BT := .node (boot_o_0 P) (.node (boot_o_1 P) (.node (o3_p1 P) (.node (boot_o_7 P) (.node (o15 P) (.node (o31 P) .nil .nil) .nil) (.node (o11 P) .nil .nil)) (.node (o11 P) (.node (o19 P) (.node (o35 P) .nil .nil) .nil) (.node (o27 P) .nil .nil))) (.node (boot_o_5 P) (.node (boot_o_9 P) (.node (o17 P) (.node (o33 P) .nil .nil) .nil) (.node (o25 P) .nil .nil)) (.node (o13 P) (.node (o21 P) .nil .nil) (.node (o29 P) .nil .nil)))) (.node (boot_o_2 P) (.node (boot_o_4 P) (.node (boot_o_8 P) (.node (o16 P) (.node (o32_p1 P) .nil .nil) .nil) (.node (o12 P) .nil .nil)) (.node (o12_p1 P) (.node (o20 P) .nil .nil) (.node (o28 P) .nil .nil))) (.node (boot_o_6 P) (.node (boot_o_10 P) (.node (o11 P) (.node (o34 P) .nil .nil) .nil) (.node (o11 P) .nil .nil)) (.node (o14 P) (.node (o22 P) .nil .nil) (.node (o30 P) .nil .nil))))
noncomputable def o3_p2 (P : Params) : Obj := { cls := .type "dict", data := .dict #[de P "__name__" 165 (.str "threepress.errors" 187), de P "__doc__" 166 (.none), de P "__package__" 167 (.none), de P "__loader__" 168 (.builtin "__main__.__loader__#opaque"), de P "__spec__" 169 (.none), de P "__annotations__" 170 (.ref 6), de P "__builtins__" 171 (.ref 4), de P "__file__" 173 (.str "/claim/cut.py" 172), de P "__cached__" 174 (.none), de P "PressError" 216 (.ref 32), de P "BadCode" 232 (.ref 45)] 11 }
noncomputable def o12_p2 (P : Params) : Obj := { cls := .none, data := .fields #[.int 2 0, .int 0 0, .ref 20, .int 7 0, .int 0 0, .ref 41] }
noncomputable def o32_p2 (P : Params) : Obj := { cls := .type "type", data := .cls { name := "PressError", bases := [.type "ValueError"], mro := [.ref 32, .type "ValueError", .type "Exception", .type "BaseException", .type "object"], ns := 31, qualname := "PressError", subclasses := [.ref 45] }, slots := #[some (.ref 15), none, some (.str "PressError" 189), some (.str "PressError" 197), some (.builtin "ValueError.__new__"), some (.bool true)] }
noncomputable def o36 (P : Params) : Obj := { cls := .type "tuple", data := .seq #[.ref 32] }
noncomputable def o38 (P : Params) : Obj := { cls := .type "dict", data := .dict #[de P "__module__" 224 (.str "threepress.errors" 187), de P "__qualname__" 226 (.str "BadCode" 225), de P "__firstlineno__" 228 (.int 7 227), de P "__static_attributes__" 229 (.ref 43)] 4 }
noncomputable def o41 (P : Params) : Obj := { cls := .type "code", data := .fields #[.str "BadCode" 219, .str "BadCode" 220, .str "/claim/cut.py" 221, .int 7 0, .int 0 0, .int 0 0, .int 0 0, .int 0 0, .ref 39, .bool false, .int 181 0, .ref 40, .none, .none, .none, .none, .int 222 0, .int 7 0, .str "/claim/cut.py" 223] }
noncomputable def o42 (P : Params) : Obj := { cls := .type "frame", slots := #[some (.ref 41), some (.ref 3), some (.ref 38), none, some (.str "threepress.errors" 187), none, some (.ref 0)] }
noncomputable def o44 (P : Params) : Obj := { cls := .type "dict", data := .dict #[de P "__module__" 224 (.str "threepress.errors" 187), de P "__firstlineno__" 228 (.int 7 227), de P "__static_attributes__" 229 (.ref 43), de P "__doc__" 230 (.none)] 2 }
noncomputable def o45 (P : Params) : Obj := { cls := .type "type", data := .cls { name := "BadCode", bases := [.ref 32], mro := [.ref 45, .ref 32, .type "ValueError", .type "Exception", .type "BaseException", .type "object"], ns := 44, qualname := "BadCode" }, slots := #[some (.ref 36), none, some (.str "BadCode" 217), some (.str "BadCode" 225), some (.builtin "ValueError.__new__"), some (.bool true)] }
noncomputable def o46 (P : Params) : Obj := { cls := .type "super", data := .fields #[.ref 45, .ref 45, .ref 45] }
noncomputable def o47 (P : Params) : Obj := { cls := .type "builtin_function_or_method", data := .fields #[.builtin "object.__init_subclass__", .ref 45] }

noncomputable def t_p2 (P : Params) : BT := .node (boot_o_0 P) (.node (boot_o_1 P) (.node (o3_p2 P) (.node (boot_o_7 P) (.node (o15 P) (.node (o31 P) .nil .nil) (.node (o47 P) .nil .nil)) (.node (o11 P) (.node (o11 P) .nil .nil) .nil)) (.node (o11 P) (.node (o19 P) (.node (o35 P) .nil .nil) .nil) (.node (o27 P) (.node (o11 P) .nil .nil) .nil))) (.node (boot_o_5 P) (.node (boot_o_9 P) (.node (o17 P) (.node (o33 P) .nil .nil) .nil) (.node (o25 P) (.node (o41 P) .nil .nil) .nil)) (.node (o13 P) (.node (o21 P) (.node (o16 P) .nil .nil) .nil) (.node (o29 P) (.node (o45 P) .nil .nil) .nil)))) (.node (boot_o_2 P) (.node (boot_o_4 P) (.node (boot_o_8 P) (.node (o16 P) (.node (o32_p2 P) .nil .nil) .nil) (.node (o12 P) (.node (o12 P) .nil .nil) .nil)) (.node (o12_p2 P) (.node (o20 P) (.node (o36 P) .nil .nil) .nil) (.node (o28 P) (.node (o44 P) .nil .nil) .nil))) (.node (boot_o_6 P) (.node (boot_o_10 P) (.node (o11 P) (.node (o34 P) .nil .nil) .nil) (.node (o11 P) (.node (o42 P) .nil .nil) .nil)) (.node (o14 P) (.node (o22 P) (.node (o38 P) .nil .nil) .nil) (.node (o30 P) (.node (o46 P) .nil .nil) .nil))))
noncomputable def o3_p3 (P : Params) : Obj := { cls := .type "dict", data := .dict #[de P "__name__" 165 (.str "threepress.errors" 187), de P "__doc__" 166 (.none), de P "__package__" 167 (.none), de P "__loader__" 168 (.builtin "__main__.__loader__#opaque"), de P "__spec__" 169 (.none), de P "__annotations__" 170 (.ref 6), de P "__builtins__" 171 (.ref 4), de P "__file__" 173 (.str "/claim/cut.py" 172), de P "__cached__" 174 (.none), de P "PressError" 216 (.ref 32), de P "BadCode" 232 (.ref 45), de P "BadArgument" 248 (.ref 57)] 12 }
noncomputable def o12_p3 (P : Params) : Obj := { cls := .none, data := .fields #[.int 2 0, .int 0 0, .ref 20, .int 7 0, .int 0 0, .ref 41, .int 9 0, .int 0 0, .ref 53] }
noncomputable def o32_p3 (P : Params) : Obj := { cls := .type "type", data := .cls { name := "PressError", bases := [.type "ValueError"], mro := [.ref 32, .type "ValueError", .type "Exception", .type "BaseException", .type "object"], ns := 31, qualname := "PressError", subclasses := [.ref 45, .ref 57] }, slots := #[some (.ref 15), none, some (.str "PressError" 189), some (.str "PressError" 197), some (.builtin "ValueError.__new__"), some (.bool true)] }
noncomputable def o50 (P : Params) : Obj := { cls := .type "dict", data := .dict #[de P "__module__" 240 (.str "threepress.errors" 187), de P "__qualname__" 242 (.str "BadArgument" 241), de P "__firstlineno__" 244 (.int 9 243), de P "__static_attributes__" 245 (.ref 55)] 4 }
noncomputable def o53 (P : Params) : Obj := { cls := .type "code", data := .fields #[.str "BadArgument" 235, .str "BadArgument" 236, .str "/claim/cut.py" 237, .int 9 0, .int 0 0, .int 0 0, .int 0 0, .int 0 0, .ref 51, .bool false, .int 181 0, .ref 52, .none, .none, .none, .none, .int 238 0, .int 9 0, .str "/claim/cut.py" 239] }
noncomputable def o54 (P : Params) : Obj := { cls := .type "frame", slots := #[some (.ref 53), some (.ref 3), some (.ref 50), none, some (.str "threepress.errors" 187), none, some (.ref 0)] }
noncomputable def o56 (P : Params) : Obj := { cls := .type "dict", data := .dict #[de P "__module__" 240 (.str "threepress.errors" 187), de P "__firstlineno__" 244 (.int 9 243), de P "__static_attributes__" 245 (.ref 55), de P "__doc__" 246 (.none)] 2 }
noncomputable def o57 (P : Params) : Obj := { cls := .type "type", data := .cls { name := "BadArgument", bases := [.ref 32], mro := [.ref 57, .ref 32, .type "ValueError", .type "Exception", .type "BaseException", .type "object"], ns := 56, qualname := "BadArgument" }, slots := #[some (.ref 48), none, some (.str "BadArgument" 233), some (.str "BadArgument" 241), some (.builtin "ValueError.__new__"), some (.bool true)] }
noncomputable def o58 (P : Params) : Obj := { cls := .type "super", data := .fields #[.ref 57, .ref 57, .ref 57] }
noncomputable def o59 (P : Params) : Obj := { cls := .type "builtin_function_or_method", data := .fields #[.builtin "object.__init_subclass__", .ref 57] }

noncomputable def t_p3 (P : Params) : BT := .node (boot_o_0 P) (.node (boot_o_1 P) (.node (o3_p3 P) (.node (boot_o_7 P) (.node (o15 P) (.node (o31 P) .nil .nil) (.node (o47 P) .nil .nil)) (.node (o11 P) (.node (o11 P) .nil .nil) (.node (o11 P) .nil .nil))) (.node (o11 P) (.node (o19 P) (.node (o35 P) .nil .nil) (.node (o11 P) .nil .nil)) (.node (o27 P) (.node (o11 P) .nil .nil) (.node (o59 P) .nil .nil)))) (.node (boot_o_5 P) (.node (boot_o_9 P) (.node (o17 P) (.node (o33 P) .nil .nil) (.node (o16 P) .nil .nil)) (.node (o25 P) (.node (o41 P) .nil .nil) (.node (o57 P) .nil .nil))) (.node (o13 P) (.node (o21 P) (.node (o16 P) .nil .nil) (.node (o53 P) .nil .nil)) (.node (o29 P) (.node (o45 P) .nil .nil) .nil)))) (.node (boot_o_2 P) (.node (boot_o_4 P) (.node (boot_o_8 P) (.node (o16 P) (.node (o32_p3 P) .nil .nil) (.node (o36 P) .nil .nil)) (.node (o12 P) (.node (o12 P) .nil .nil) (.node (o56 P) .nil .nil))) (.node (o12_p3 P) (.node (o20 P) (.node (o36 P) .nil .nil) (.node (o12 P) .nil .nil)) (.node (o28 P) (.node (o44 P) .nil .nil) .nil))) (.node (boot_o_6 P) (.node (boot_o_10 P) (.node (o11 P) (.node (o34 P) .nil .nil) (.node (o50 P) .nil .nil)) (.node (o11 P) (.node (o42 P) .nil .nil) (.node (o58 P) .nil .nil))) (.node (o14 P) (.node (o22 P) (.node (o38 P) .nil .nil) (.node (o54 P) .nil .nil)) (.node (o30 P) (.node (o46 P) .nil .nil) .nil))))
noncomputable def o3_p9 (P : Params) : Obj := { cls := .type "dict", data := .dict #[de P "__name__" 165 (.str "threepress.prefix" 249), de P "__doc__" 166 (.none), de P "__package__" 167 (.none), de P "__loader__" 168 (.builtin "__main__.__loader__#opaque"), de P "__spec__" 169 (.none), de P "__annotations__" 170 (.ref 6), de P "__builtins__" 171 (.ref 4), de P "__file__" 173 (.str "/claim/cut.py" 172), de P "__cached__" 174 (.none), de P "PressError" 216 (.ref 32), de P "BadCode" 232 (.ref 45), de P "BadArgument" 248 (.ref 57), de P "counts_by_length" 260 (.ref 66), de P "room_of" 269 (.ref 73), de P "check_lengths" 281 (.ref 81), de P "used_symbols" 291 (.ref 88), de P "total_bits" 302 (.ref 95)] 17 }
noncomputable def o12_p9 (P : Params) : Obj := { cls := .none, data := .fields #[.int 2 0, .int 0 0, .ref 20, .int 7 0, .int 0 0, .ref 41, .int 9 0, .int 0 0, .ref 53, .int 12 0, .int 0 0, .ref 65, .int 19 0, .int 0 0, .ref 72, .int 24 0, .int 0 0, .ref 80, .int 36 0, .int 0 0, .ref 87, .int 44 0, .int 0 0, .ref 94] }
noncomputable def o62 (P : Params) : Obj := { cls := .type "tuple", data := .seq #[.str "lengths" 254, .str "longest" 255, .str "found" 256, .str "length" 257] }
noncomputable def o64 (P : Params) : Obj := cpO 0
noncomputable def o65 (P : Params) : Obj := coO "counts_by_length" 251 252 253 12 2 60 181 61 (.ref 62) (.ref 63) 64 258 259
noncomputable def o66 (P : Params) : Obj := fnO 0 (.none) (.str "threepress.prefix" 249) 65
noncomputable def o69 (P : Params) : Obj := { cls := .type "tuple", data := .seq #[.str "counts" 264, .str "left" 265, .str "count" 266] }
noncomputable def o71 (P : Params) : Obj := cpO 1
noncomputable def o72 (P : Params) : Obj := coO "room_of" 261 262 263 19 1 67 181 68 (.ref 69) (.ref 70) 71 267 268
noncomputable def o73 (P : Params) : Obj := fnO 1 (.none) (.str "threepress.prefix" 249) 72
noncomputable def o74 (P : Params) : Obj := { cls := .type "tuple", data := .seq #[.bool false] }
noncomputable def o77 (P : Params) : Obj := { cls := .type "tuple", data := .seq #[.str "lengths" 273, .str "longest" 274, .str "lone" 275, .str "counts" 276, .str "used" 277, .str "left" 278] }
noncomputable def o79 (P : Params) : Obj := cpO 2
noncomputable def o80 (P : Params) : Obj := coO "check_lengths" 270 271 272 24 3 75 181 76 (.ref 77) (.ref 78) 79 279 280
noncomputable def o81 (P : Params) : Obj := fnO 2 (.ref 74) (.str "threepress.prefix" 249) 80
noncomputable def o84 (P : Params) : Obj := { cls := .type "tuple", data := .seq #[.str "counts" 285, .str "found" 286, .str "symbol" 287, .str "count" 288] }
noncomputable def o86 (P : Params) : Obj := cpO 3
noncomputable def o87 (P : Params) : Obj := coO "used_symbols" 282 283 284 36 1 82 181 83 (.ref 84) (.ref 85) 86 289 290
noncomputable def o88 (P : Params) : Obj := fnO 3 (.none) (.str "threepress.prefix" 249) 87
noncomputable def o91 (P : Params) : Obj := { cls := .type "tuple", data := .seq #[.str "counts" 295, .str "lengths" 296, .str "found" 297, .str "symbol" 298, .str "count" 299] }
noncomputable def o93 (P : Params) : Obj := cpO 4
noncomputable def o94 (P : Params) : Obj := coO "total_bits" 292 293 294 44 2 89 181 90 (.ref 91) (.ref 92) 93 300 301
noncomputable def o95 (P : Params) : Obj := fnO 4 (.none) (.str "threepress.prefix" 249) 94

noncomputable def t_p9 (P : Params) : BT := .node (boot_o_0 P) (.node (boot_o_1 P) (.node (o3_p9 P) (.node (boot_o_7 P) (.node (o15 P) (.node (o31 P) (.node (o11 P) .nil .nil) (.node (o95 P) .nil .nil)) (.node (o47 P) (.node (o79 P) .nil .nil) .nil)) (.node (o11 P) (.node (o11 P) (.node (o71 P) .nil .nil) .nil) (.node (o11 P) (.node (o87 P) .nil .nil) .nil))) (.node (o11 P) (.node (o19 P) (.node (o35 P) (.node (o11 P) .nil .nil) .nil) (.node (o11 P) (.node (o12 P) .nil .nil) .nil)) (.node (o27 P) (.node (o11 P) (.node (o11 P) .nil .nil) .nil) (.node (o59 P) (.node (o91 P) .nil .nil) .nil)))) (.node (boot_o_5 P) (.node (boot_o_9 P) (.node (o17 P) (.node (o33 P) (.node (o65 P) .nil .nil) .nil) (.node (o16 P) (.node (o81 P) .nil .nil) .nil)) (.node (o25 P) (.node (o41 P) (.node (o73 P) .nil .nil) .nil) (.node (o57 P) (.node (o11 P) .nil .nil) .nil))) (.node (o13 P) (.node (o21 P) (.node (o16 P) (.node (o69 P) .nil .nil) .nil) (.node (o53 P) (.node (o11 P) .nil .nil) .nil)) (.node (o29 P) (.node (o45 P) (.node (o77 P) .nil .nil) .nil) (.node (o12 P) (.node (o93 P) .nil .nil) .nil))))) (.node (boot_o_2 P) (.node (boot_o_4 P) (.node (boot_o_8 P) (.node (o16 P) (.node (o32_p3 P) (.node (o64 P) .nil .nil) .nil) (.node (o36 P) (.node (o80 P) .nil .nil) .nil)) (.node (o12 P) (.node (o12 P) (.node (o72 P) .nil .nil) .nil) (.node (o56 P) (.node (o88 P) .nil .nil) .nil))) (.node (o12_p9 P) (.node (o20 P) (.node (o36 P) (.node (o12 P) .nil .nil) .nil) (.node (o12 P) (.node (o84 P) .nil .nil) .nil)) (.node (o28 P) (.node (o44 P) (.node (o12 P) .nil .nil) .nil) (.node (o11 P) (.node (o11 P) .nil .nil) .nil)))) (.node (boot_o_6 P) (.node (boot_o_10 P) (.node (o11 P) (.node (o34 P) (.node (o66 P) .nil .nil) .nil) (.node (o50 P) (.node (o11 P) .nil .nil) .nil)) (.node (o11 P) (.node (o42 P) (.node (o74 P) .nil .nil) .nil) (.node (o58 P) (.node (o12 P) .nil .nil) .nil))) (.node (o14 P) (.node (o22 P) (.node (o38 P) (.node (o11 P) .nil .nil) .nil) (.node (o54 P) (.node (o86 P) .nil .nil) .nil)) (.node (o30 P) (.node (o46 P) (.node (o11 P) .nil .nil) .nil) (.node (o62 P) (.node (o94 P) .nil .nil) .nil)))))
noncomputable def o3_p17 (P : Params) : Obj := { cls := .type "dict", data := .dict #[de P "__name__" 165 (.str "law_no0092_01" 371), de P "__doc__" 166 (.none), de P "__package__" 167 (.none), de P "__loader__" 168 (.builtin "__main__.__loader__#opaque"), de P "__spec__" 169 (.none), de P "__annotations__" 170 (.ref 6), de P "__builtins__" 171 (.ref 4), de P "__file__" 173 (.str "/claim/cut.py" 172), de P "__cached__" 174 (.none), de P "PressError" 216 (.ref 32), de P "BadCode" 232 (.ref 45), de P "BadArgument" 248 (.ref 57), de P "counts_by_length" 260 (.ref 66), de P "room_of" 269 (.ref 73), de P "check_lengths" 281 (.ref 81), de P "used_symbols" 291 (.ref 88), de P "total_bits" 302 (.ref 95), de P "placed" 314 (.ref 102), de P "tree_depths" 331 (.ref 109), de P "free_lengths" 337 (.ref 114), de P "check_room" 345 (.ref 121), de P "merged" 358 (.ref 128), de P "package_depths" 364 (.ref 133), de P "least_lengths" 370 (.ref 138)] 24 }
noncomputable def o12_p17 (P : Params) : Obj := { cls := .none, data := .fields #[.int 2 0, .int 0 0, .ref 20, .int 7 0, .int 0 0, .ref 41, .int 9 0, .int 0 0, .ref 53, .int 12 0, .int 0 0, .ref 65, .int 19 0, .int 0 0, .ref 72, .int 24 0, .int 0 0, .ref 80, .int 36 0, .int 0 0, .ref 87, .int 44 0, .int 0 0, .ref 94, .int 52 0, .int 0 0, .ref 101, .int 57 0, .int 0 0, .ref 108, .int 76 0, .int 0 0, .ref 113, .int 81 0, .int 0 0, .ref 120, .int 84 0, .int 0 0, .ref 127, .int 96 0, .int 0 0, .ref 132, .int 111 0, .int 0 0, .ref 137] }
noncomputable def o98 (P : Params) : Obj := { cls := .type "tuple", data := .seq #[.str "size" 306, .str "rows" 307, .str "depths" 308, .str "found" 309, .str "place" 310, .str "depth" 311] }
noncomputable def o100 (P : Params) : Obj := cpO 5
noncomputable def o101 (P : Params) : Obj := coO "placed" 303 304 305 52 3 96 181 97 (.ref 98) (.ref 99) 100 312 313
noncomputable def o102 (P : Params) : Obj := fnO 5 (.none) (.str "threepress.prefix" 249) 101
noncomputable def o105 (P : Params) : Obj := { cls := .type "tuple", data := .seq #[.str "weights" 318, .str "many" 319, .str "parents" 320, .str "leaf" 321, .str "joined" 322, .str "made" 323, .str "both" 324, .str "side" 325, .str "taken" 326, .str "depths" 327, .str "place" 328] }
noncomputable def o107 (P : Params) : Obj := cpO 6
noncomputable def o108 (P : Params) : Obj := coO "tree_depths" 315 316 317 57 1 103 181 104 (.ref 105) (.ref 106) 107 329 330
noncomputable def o109 (P : Params) : Obj := fnO 6 (.none) (.str "threepress.prefix" 249) 108
noncomputable def o112 (P : Params) : Obj := cpO 7
noncomputable def o113 (P : Params) : Obj := coO "free_lengths" 332 333 334 76 1 110 181 111 (.none) (.none) 112 335 336
noncomputable def o114 (P : Params) : Obj := fnO 7 (.none) (.str "threepress.prefix" 249) 113
noncomputable def o117 (P : Params) : Obj := { cls := .type "tuple", data := .seq #[.str "many" 341, .str "longest" 342] }
noncomputable def o119 (P : Params) : Obj := cpO 8
noncomputable def o120 (P : Params) : Obj := coO "check_room" 338 339 340 81 2 115 181 116 (.ref 117) (.ref 118) 119 343 344
noncomputable def o121 (P : Params) : Obj := fnO 8 (.none) (.str "threepress.prefix" 249) 120
noncomputable def o124 (P : Params) : Obj := { cls := .type "tuple", data := .seq #[.str "weights" 349, .str "pairs" 350, .str "row" 351, .str "leaves" 352, .str "leaf" 353, .str "pair" 354, .str "is_leaf" 355] }
noncomputable def o126 (P : Params) : Obj := cpO 9
noncomputable def o127 (P : Params) : Obj := coO "merged" 346 347 348 84 2 122 181 123 (.ref 124) (.ref 125) 126 356 357
noncomputable def o128 (P : Params) : Obj := fnO 9 (.none) (.str "threepress.prefix" 249) 127
noncomputable def o131 (P : Params) : Obj := cpO 10
noncomputable def o132 (P : Params) : Obj := coO "package_depths" 359 360 361 96 2 129 181 130 (.none) (.none) 131 362 363
noncomputable def o133 (P : Params) : Obj := fnO 10 (.none) (.str "threepress.prefix" 249) 132
noncomputable def o136 (P : Params) : Obj := cpO 11
noncomputable def o137 (P : Params) : Obj := coO "least_lengths" 365 366 367 111 2 134 181 135 (.none) (.none) 136 368 369
noncomputable def o138 (P : Params) : Obj := fnO 11 (.none) (.str "threepress.prefix" 249) 137

noncomputable def t_p17 (P : Params) : BT := .node (boot_o_0 P) (.node (boot_o_1 P) (.node (o3_p17 P) (.node (boot_o_7 P) (.node (o15 P) (.node (o31 P) (.node (o11 P) (.node (o127 P) .nil .nil) .nil) (.node (o95 P) .nil .nil)) (.node (o47 P) (.node (o79 P) .nil .nil) (.node (o12 P) .nil .nil))) (.node (o11 P) (.node (o11 P) (.node (o71 P) (.node (o12 P) .nil .nil) .nil) (.node (o11 P) .nil .nil)) (.node (o11 P) (.node (o87 P) .nil .nil) (.node (o119 P) .nil .nil)))) (.node (o11 P) (.node (o19 P) (.node (o35 P) (.node (o11 P) (.node (o131 P) .nil .nil) .nil) (.node (o11 P) .nil .nil)) (.node (o11 P) (.node (o12 P) .nil .nil) (.node (o11 P) .nil .nil))) (.node (o27 P) (.node (o11 P) (.node (o11 P) .nil .nil) (.node (o107 P) .nil .nil)) (.node (o59 P) (.node (o91 P) .nil .nil) (.node (o12 P) .nil .nil))))) (.node (boot_o_5 P) (.node (boot_o_9 P) (.node (o17 P) (.node (o33 P) (.node (o65 P) (.node (o11 P) .nil .nil) .nil) (.node (o12 P) .nil .nil)) (.node (o16 P) (.node (o81 P) .nil .nil) (.node (o113 P) .nil .nil))) (.node (o25 P) (.node (o41 P) (.node (o73 P) (.node (o137 P) .nil .nil) .nil) (.node (o105 P) .nil .nil)) (.node (o57 P) (.node (o11 P) .nil .nil) (.node (o121 P) .nil .nil)))) (.node (o13 P) (.node (o21 P) (.node (o16 P) (.node (o69 P) (.node (o133 P) .nil .nil) .nil) (.node (o101 P) .nil .nil)) (.node (o53 P) (.node (o11 P) .nil .nil) (.node (o117 P) .nil .nil))) (.node (o29 P) (.node (o45 P) (.node (o77 P) .nil .nil) (.node (o109 P) .nil .nil)) (.node (o12 P) (.node (o93 P) .nil .nil) (.node (o11 P) .nil .nil)))))) (.node (boot_o_2 P) (.node (boot_o_4 P) (.node (boot_o_8 P) (.node (o16 P) (.node (o32_p3 P) (.node (o64 P) (.node (o128 P) .nil .nil) .nil) (.node (o11 P) .nil .nil)) (.node (o36 P) (.node (o80 P) .nil .nil) (.node (o112 P) .nil .nil))) (.node (o12 P) (.node (o12 P) (.node (o72 P) (.node (o136 P) .nil .nil) .nil) (.node (o12 P) .nil .nil)) (.node (o56 P) (.node (o88 P) .nil .nil) (.node (o120 P) .nil .nil)))) (.node (o12_p17 P) (.node (o20 P) (.node (o36 P) (.node (o12 P) (.node (o132 P) .nil .nil) .nil) (.node (o100 P) .nil .nil)) (.node (o12 P) (.node (o84 P) .nil .nil) (.node (o12 P) .nil .nil))) (.node (o28 P) (.node (o44 P) (.node (o12 P) .nil .nil) (.node (o108 P) .nil .nil)) (.node (o11 P) (.node (o11 P) .nil .nil) (.node (o124 P) .nil .nil))))) (.node (boot_o_6 P) (.node (boot_o_10 P) (.node (o11 P) (.node (o34 P) (.node (o66 P) (.node (o12 P) .nil .nil) .nil) (.node (o98 P) .nil .nil)) (.node (o50 P) (.node (o11 P) .nil .nil) (.node (o114 P) .nil .nil))) (.node (o11 P) (.node (o42 P) (.node (o74 P) (.node (o138 P) .nil .nil) .nil) (.node (o11 P) .nil .nil)) (.node (o58 P) (.node (o12 P) .nil .nil) (.node (o11 P) .nil .nil)))) (.node (o14 P) (.node (o22 P) (.node (o38 P) (.node (o11 P) (.node (o11 P) .nil .nil) .nil) (.node (o102 P) .nil .nil)) (.node (o54 P) (.node (o86 P) .nil .nil) (.node (o11 P) .nil .nil))) (.node (o30 P) (.node (o46 P) (.node (o11 P) .nil .nil) (.node (o11 P) .nil .nil)) (.node (o62 P) (.node (o94 P) .nil .nil) (.node (o126 P) .nil .nil))))))
noncomputable def o3_p24 (P : Params) : Obj := { cls := .type "dict", data := .dict #[de P "__name__" 165 (.str "law_no0092_01" 371), de P "__doc__" 166 (.none), de P "__package__" 167 (.none), de P "__loader__" 168 (.builtin "__main__.__loader__#opaque"), de P "__spec__" 169 (.none), de P "__annotations__" 170 (.ref 6), de P "__builtins__" 171 (.ref 4), de P "__file__" 173 (.str "/claim/cut.py" 172), de P "__cached__" 174 (.none), de P "PressError" 216 (.ref 32), de P "BadCode" 232 (.ref 45), de P "BadArgument" 248 (.ref 57), de P "counts_by_length" 260 (.ref 66), de P "room_of" 269 (.ref 73), de P "check_lengths" 281 (.ref 81), de P "used_symbols" 291 (.ref 88), de P "total_bits" 302 (.ref 95), de P "placed" 314 (.ref 102), de P "tree_depths" 331 (.ref 109), de P "free_lengths" 337 (.ref 114), de P "check_room" 345 (.ref 121), de P "merged" 358 (.ref 128), de P "package_depths" 364 (.ref 133), de P "least_lengths" 370 (.ref 138), de P "_law_pool" 381 (.ref 145), de P "_law_take" 390 (.ref 152), de P "_law_counts" 406 (.ref 159), de P "_law_total" 417 (.ref 166), de P "_law_least" 423 (.ref 171), de P "_law_rows" 436 (.ref 178), de P "_law_by_rows" 449 (.ref 185)] 31 }
noncomputable def o12_p24 (P : Params) : Obj := { cls := .none, data := .fields #[.int 2 0, .int 0 0, .ref 20, .int 7 0, .int 0 0, .ref 41, .int 9 0, .int 0 0, .ref 53, .int 12 0, .int 0 0, .ref 65, .int 19 0, .int 0 0, .ref 72, .int 24 0, .int 0 0, .ref 80, .int 36 0, .int 0 0, .ref 87, .int 44 0, .int 0 0, .ref 94, .int 52 0, .int 0 0, .ref 101, .int 57 0, .int 0 0, .ref 108, .int 76 0, .int 0 0, .ref 113, .int 81 0, .int 0 0, .ref 120, .int 84 0, .int 0 0, .ref 127, .int 96 0, .int 0 0, .ref 132, .int 111 0, .int 0 0, .ref 137, .int 118 0, .int 0 0, .ref 144, .int 123 0, .int 0 0, .ref 151, .int 130 0, .int 0 0, .ref 158, .int 154 0, .int 0 0, .ref 165, .int 159 0, .int 0 0, .ref 170, .int 175 0, .int 0 0, .ref 177, .int 184 0, .int 0 0, .ref 184] }
noncomputable def o141 (P : Params) : Obj := { cls := .type "tuple", data := .seq #[.str "script" 376, .str "whole" 377, .str "cell" 378] }
noncomputable def o143 (P : Params) : Obj := cpO 12
noncomputable def o144 (P : Params) : Obj := coO "_law_pool" 373 374 375 118 1 139 181 140 (.ref 141) (.ref 142) 143 379 380
noncomputable def o145 (P : Params) : Obj := fnO 12 (.none) (.str "law_no0092_01" 371) 144
noncomputable def o148 (P : Params) : Obj := { cls := .type "tuple", data := .seq #[.str "pool" 385, .str "many" 386, .str "digit" 387] }
noncomputable def o150 (P : Params) : Obj := cpO 13
noncomputable def o151 (P : Params) : Obj := coO "_law_take" 382 383 384 123 2 146 181 147 (.ref 148) (.ref 149) 150 388 389
noncomputable def o152 (P : Params) : Obj := fnO 13 (.none) (.str "law_no0092_01" 371) 151
noncomputable def o155 (P : Params) : Obj := { cls := .type "tuple", data := .seq #[.str "pool" 394, .str "many" 395, .str "sort" 396, .str "found" 397, .str "k" 398, .str "count" 399, .str "turn" 400, .str "one" 401, .str "other" 402, .str "swapped" 403] }
noncomputable def o157 (P : Params) : Obj := cpO 14
noncomputable def o158 (P : Params) : Obj := coO "_law_counts" 391 392 393 130 1 153 181 154 (.ref 155) (.ref 156) 157 404 405
noncomputable def o159 (P : Params) : Obj := fnO 14 (.none) (.str "law_no0092_01" 371) 158
noncomputable def o162 (P : Params) : Obj := { cls := .type "tuple", data := .seq #[.str "counts" 410, .str "lengths" 411, .str "found" 412, .str "count" 413, .str "length" 414] }
noncomputable def o164 (P : Params) : Obj := cpO 15
noncomputable def o165 (P : Params) : Obj := coO "_law_total" 407 408 409 154 2 160 181 161 (.ref 162) (.ref 163) 164 415 416
noncomputable def o166 (P : Params) : Obj := fnO 15 (.none) (.str "law_no0092_01" 371) 165
noncomputable def o169 (P : Params) : Obj := cpO 16
noncomputable def o170 (P : Params) : Obj := coO "_law_least" 418 419 420 159 2 167 181 168 (.none) (.none) 169 421 422
noncomputable def o171 (P : Params) : Obj := fnO 16 (.none) (.str "law_no0092_01" 371) 170
noncomputable def o174 (P : Params) : Obj := { cls := .type "tuple", data := .seq #[.str "many" 427, .str "longest" 428, .str "found" 429, .str "turn" 430, .str "longer" 431, .str "row" 432, .str "length" 433] }
noncomputable def o176 (P : Params) : Obj := cpO 17
noncomputable def o177 (P : Params) : Obj := coO "_law_rows" 424 425 426 175 2 172 181 173 (.ref 174) (.ref 175) 176 434 435
noncomputable def o178 (P : Params) : Obj := fnO 17 (.none) (.str "law_no0092_01" 371) 177
noncomputable def o181 (P : Params) : Obj := { cls := .type "tuple", data := .seq #[.str "used" 440, .str "longest" 441, .str "best" 442, .str "row" 443, .str "space" 444, .str "length" 445, .str "total" 446] }
noncomputable def o183 (P : Params) : Obj := cpO 18
noncomputable def o184 (P : Params) : Obj := coO "_law_by_rows" 437 438 439 184 2 179 181 180 (.ref 181) (.ref 182) 183 447 448
noncomputable def o185 (P : Params) : Obj := fnO 18 (.none) (.str "law_no0092_01" 371) 184

noncomputable def t_p24 (P : Params) : BT := .node (boot_o_0 P) (.node (boot_o_1 P) (.node (o3_p24 P) (.node (boot_o_7 P) (.node (o15 P) (.node (o31 P) (.node (o11 P) (.node (o127 P) .nil .nil) .nil) (.node (o95 P) (.node (o159 P) .nil .nil) .nil)) (.node (o47 P) (.node (o79 P) (.node (o143 P) .nil .nil) .nil) (.node (o12 P) (.node (o11 P) .nil .nil) .nil))) (.node (o11 P) (.node (o11 P) (.node (o71 P) (.node (o12 P) .nil .nil) .nil) (.node (o11 P) (.node (o11 P) .nil .nil) .nil)) (.node (o11 P) (.node (o87 P) (.node (o151 P) .nil .nil) .nil) (.node (o119 P) (.node (o183 P) .nil .nil) .nil)))) (.node (o11 P) (.node (o19 P) (.node (o35 P) (.node (o11 P) (.node (o131 P) .nil .nil) .nil) (.node (o11 P) (.node (o11 P) .nil .nil) .nil)) (.node (o11 P) (.node (o12 P) (.node (o12 P) .nil .nil) .nil) (.node (o11 P) (.node (o11 P) .nil .nil) .nil))) (.node (o27 P) (.node (o11 P) (.node (o11 P) (.node (o11 P) .nil .nil) .nil) (.node (o107 P) (.node (o171 P) .nil .nil) .nil)) (.node (o59 P) (.node (o91 P) (.node (o155 P) .nil .nil) .nil) (.node (o12 P) .nil .nil))))) (.node (boot_o_5 P) (.node (boot_o_9 P) (.node (o17 P) (.node (o33 P) (.node (o65 P) (.node (o11 P) .nil .nil) .nil) (.node (o12 P) (.node (o12 P) .nil .nil) .nil)) (.node (o16 P) (.node (o81 P) (.node (o145 P) .nil .nil) .nil) (.node (o113 P) (.node (o177 P) .nil .nil) .nil))) (.node (o25 P) (.node (o41 P) (.node (o73 P) (.node (o137 P) .nil .nil) .nil) (.node (o105 P) (.node (o169 P) .nil .nil) .nil)) (.node (o57 P) (.node (o11 P) (.node (o11 P) .nil .nil) .nil) (.node (o121 P) (.node (o185 P) .nil .nil) .nil)))) (.node (o13 P) (.node (o21 P) (.node (o16 P) (.node (o69 P) (.node (o133 P) .nil .nil) .nil) (.node (o101 P) (.node (o165 P) .nil .nil) .nil)) (.node (o53 P) (.node (o11 P) (.node (o11 P) .nil .nil) .nil) (.node (o117 P) (.node (o181 P) .nil .nil) .nil))) (.node (o29 P) (.node (o45 P) (.node (o77 P) (.node (o141 P) .nil .nil) .nil) (.node (o109 P) (.node (o12 P) .nil .nil) .nil)) (.node (o12 P) (.node (o93 P) (.node (o157 P) .nil .nil) .nil) (.node (o11 P) .nil .nil)))))) (.node (boot_o_2 P) (.node (boot_o_4 P) (.node (boot_o_8 P) (.node (o16 P) (.node (o32_p3 P) (.node (o64 P) (.node (o128 P) .nil .nil) .nil) (.node (o11 P) (.node (o11 P) .nil .nil) .nil)) (.node (o36 P) (.node (o80 P) (.node (o144 P) .nil .nil) .nil) (.node (o112 P) (.node (o176 P) .nil .nil) .nil))) (.node (o12 P) (.node (o12 P) (.node (o72 P) (.node (o136 P) .nil .nil) .nil) (.node (o12 P) (.node (o12 P) .nil .nil) .nil)) (.node (o56 P) (.node (o88 P) (.node (o152 P) .nil .nil) .nil) (.node (o120 P) (.node (o184 P) .nil .nil) .nil)))) (.node (o12_p24 P) (.node (o20 P) (.node (o36 P) (.node (o12 P) (.node (o132 P) .nil .nil) .nil) (.node (o100 P) (.node (o164 P) .nil .nil) .nil)) (.node (o12 P) (.node (o84 P) (.node (o148 P) .nil .nil) .nil) (.node (o12 P) (.node (o12 P) .nil .nil) .nil))) (.node (o28 P) (.node (o44 P) (.node (o12 P) (.node (o12 P) .nil .nil) .nil) (.node (o108 P) (.node (o11 P) .nil .nil) .nil)) (.node (o11 P) (.node (o11 P) (.node (o11 P) .nil .nil) .nil) (.node (o124 P) .nil .nil))))) (.node (boot_o_6 P) (.node (boot_o_10 P) (.node (o11 P) (.node (o34 P) (.node (o66 P) (.node (o12 P) .nil .nil) .nil) (.node (o98 P) (.node (o162 P) .nil .nil) .nil)) (.node (o50 P) (.node (o11 P) (.node (o11 P) .nil .nil) .nil) (.node (o114 P) (.node (o178 P) .nil .nil) .nil))) (.node (o11 P) (.node (o42 P) (.node (o74 P) (.node (o138 P) .nil .nil) .nil) (.node (o11 P) (.node (o170 P) .nil .nil) .nil)) (.node (o58 P) (.node (o12 P) (.node (o12 P) .nil .nil) .nil) (.node (o11 P) .nil .nil)))) (.node (o14 P) (.node (o22 P) (.node (o38 P) (.node (o11 P) (.node (o11 P) .nil .nil) .nil) (.node (o102 P) (.node (o166 P) .nil .nil) .nil)) (.node (o54 P) (.node (o86 P) (.node (o150 P) .nil .nil) .nil) (.node (o11 P) (.node (o11 P) .nil .nil) .nil))) (.node (o30 P) (.node (o46 P) (.node (o11 P) (.node (o11 P) .nil .nil) .nil) (.node (o11 P) (.node (o174 P) .nil .nil) .nil)) (.node (o62 P) (.node (o94 P) (.node (o158 P) .nil .nil) .nil) (.node (o126 P) .nil .nil))))))
noncomputable def o3_p31 (P : Params) : Obj := { cls := .type "dict", data := .dict #[de P "__name__" 165 (.str "law_no0092_01" 371), de P "__doc__" 166 (.none), de P "__package__" 167 (.none), de P "__loader__" 168 (.builtin "__main__.__loader__#opaque"), de P "__spec__" 169 (.none), de P "__annotations__" 170 (.ref 6), de P "__builtins__" 171 (.ref 4), de P "__file__" 173 (.str "/claim/cut.py" 172), de P "__cached__" 174 (.none), de P "PressError" 216 (.ref 32), de P "BadCode" 232 (.ref 45), de P "BadArgument" 248 (.ref 57), de P "counts_by_length" 260 (.ref 66), de P "room_of" 269 (.ref 73), de P "check_lengths" 281 (.ref 81), de P "used_symbols" 291 (.ref 88), de P "total_bits" 302 (.ref 95), de P "placed" 314 (.ref 102), de P "tree_depths" 331 (.ref 109), de P "free_lengths" 337 (.ref 114), de P "check_room" 345 (.ref 121), de P "merged" 358 (.ref 128), de P "package_depths" 364 (.ref 133), de P "least_lengths" 370 (.ref 138), de P "_law_pool" 381 (.ref 145), de P "_law_take" 390 (.ref 152), de P "_law_counts" 406 (.ref 159), de P "_law_total" 417 (.ref 166), de P "_law_least" 423 (.ref 171), de P "_law_rows" 436 (.ref 178), de P "_law_by_rows" 449 (.ref 185), de P "_law_merged" 459 (.ref 192), de P "_law_row_right" 465 (.ref 197), de P "_law_ordered" 477 (.ref 204), de P "_law_low_tree_right" 483 (.ref 209), de P "_law_total_refused" 491 (.ref 216), de P "_law_refused" 499 (.ref 223), de P "law" 505 (.ref 228)] 38 }
noncomputable def o12_p31 (P : Params) : Obj := { cls := .none, data := .fields #[.int 2 0, .int 0 0, .ref 20, .int 7 0, .int 0 0, .ref 41, .int 9 0, .int 0 0, .ref 53, .int 12 0, .int 0 0, .ref 65, .int 19 0, .int 0 0, .ref 72, .int 24 0, .int 0 0, .ref 80, .int 36 0, .int 0 0, .ref 87, .int 44 0, .int 0 0, .ref 94, .int 52 0, .int 0 0, .ref 101, .int 57 0, .int 0 0, .ref 108, .int 76 0, .int 0 0, .ref 113, .int 81 0, .int 0 0, .ref 120, .int 84 0, .int 0 0, .ref 127, .int 96 0, .int 0 0, .ref 132, .int 111 0, .int 0 0, .ref 137, .int 118 0, .int 0 0, .ref 144, .int 123 0, .int 0 0, .ref 151, .int 130 0, .int 0 0, .ref 158, .int 154 0, .int 0 0, .ref 165, .int 159 0, .int 0 0, .ref 170, .int 175 0, .int 0 0, .ref 177, .int 184 0, .int 0 0, .ref 184, .int 195 0, .int 0 0, .ref 191, .int 202 0, .int 0 0, .ref 196, .int 221 0, .int 0 0, .ref 203, .int 227 0, .int 0 0, .ref 208, .int 240 0, .int 0 0, .ref 215, .int 246 0, .int 0 0, .ref 222, .int 252 0, .int 0 0, .ref 227] }
noncomputable def o188 (P : Params) : Obj := { cls := .type "tuple", data := .seq #[.str "used" 453, .str "left" 454, .str "found" 455, .str "both" 456] }
noncomputable def o190 (P : Params) : Obj := cpO 19
noncomputable def o191 (P : Params) : Obj := coO "_law_merged" 450 451 452 195 1 186 181 187 (.ref 188) (.ref 189) 190 457 458
noncomputable def o192 (P : Params) : Obj := fnO 19 (.none) (.str "law_no0092_01" 371) 191
noncomputable def o195 (P : Params) : Obj := cpO 20
noncomputable def o196 (P : Params) : Obj := coO "_law_row_right" 460 461 462 202 2 193 181 194 (.none) (.none) 195 463 464
noncomputable def o197 (P : Params) : Obj := fnO 20 (.none) (.str "law_no0092_01" 371) 196
noncomputable def o200 (P : Params) : Obj := { cls := .type "tuple", data := .seq #[.str "counts" 469, .str "lengths" 470, .str "one" 471, .str "length" 472, .str "other" 473, .str "far" 474] }
noncomputable def o202 (P : Params) : Obj := cpO 21
noncomputable def o203 (P : Params) : Obj := coO "_law_ordered" 466 467 468 221 2 198 181 199 (.ref 200) (.ref 201) 202 475 476
noncomputable def o204 (P : Params) : Obj := fnO 21 (.none) (.str "law_no0092_01" 371) 203
noncomputable def o207 (P : Params) : Obj := cpO 22
noncomputable def o208 (P : Params) : Obj := coO "_law_low_tree_right" 478 479 480 227 2 205 181 206 (.none) (.none) 207 481 482
noncomputable def o209 (P : Params) : Obj := fnO 22 (.none) (.str "law_no0092_01" 371) 208
noncomputable def o212 (P : Params) : Obj := { cls := .type "tuple", data := .seq #[.str "counts" 487, .str "lengths" 488] }
noncomputable def o214 (P : Params) : Obj := cpO 23
noncomputable def o215 (P : Params) : Obj := coO "_law_total_refused" 484 485 486 240 2 210 181 211 (.ref 212) (.ref 213) 214 489 490
noncomputable def o216 (P : Params) : Obj := fnO 23 (.none) (.str "law_no0092_01" 371) 215
noncomputable def o219 (P : Params) : Obj := { cls := .type "tuple", data := .seq #[.str "counts" 495, .str "longest" 496] }
noncomputable def o221 (P : Params) : Obj := cpO 24
noncomputable def o222 (P : Params) : Obj := coO "_law_refused" 492 493 494 246 2 217 181 218 (.ref 219) (.ref 220) 221 497 498
noncomputable def o223 (P : Params) : Obj := fnO 24 (.none) (.str "law_no0092_01" 371) 222
noncomputable def o226 (P : Params) : Obj := cpO 25
noncomputable def o227 (P : Params) : Obj := coO "law" 500 501 502 252 1 224 181 225 (.none) (.none) 226 503 504
noncomputable def o228 (P : Params) : Obj := fnO 25 (.none) (.str "law_no0092_01" 371) 227

noncomputable def t_p31 (P : Params) : BT := .node (boot_o_0 P) (.node (boot_o_1 P) (.node (o3_p31 P) (.node (boot_o_7 P) (.node (o15 P) (.node (o31 P) (.node (o11 P) (.node (o127 P) .nil .nil) (.node (o191 P) .nil .nil)) (.node (o95 P) (.node (o159 P) .nil .nil) (.node (o223 P) .nil .nil))) (.node (o47 P) (.node (o79 P) (.node (o143 P) .nil .nil) (.node (o207 P) .nil .nil)) (.node (o12 P) (.node (o11 P) .nil .nil) .nil))) (.node (o11 P) (.node (o11 P) (.node (o71 P) (.node (o12 P) .nil .nil) (.node (o12 P) .nil .nil)) (.node (o11 P) (.node (o11 P) .nil .nil) .nil)) (.node (o11 P) (.node (o87 P) (.node (o151 P) .nil .nil) (.node (o215 P) .nil .nil)) (.node (o119 P) (.node (o183 P) .nil .nil) .nil)))) (.node (o11 P) (.node (o19 P) (.node (o35 P) (.node (o11 P) (.node (o131 P) .nil .nil) (.node (o195 P) .nil .nil)) (.node (o11 P) (.node (o11 P) .nil .nil) (.node (o227 P) .nil .nil))) (.node (o11 P) (.node (o12 P) (.node (o12 P) .nil .nil) (.node (o12 P) .nil .nil)) (.node (o11 P) (.node (o11 P) .nil .nil) .nil))) (.node (o27 P) (.node (o11 P) (.node (o11 P) (.node (o11 P) .nil .nil) (.node (o203 P) .nil .nil)) (.node (o107 P) (.node (o171 P) .nil .nil) .nil)) (.node (o59 P) (.node (o91 P) (.node (o155 P) .nil .nil) (.node (o219 P) .nil .nil)) (.node (o12 P) (.node (o12 P) .nil .nil) .nil))))) (.node (boot_o_5 P) (.node (boot_o_9 P) (.node (o17 P) (.node (o33 P) (.node (o65 P) (.node (o11 P) .nil .nil) (.node (o11 P) .nil .nil)) (.node (o12 P) (.node (o12 P) .nil .nil) (.node (o12 P) .nil .nil))) (.node (o16 P) (.node (o81 P) (.node (o145 P) .nil .nil) (.node (o209 P) .nil .nil)) (.node (o113 P) (.node (o177 P) .nil .nil) .nil))) (.node (o25 P) (.node (o41 P) (.node (o73 P) (.node (o137 P) .nil .nil) (.node (o11 P) .nil .nil)) (.node (o105 P) (.node (o169 P) .nil .nil) .nil)) (.node (o57 P) (.node (o11 P) (.node (o11 P) .nil .nil) (.node (o11 P) .nil .nil)) (.node (o121 P) (.node (o185 P) .nil .nil) .nil)))) (.node (o13 P) (.node (o21 P) (.node (o16 P) (.node (o69 P) (.node (o133 P) .nil .nil) (.node (o197 P) .nil .nil)) (.node (o101 P) (.node (o165 P) .nil .nil) .nil)) (.node (o53 P) (.node (o11 P) (.node (o11 P) .nil .nil) (.node (o11 P) .nil .nil)) (.node (o117 P) (.node (o181 P) .nil .nil) .nil))) (.node (o29 P) (.node (o45 P) (.node (o77 P) (.node (o141 P) .nil .nil) (.node (o11 P) .nil .nil)) (.node (o109 P) (.node (o12 P) .nil .nil) .nil)) (.node (o12 P) (.node (o93 P) (.node (o157 P) .nil .nil) (.node (o221 P) .nil .nil)) (.node (o11 P) (.node (o11 P) .nil .nil) .nil)))))) (.node (boot_o_2 P) (.node (boot_o_4 P) (.node (boot_o_8 P) (.node (o16 P) (.node (o32_p3 P) (.node (o64 P) (.node (o128 P) .nil .nil) (.node (o192 P) .nil .nil)) (.node (o11 P) (.node (o11 P) .nil .nil) (.node (o11 P) .nil .nil))) (.node (o36 P) (.node (o80 P) (.node (o144 P) .nil .nil) (.node (o208 P) .nil .nil)) (.node (o112 P) (.node (o176 P) .nil .nil) .nil))) (.node (o12 P) (.node (o12 P) (.node (o72 P) (.node (o136 P) .nil .nil) (.node (o200 P) .nil .nil)) (.node (o12 P) (.node (o12 P) .nil .nil) .nil)) (.node (o56 P) (.node (o88 P) (.node (o152 P) .nil .nil) (.node (o216 P) .nil .nil)) (.node (o120 P) (.node (o184 P) .nil .nil) .nil)))) (.node (o12_p31 P) (.node (o20 P) (.node (o36 P) (.node (o12 P) (.node (o132 P) .nil .nil) (.node (o196 P) .nil .nil)) (.node (o100 P) (.node (o164 P) .nil .nil) (.node (o228 P) .nil .nil))) (.node (o12 P) (.node (o84 P) (.node (o148 P) .nil .nil) (.node (o212 P) .nil .nil)) (.node (o12 P) (.node (o12 P) .nil .nil) .nil))) (.node (o28 P) (.node (o44 P) (.node (o12 P) (.node (o12 P) .nil .nil) (.node (o204 P) .nil .nil)) (.node (o108 P) (.node (o11 P) .nil .nil) .nil)) (.node (o11 P) (.node (o11 P) (.node (o11 P) .nil .nil) (.node (o11 P) .nil .nil)) (.node (o124 P) (.node (o188 P) .nil .nil) .nil))))) (.node (boot_o_6 P) (.node (boot_o_10 P) (.node (o11 P) (.node (o34 P) (.node (o66 P) (.node (o12 P) .nil .nil) (.node (o12 P) .nil .nil)) (.node (o98 P) (.node (o162 P) .nil .nil) (.node (o226 P) .nil .nil))) (.node (o50 P) (.node (o11 P) (.node (o11 P) .nil .nil) (.node (o11 P) .nil .nil)) (.node (o114 P) (.node (o178 P) .nil .nil) .nil))) (.node (o11 P) (.node (o42 P) (.node (o74 P) (.node (o138 P) .nil .nil) (.node (o202 P) .nil .nil)) (.node (o11 P) (.node (o170 P) .nil .nil) .nil)) (.node (o58 P) (.node (o12 P) (.node (o12 P) .nil .nil) (.node (o12 P) .nil .nil)) (.node (o11 P) (.node (o11 P) .nil .nil) .nil)))) (.node (o14 P) (.node (o22 P) (.node (o38 P) (.node (o11 P) (.node (o11 P) .nil .nil) (.node (o11 P) .nil .nil)) (.node (o102 P) (.node (o166 P) .nil .nil) .nil)) (.node (o54 P) (.node (o86 P) (.node (o150 P) .nil .nil) (.node (o214 P) .nil .nil)) (.node (o11 P) (.node (o11 P) .nil .nil) .nil))) (.node (o30 P) (.node (o46 P) (.node (o11 P) (.node (o11 P) .nil .nil) (.node (o12 P) .nil .nil)) (.node (o11 P) (.node (o174 P) .nil .nil) .nil)) (.node (o62 P) (.node (o94 P) (.node (o158 P) .nil .nil) (.node (o222 P) .nil .nil)) (.node (o126 P) (.node (o190 P) .nil .nil) .nil))))))
noncomputable def hE (P : Params) : Heap := ⟨#[boot_o_0 P, boot_o_1 P, boot_o_2 P, o3_p31 P, boot_o_4 P, boot_o_5 P, boot_o_6 P, boot_o_7 P, boot_o_8 P, boot_o_9 P, boot_o_10 P, o11 P, o12_p31 P, o13 P, o14 P, o15 P, o16 P, o17 P, o11 P, o19 P, o20 P, o21 P, o22 P, o11 P, o12 P, o25 P, o11 P, o27 P, o28 P, o29 P, o30 P, o31 P, o32_p3 P, o33 P, o34 P, o35 P, o36 P, o16 P, o38 P, o11 P, o12 P, o41 P, o42 P, o11 P, o44 P, o45 P, o46 P, o47 P, o36 P, o16 P, o50 P, o11 P, o12 P, o53 P, o54 P, o11 P, o56 P, o57 P, o58 P, o59 P, o11 P, o12 P, o62 P, o11 P, o64 P, o65 P, o66 P, o11 P, o12 P, o69 P, o11 P, o71 P, o72 P, o73 P, o74 P, o11 P, o12 P, o77 P, o11 P, o79 P, o80 P, o81 P, o11 P, o12 P, o84 P, o11 P, o86 P, o87 P, o88 P, o11 P, o12 P, o91 P, o11 P, o93 P, o94 P, o95 P, o11 P, o12 P, o98 P, o11 P, o100 P, o101 P, o102 P, o11 P, o12 P, o105 P, o11 P, o107 P, o108 P, o109 P, o11 P, o12 P, o112 P, o113 P, o114 P, o11 P, o12 P, o117 P, o11 P, o119 P, o120 P, o121 P, o11 P, o12 P, o124 P, o11 P, o126 P, o127 P, o128 P, o11 P, o12 P, o131 P, o132 P, o133 P, o11 P, o12 P, o136 P, o137 P, o138 P, o11 P, o12 P, o141 P, o11 P, o143 P, o144 P, o145 P, o11 P, o12 P, o148 P, o11 P, o150 P, o151 P, o152 P, o11 P, o12 P, o155 P, o11 P, o157 P, o158 P, o159 P, o11 P, o12 P, o162 P, o11 P, o164 P, o165 P, o166 P, o11 P, o12 P, o169 P, o170 P, o171 P, o11 P, o12 P, o174 P, o11 P, o176 P, o177 P, o178 P, o11 P, o12 P, o181 P, o11 P, o183 P, o184 P, o185 P, o11 P, o12 P, o188 P, o11 P, o190 P, o191 P, o192 P, o11 P, o12 P, o195 P, o196 P, o197 P, o11 P, o12 P, o200 P, o11 P, o202 P, o203 P, o204 P, o11 P, o12 P, o207 P, o208 P, o209 P, o11 P, o12 P, o212 P, o11 P, o214 P, o215 P, o216 P, o11 P, o12 P, o219 P, o11 P, o221 P, o222 P, o223 P, o11 P, o12 P, o226 P, o227 P, o228 P], {}⟩
noncomputable def sT (T : Params → BT) (n k : Nat) (w : World) (os : OsState) : SharedT := ⟨T w.params, n, {}, #[], {}, k, os⟩
noncomputable def eE : Env := { scope := PySem.Challenge.pw_no0092_01.main.scope, locals := mainNs, globals := mainNs, cells := [], code := .ref 13, frame := some 14 }
noncomputable def bE : List Stmt := behindTheImports PySem.Challenge.pw_no0092_01
noncomputable def cE : Code := .body bE eE
theorem pre (w : World) (os : OsState) : topGo treeTable PySem.Challenge.pw_no0092_01 w 11 (some (.ref 6)) 12 ⟨boot_heap w.params, Array.mk [], boot_drawn, boot_toks, os⟩ (topStub PySem.Challenge.pw_no0092_01) = some ((sT t_pre 15 187 w os).abs, ⟨denote treeTable cE, cE, ⟨0, 0, 0, 0⟩, [topFrame ⟨0, 0, 0, 0⟩]⟩) := by
  rw [PySem.W.Fast.te15667345088766844465, PySem.W.Fast.te11892475500146522536, PySem.W.Fast.te14364793385576792824]
  kernel_rfl
theorem blk (w : World) (os : OsState) : segRun treeTable PySem.Challenge.pw_no0092_01 w 11 (some (.ref 6)) 1 1 (sT t_pre 15 187 w os).abs (blockOf bE eE cE ⟨0, 0, 0, 0⟩ [topFrame ⟨0, 0, 0, 0⟩]) = some (.next, (sT t_pre 15 187 w os).abs, cE, ⟨0, 0, 0, 0⟩) := by
  kernel_rfl
theorem piece_take {w : World} {n N : Nat} {s s' r : Shared} {l : List Stmt} {p p' : Pos} (k : Nat) (h : segRun treeTable PySem.Challenge.pw_no0092_01 w 11 (some (.ref 6)) 1 n s (piecesOf (l.take k) eE cE p [topFrame ⟨0, 0, 0, 0⟩]) = some (.next, s', cE, p'))
    (h' : topRun treeTable PySem.Challenge.pw_no0092_01 w 11 (some (.ref 6)) N s' (restOf (l.drop k) eE cE p' [topFrame ⟨0, 0, 0, 0⟩]) = some r) : topRun treeTable PySem.Challenge.pw_no0092_01 w 11 (some (.ref 6)) (n + N) s (restOf l eE cE p [topFrame ⟨0, 0, 0, 0⟩]) = some r := by
  have := piece_app h h'
  rwa [List.take_append_drop] at this
theorem g_p1 (w : World) (os : OsState) : segRunT treeTable PySem.Challenge.pw_no0092_01 w 11 (some (.ref 6)) 1 230 (sT t_pre 15 187 w os) (piecesOf (List.take 2 bE) eE cE ⟨0, 0, 0, 0⟩ [topFrame ⟨0, 0, 0, 0⟩]) = some (.next, sT t_p1 36 217 w os, cE, ⟨2, 0, 6, 28⟩) := by
  unfold piecesOf
  rw [PySem.W.Fast.te10110043849684766642, PySem.W.Fast.te12563942051412417395, PySem.W.Fast.te14364793385576792824]
  kernel_rfl
theorem g_p2 (w : World) (os : OsState) : segRunT treeTable PySem.Challenge.pw_no0092_01 w 11 (some (.ref 6)) 1 214 (sT t_p1 36 217 w os) (piecesOf (List.take 1 (List.drop 2 bE)) eE cE ⟨2, 0, 6, 28⟩ [topFrame ⟨0, 0, 0, 0⟩]) = some (.next, sT t_p2 48 233 w os, cE, ⟨7, 0, 8, 8⟩) := by
  unfold piecesOf
  rw [PySem.W.Fast.te10110043849684766642, PySem.W.Fast.te12563942051412417395, PySem.W.Fast.te14364793385576792824]
  kernel_rfl
theorem g_p3 (w : World) (os : OsState) : segRunT treeTable PySem.Challenge.pw_no0092_01 w 11 (some (.ref 6)) 1 214 (sT t_p2 48 233 w os) (piecesOf (List.take 1 (List.drop 1 (List.drop 2 bE))) eE cE ⟨7, 0, 8, 8⟩ [topFrame ⟨0, 0, 0, 0⟩]) = some (.next, sT t_p3 60 249 w os, cE, ⟨9, 0, 10, 8⟩) := by
  unfold piecesOf
  rw [PySem.W.Fast.te10110043849684766642, PySem.W.Fast.te12563942051412417395, PySem.W.Fast.te14364793385576792824]
  kernel_rfl
theorem g_p9 (w : World) (os : OsState) : segRunT treeTable PySem.Challenge.pw_no0092_01 w 11 (some (.ref 6)) 1 173 (sT t_p3 60 249 w os) (piecesOf (List.take 6 (List.drop 1 (List.drop 1 (List.drop 2 bE)))) eE cE ⟨9, 0, 10, 8⟩ [topFrame ⟨0, 0, 0, 0⟩]) = some (.next, sT t_p9 96 303 w os, cE, ⟨44, 0, 51, 16⟩) := by
  unfold piecesOf
  rw [PySem.W.Fast.te10110043849684766642, PySem.W.Fast.te12563942051412417395, PySem.W.Fast.te14364793385576792824]
  kernel_rfl
theorem g_p17 (w : World) (os : OsState) : segRunT treeTable PySem.Challenge.pw_no0092_01 w 11 (some (.ref 6)) 1 226 (sT t_p9 96 303 w os) (piecesOf (List.take 8 (List.drop 6 (List.drop 1 (List.drop 1 (List.drop 2 bE))))) eE cE ⟨44, 0, 51, 16⟩ [topFrame ⟨0, 0, 0, 0⟩]) = some (.next, sT t_p17 139 373 w os, cE, ⟨117, 0, 117, 8⟩) := by
  unfold piecesOf
  rw [PySem.W.Fast.te10110043849684766642, PySem.W.Fast.te12563942051412417395, PySem.W.Fast.te14364793385576792824]
  kernel_rfl
theorem g_p24 (w : World) (os : OsState) : segRunT treeTable PySem.Challenge.pw_no0092_01 w 11 (some (.ref 6)) 1 230 (sT t_p17 139 373 w os) (piecesOf (List.take 7 (List.drop 8 (List.drop 6 (List.drop 1 (List.drop 1 (List.drop 2 bE)))))) eE cE ⟨117, 0, 117, 8⟩ [topFrame ⟨0, 0, 0, 0⟩]) = some (.next, sT t_p24 186 450 w os, cE, ⟨184, 0, 194, 15⟩) := by
  unfold piecesOf
  rw [PySem.W.Fast.te10110043849684766642, PySem.W.Fast.te12563942051412417395, PySem.W.Fast.te14364793385576792824]
  kernel_rfl
theorem g_p31 (w : World) (os : OsState) : segRunT treeTable PySem.Challenge.pw_no0092_01 w 11 (some (.ref 6)) 1 205 (sT t_p24 186 450 w os) (piecesOf (List.take 7 (List.drop 7 (List.drop 8 (List.drop 6 (List.drop 1 (List.drop 1 (List.drop 2 bE))))))) eE cE ⟨184, 0, 194, 15⟩ [topFrame ⟨0, 0, 0, 0⟩]) = some (.next, sT t_p31 229 506 w os, cE, ⟨252, 0, 287, 89⟩) := by
  unfold piecesOf
  rw [PySem.W.Fast.te10110043849684766642, PySem.W.Fast.te12563942051412417395, PySem.W.Fast.te14364793385576792824]
  kernel_rfl
theorem fin (w : World) (os : OsState) : topRun treeTable PySem.Challenge.pw_no0092_01 w 11 (some (.ref 6)) 2 (sT t_p31 229 506 w os).abs ⟨doneF .next, cE, ⟨252, 0, 287, 89⟩, [topFrame ⟨0, 0, 0, 0⟩]⟩ = some ⟨hE w.params, #[], {}, 506, os⟩ := by
  kernel_rfl
theorem bnil : List.drop 7 (List.drop 7 (List.drop 8 (List.drop 6 (List.drop 1 (List.drop 1 (List.drop 2 bE)))))) = [] := by kernel_rfl
theorem run (w : World) (os : OsState) : topRun treeTable PySem.Challenge.pw_no0092_01 w 11 (some (.ref 6)) (12 + (1 + (230 + (214 + (214 + (173 + (226 + (230 + (205 + 2))))))))) ⟨boot_heap w.params, Array.mk [], boot_drawn, boot_toks, os⟩ (topStub PySem.Challenge.pw_no0092_01) = some ⟨hE w.params, #[], {}, 506, os⟩ :=
  go_top (pre w os) (piece_block (blk w os) (piece_take 2 (segRun_of (g_p1 w os)) (piece_take 1 (segRun_of (g_p2 w os)) (piece_take 1 (segRun_of (g_p3 w os)) (piece_take 6 (segRun_of (g_p9 w os)) (piece_take 8 (segRun_of (g_p17 w os)) (piece_take 7 (segRun_of (g_p24 w os)) (piece_take 7 (segRun_of (g_p31 w os)) (by rw [bnil]; exact piece_nil (fin w os))))))))))
noncomputable def sE (w : World) (os : OsState) : Shared := ⟨hE w.params, #[], {}, 506, os⟩
theorem ka1 (w : World) (os : OsState) : staticsOk (importedModules PySem.Challenge.pw_no0092_01.main.body) (boot_heap w.params) (hE w.params) = true := by
  rw [PySem.W.Fast.te5923862056798008813]
  kernel_rfl
theorem ka2 (w : World) (os : OsState) : namesBound PySem.Challenge.pw_no0092_01 (hE w.params) = true := by
  kernel_rfl
theorem ka3 (w : World) (os : OsState) : gensDone (sE w os) = true := by
  kernel_rfl
theorem ka4 (w : World) (os : OsState) : laidKept (boot_heap w.params) (hE w.params) = true := by
  kernel_rfl
theorem l1 (w : World) (os : OsState) : seen ((recsOf vw).map (·.name)) (ownsOf vw) [] { sE w os with gens := #[] } = expectedOf vw := by
  rw [PySem.W.Fast.te5160383126252970620, PySem.W.Fast.te3399658132070893891, PySem.W.Fast.te5991557255702980513]
  kernel_rfl
theorem l2 (w : World) (os : OsState) : (sE w os).heap.bltView = bltViewBooted := by
  kernel_rfl
theorem l3a (w : World) (os : OsState) : (sE w os).heap.keysOk (looseW vw loF) ((recsOf vw).map (·.name)) ((litsOf vw).map (·.1)) ((clssOf vw (looseW vw loF)).map (·.name)) = true := by
  rw [PySem.W.Fast.te10880121769531294198, PySem.W.Fast.te821141287760084731, PySem.W.Fast.te3399658132070893891, PySem.W.Fast.te7409074990110511671, PySem.W.Fast.te13664370479719496447]
  kernel_rfl
theorem l3b (w : World) (os : OsState) : (sE w os).heap.accountedOkI (importedModules PySem.Challenge.pw_no0092_01.main.body) = true := by
  rw [PySem.W.Fast.te14722251495701143533, PySem.W.Fast.te5923862056798008813]
  kernel_rfl
theorem l3c (w : World) (os : OsState) : (sE w os).heap.isNs mainGlobals = true := by
  kernel_rfl
theorem l3d (w : World) (os : OsState) : (sE w os).heap.isNs builtinsNs = true := by
  kernel_rfl
theorem l3e (w : World) (os : OsState) : tablesOk vw (sE w os).heap = true := by
  rw [PySem.W.Fast.te10994771534591457954]
  kernel_rfl
theorem l3f (w : World) (os : OsState) : (xlAt vw [] (sE w os) && recOk [] (sE w os)) = true := by
  kernel_rfl
theorem l4 (w : World) (os : OsState) : tabsOk vw (sE w os) = true := by
  rw [PySem.W.Fast.te479339242167458305]
  kernel_rfl
theorem l5 (w : World) (os : OsState) : pinSeenD vw (drecsOf vw) (sE w os) = pinGoodD (drecsOf vw) := by
  rw [PySem.W.Fast.te16090120013241838585, PySem.W.Fast.te3247288618530077131]
  kernel_rfl
theorem l6 (w : World) (os : OsState) : plainSeenE vw (looseW vw loF) (sE w os) = plainGoodE vw (looseW vw loF) := by
  rw [PySem.W.Fast.te2386780881361962483, PySem.W.Fast.te821141287760084731]
  kernel_rfl
theorem l7 (w : World) (os : OsState) : plainSeenD vw loF (sE w os) = plainGoodD vw loF := by
  rw [PySem.W.Fast.te11698064438423848299]
  kernel_rfl
theorem l8 (w : World) (os : OsState) : wideSeen vw (sE w os) = wideGood vw := by
  rw [PySem.W.Fast.te7317090234206586261]
  kernel_rfl
theorem l9 (w : World) (os : OsState) : clsSeenW vw loF (sE w os) = clsGoodW vw loF := by
  rw [PySem.W.Fast.te7369524293546568484]
  kernel_rfl
theorem lk3 (w : World) (os : OsState) : hk.obs (sE w os) = hk.val w := by
  kernel_rfl
theorem and2 {a b : Bool} (x : a = true) (y : b = true) : (a && b) = true := Bool.and_eq_true_iff.mpr ⟨x, y⟩
theorem left : LeftO PySem.Challenge.pw_no0092_01 vw loF (fun s => xlAt vw [] s && recOk [] s) hk.obs hk.val 3096 :=
  LeftO.of_pieces (H₀ := boot_heap) (H₁ := hE) (gs₀ := Array.mk []) (gs₁ := #[]) (d₀ := boot_drawn) (d₁ := {}) (k₀ := boot_toks) (k₁ := 506) (m₀ := 11) (ann := some (.ref 6)) (M := 12 + (1 + (230 + (214 + (214 + (173 + (226 + (230 + (205 + 2)))))))))
    (boot_open (by kernel_rfl) rfl (fun s => by kernel_rfl)) (fun w => by kernel_rfl) run rfl
    (fun w => funext fun os => looks_pair (and2 (and2 (and2 (ka1 w os) (ka2 w os)) (ka3 w os)) (ka4 w os))
      (looks_pair (looks_pair (l1 w os) (looks_pair (l2 w os) (looks_pair (and2 (and2 (and2 (and2 (and2 (and2 (l3a w os) (l3b w os)) (l3c w os)) (l3d w os)) (l3e w os)) (l3f w os)) rfl)
        (looks_pair (l4 w os) (looks_pair (l5 w os) (looks_pair (l6 w os) (looks_pair (l7 w os) (looks_pair (l8 w os) (l9 w os)))))))) ) (lk3 w os)))
noncomputable def lawD : DefRec := { name := "law", params := parsF 25, body := bodyF 25, scope := scopeF 25, pos := ⟨252, 0, 287, 89⟩ }
theorem hd1 : defOf vw "law" = some (lawD, []) := by kernel_rfl
theorem hd2 : PySem.Challenge.pw_no0092_01.theDef "law" = some (lawD.params, lawD.body, lawD.scope) := by kernel_rfl
theorem hd4 : (chainsOk vw && opensWell PySem.Challenge.pw_no0092_01 && (frees PySem.Challenge.rw_no0092_01.row.toRowW && PySem.Challenge.rw_no0092_01.row.within.isEmpty)) = true := by kernel_rfl
theorem nok : namesOk vw (looseW vw loF) (namesW vw loF) = true := by
  rw [PySem.W.Fast.te17448422675489707002, PySem.W.Fast.te821141287760084731]
  kernel_rfl
theorem imn : importsNone vw = true := by kernel_rfl
set_option maxHeartbeats 8000000 in
theorem hd (call : ∀ q, namesOk q (looseW q loF) (namesW q loF) = true → importsNone q = true → WalkO q loF (XL q []) hk.says PySem.Challenge.rw_no0092_01.row.toRowW lawD [] fun f vs => PySem.call f vs) : PySem.Challenge.rw_no0092_01.Holds := by
  refine holds_law said fun sd => ?_
  refine PySem.W.holds_open (q := vw) (loose := loF) (Xt := fun s => xlAt vw [] s && recOk (RowW.records PySem.Challenge.rw_no0092_01.row.toRowW) s) (XP := XL vw []) (Yf := hk.obs) (Ya := hk.val) (YP := hk.says) (N := 3096) left hk.of hk.keeps (fun s e => xl_of s (Bool.and_eq_true_iff.mp e).1) XL.keeps hd1 hd2 ?h3 (fun s e => recFacts_of (Bool.and_eq_true_iff.mp e).2) ?h8 sd hd4 ⟨rfl, rfl, rfl, rfl, rfl, ?h5⟩ ⟨[.list [.int 3, .int 1]], ?h6, ?h7⟩ (call vw nok imn)
  · kernel_rfl
  · kernel_rfl
  all_goals decide +kernel
end Mine
end
section -- P2
namespace Mini
open PySem PySem.W PyProof.Rows

noncomputable abbrev HMap := Addr → Option Obj

/-- a sequence object of the map -/
inductive InG (G : HMap) (c : String) (a : Addr) (items : Array Value) : Prop
  | mk (o : Obj) (n : Nat) : G a = some o → o.cls = .type c → o.data = .seq items n → InG G c a items

mutual
/-- the value is that data; its objects lie in the map -/
noncomputable def VRep (P : Addr) (G : HMap) (v : Value) : D → Prop
  | .int i => ∃ t, v = .int i t
  | .bool b => v = .bool b
  | .none => v = .none
  | .str => ∃ x t, v = .str x t
  | .pool => v = .ref P
  | .list ds => ∃ a items, InG G "list" a items ∧ VReps P G items.toList ds ∧ v = .ref a
  | .tup ds => ∃ a items, InG G "tuple" a items ∧ VReps P G items.toList ds ∧ v = .ref a
noncomputable def VReps (P : Addr) (G : HMap) (vs : List Value) : List D → Prop
  | [] => vs = []
  | d :: ds => ∃ v r, VRep P G v d ∧ VReps P G r ds ∧ vs = v :: r
end

noncomputable def Le (G G' : HMap) : Prop := ∀ a o, G a = some o → G' a = some o
theorem Le.refl (G : HMap) : Le G G := fun _ _ h => h
theorem Le.trans {G G' G'' : HMap} (x : Le G G') (y : Le G' G'') : Le G G'' := fun a o h => y a o (x a o h)
theorem InG.mono {G G' : HMap} (l : Le G G') {c : String} {a : Addr} {items : Array Value} (h : InG G c a items) : InG G' c a items :=
  h.rec fun o n e => .mk o n (l _ _ e)

section
variable {P : Addr} {G : HMap}
theorem VRep.int (i : Int) (t : Tok) : VRep P G (.int i t) (.int i) := ⟨t, rfl⟩
theorem VRep.bool (b : Bool) : VRep P G (.bool b) (.bool b) := rfl
theorem VRep.none : VRep P G .none .none := rfl
theorem VRep.str (x : Str) (t : Tok) : VRep P G (.str x t) .str := ⟨x, t, rfl⟩
theorem VRep.pool : VRep P G (.ref P) .pool := rfl
theorem VRep.list {a : Addr} {items : Array Value} {ds : List D} (h : InG G "list" a items) (r : VReps P G items.toList ds) : VRep P G (.ref a) (.list ds) := ⟨a, items, h, r, rfl⟩
theorem VRep.tup {a : Addr} {items : Array Value} {ds : List D} (h : InG G "tuple" a items) (r : VReps P G items.toList ds) : VRep P G (.ref a) (.tup ds) := ⟨a, items, h, r, rfl⟩
theorem VReps.nil : VReps P G [] [] := rfl
theorem VReps.cons {v : Value} {d : D} {vs : List Value} {ds : List D} (h : VRep P G v d) (r : VReps P G vs ds) : VReps P G (v :: vs) (d :: ds) := ⟨v, vs, h, r, rfl⟩
@[elab_as_elim] theorem VRep.intE {m : Value → Prop} {v : Value} {i : Int} (h : VRep P G v (.int i)) (k : ∀ t, m (.int i t)) : m v :=
  h.rec fun t e => e ▸ k t
@[elab_as_elim] theorem VRep.boolE {m : Value → Prop} {v : Value} {b : Bool} (h : VRep P G v (.bool b)) (k : m (.bool b)) : m v := (show v = _ from h) ▸ k
@[elab_as_elim] theorem VRep.noneE {m : Value → Prop} {v : Value} (h : VRep P G v .none) (k : m .none) : m v := (show v = _ from h) ▸ k
@[elab_as_elim] theorem VRep.poolE {m : Value → Prop} {v : Value} (h : VRep P G v .pool) (k : m (.ref P)) : m v := (show v = _ from h) ▸ k
@[elab_as_elim] theorem VRep.listE {m : Value → Prop} {v : Value} {ds : List D} (h : VRep P G v (.list ds)) (k : ∀ a items, InG G "list" a items → VReps P G items.toList ds → m (.ref a)) : m v :=
  h.rec fun a h => h.rec fun items h => h.2.2 ▸ k a items h.1 h.2.1
@[elab_as_elim] theorem VRep.tupE {m : Value → Prop} {v : Value} {ds : List D} (h : VRep P G v (.tup ds)) (k : ∀ a items, InG G "tuple" a items → VReps P G items.toList ds → m (.ref a)) : m v :=
  h.rec fun a h => h.rec fun items h => h.2.2 ▸ k a items h.1 h.2.1
@[elab_as_elim] theorem VReps.nilE {m : List Value → Prop} {vs : List Value} (h : VReps P G vs []) (k : m []) : m vs := (show vs = _ from h) ▸ k
@[elab_as_elim] theorem VReps.consE {m : List Value → Prop} {vs : List Value} {d : D} {ds : List D} (h : VReps P G vs (d :: ds)) (k : ∀ v r, VRep P G v d → VReps P G r ds → m (v :: r)) : m vs :=
  h.rec fun v h => h.rec fun r h => h.2.2 ▸ k v r h.1 h.2.1
/-- induction along a row of values -/
@[elab_as_elim] theorem VReps.ind {m : List Value → List D → Prop} (h0 : m [] []) (h1 : ∀ v d vs ds, VRep P G v d → VReps P G vs ds → m vs ds → m (v :: vs) (d :: ds)) {vs : List Value} {ds : List D} (h : VReps P G vs ds) : m vs ds := by
  induction ds generalizing vs with
  | nil => exact h.nilE h0
  | cons d ds ih => exact h.consE fun v r a b => h1 v d r ds a b (ih b)
end

mutual
theorem VRep.mono {P : Addr} {G G' : HMap} (l : Le G G') {v : Value} : ∀ {d : D}, VRep P G v d → VRep P G' v d
  | .int _, h => h
  | .bool _, h => h
  | .none, h => h
  | .str, h => h
  | .pool, h => h
  | .list _, ⟨a, items, h, r, e⟩ => ⟨a, items, h.mono l, VReps.mono l r, e⟩
  | .tup _, ⟨a, items, h, r, e⟩ => ⟨a, items, h.mono l, VReps.mono l r, e⟩
theorem VReps.mono {P : Addr} {G G' : HMap} (l : Le G G') {vs : List Value} : ∀ {ds : List D}, VReps P G vs ds → VReps P G' vs ds
  | [], h => h
  | _ :: _, ⟨v, r, h, t, e⟩ => ⟨v, r, VRep.mono l h, VReps.mono l t, e⟩
end

section
variable {P : Addr} {G : HMap}
theorem VReps.length {v : List Value} {d : List D} (h : VReps P G v d) : v.length = d.length :=
  h.ind rfl fun _ _ _ _ _ _ e => congrArg (· + 1) e
theorem VReps.get {v : List Value} {d : List D} (h : VReps P G v d) {k : Nat} {x : D} (e : d[k]? = some x) : ∃ y, v[k]? = some y ∧ VRep P G y x := by
  revert k
  refine VReps.ind (m := fun v d => ∀ {k : Nat}, d[k]? = some x → ∃ y, v[k]? = some y ∧ VRep P G y x) (fun h => by cases h) (fun v d vs ds a _ ih k h => ?_) h
  cases k with
  | zero => cases h; exact ⟨v, rfl, a⟩
  | succ k => exact ih (k := k) h
theorem VReps.get' {v : List Value} {d : List D} (h : VReps P G v d) {k : Nat} {y : Value} (e : v[k]? = some y) : ∃ x, d[k]? = some x ∧ VRep P G y x := by
  revert k
  refine VReps.ind (m := fun v d => ∀ {k : Nat}, v[k]? = some y → ∃ x, d[k]? = some x ∧ VRep P G y x) (fun h => by cases h) (fun v d vs ds a _ ih k h => ?_) h
  cases k with
  | zero => cases h; exact ⟨d, rfl, a⟩
  | succ k => exact ih (k := k) h
theorem VReps.append {v : List Value} {d : List D} {v' : List Value} {d' : List D} (h : VReps P G v d) (t : VReps P G v' d') : VReps P G (v ++ v') (d ++ d') :=
  h.ind t fun _ _ _ _ a _ b => .cons a b
theorem VReps.one {v : Value} {d : D} (h : VRep P G v d) : VReps P G [v] [d] := .cons h .nil
theorem VReps.set {y : Value} {x : D} (h : VRep P G y x) {v : List Value} {d : List D} (t : VReps P G v d) : ∀ k : Nat, VReps P G (v.set k y) (d.set k x) := by
  refine VReps.ind (m := fun v d => ∀ k : Nat, VReps P G (v.set k y) (d.set k x)) (fun _ => .nil) (fun v d vs ds a b ih k => ?_) t
  cases k with
  | zero => exact .cons h b
  | succ k => exact .cons a (ih k)
theorem VReps.reverse {v : List Value} {d : List D} (h : VReps P G v d) : VReps P G v.reverse d.reverse :=
  h.ind .nil fun v d vs ds a _ b => by rw [List.reverse_cons, List.reverse_cons]; exact b.append (.one a)
theorem VReps.replicate {v : Value} {d : D} (h : VRep P G v d) : ∀ n : Nat, VReps P G (List.replicate n v) (List.replicate n d)
  | 0 => .nil
  | n + 1 => .cons h (VReps.replicate h n)
theorem VReps.filterMap {v : List Value} {d : List D} (h : VReps P G v d) (js : List Nat) : VReps P G (js.filterMap (v[·]?)) (js.filterMap (d[·]?)) := by
  induction js with
  | nil => exact .nil
  | cons j js ih =>
    cases hd : d[j]? with
    | none =>
      have hv : v[j]? = .none := by rw [List.getElem?_eq_none_iff] at hd ⊢; rw [h.length]; exact hd
      rw [List.filterMap_cons_none hd, List.filterMap_cons_none hv]; exact ih
    | some x =>
      obtain ⟨y, hv, hr⟩ := h.get hd
      rw [List.filterMap_cons_some hd, List.filterMap_cons_some hv]; exact .cons hr ih
end

/-- the heap bears the map, up to the slots of frames -/
noncomputable def Agr (H : HMap) (h : Heap) : Prop := ∀ a o, H a = some o → h.get? a = some o ∨ ((∃ es n, o.data = .dict es n) ∧ ∃ sl, h.get? a = some { o with slots := sl })
noncomputable def AgrG (H : HMap) (h : Heap) : Prop := ∀ a o, H a = some o → h.get? a = some o
theorem Agr.get {H : HMap} {h : Heap} {a : Addr} {o : Obj} (x : Agr H h) (e : H a = some o) : ∃ sl, h.get? a = some { o with slots := sl } := by
  rcases x a o e with q | ⟨_, q⟩
  · exact ⟨o.slots, q⟩
  · exact q
theorem Agr.exact {H : HMap} {h : Heap} {a : Addr} {o : Obj} (x : Agr H h) (e : H a = some o) (hd : ∀ es n, o.data ≠ .dict es n) : h.get? a = some o := by
  rcases x a o e with q | ⟨⟨es, n, q⟩, _⟩
  · exact q
  · exact absurd q (hd es n)
theorem Agr.keeps {H : HMap} {h h' : Heap} (x : Agr H h) (k : ∀ a o, h.get? a = some o → h'.get? a = some o) : Agr H h' := fun a o e =>
  (x a o e).imp (k _ _) fun ⟨q, sl, r⟩ => ⟨q, sl, k _ _ r⟩
theorem AgrG.keeps {H : HMap} {h h' : Heap} (x : AgrG H h) (k : ∀ a o, h.get? a = some o → h'.get? a = some o) : AgrG H h' := fun a o e => k _ _ (x a o e)
theorem Agr.none {H : HMap} {h : Heap} (x : Agr H h) : H h.objs.size = .none := by
  cases e : H h.objs.size with
  | none => rfl
  | some o => obtain ⟨sl, q⟩ := x.get e; exact absurd (Heap.lt_size q) (Nat.lt_irrefl _)
theorem AgrG.none {H : HMap} {h : Heap} (x : AgrG H h) : H h.objs.size = .none := by
  cases e : H h.objs.size with
  | none => rfl
  | some o => exact absurd (Heap.lt_size (x _ _ e)) (Nat.lt_irrefl _)
theorem Agr.none_of {H : HMap} {h : Heap} {a : Addr} (x : Agr H h) (hn : h.get? a = Option.none) : H a = .none := by
  cases e : H a with
  | none => rfl
  | some o => obtain ⟨sl, q⟩ := x.get e; rw [hn] at q; cases q
theorem AgrG.none_of {H : HMap} {h : Heap} {a : Addr} (x : AgrG H h) (hn : h.get? a = Option.none) : H a = .none := by
  cases e : H a with
  | none => rfl
  | some o => have q := x _ _ e; rw [hn] at q; cases q

noncomputable def PoolOK (h₀ : Heap) (P : Addr) (G Hd : HMap) (p : Pool) (h : Heap) : Prop :=
  ∀ q, p = some q → (∃ o t u n, h.get? P = some o ∧ o.cls = .type "list" ∧ o.data = .seq #[.int q.1 t, .int q.2 u] n) ∧ G P = none ∧ Hd P = none ∧ h₀.get? P = none

structure StOK (h₀ : Heap) (P : Addr) (G Hd : HMap) (p : Pool) (s : Shared) : Prop where
  agrG : AgrG G s.heap
  agrH : Agr Hd s.heap
  sep : ∀ a o, G a = some o → Hd a = none
  base : ∀ b o, h₀.get? b = some o → s.heap.get? b = some o
  pool : PoolOK h₀ P G Hd p s.heap

/-- nothing but the heap and the tokens differs -/
noncomputable def Sm (s s' : Shared) : Prop := ∃ h t, s' = { s with heap := h, toks := t }
theorem Sm.refl (s : Shared) : Sm s s := ⟨s.heap, s.toks, rfl⟩
theorem Sm.trans {s s' s'' : Shared} (x : Sm s s') (y : Sm s' s'') : Sm s s'' := by
  obtain ⟨h, t, rfl⟩ := x; obtain ⟨h', t', rfl⟩ := y; exact ⟨h', t', rfl⟩
theorem Sm.mk (s : Shared) (h : Heap) (t : Nat) : Sm s { s with heap := h, toks := t } := ⟨h, t, rfl⟩
theorem Sm.heap (s : Shared) (h : Heap) : Sm s { s with heap := h } := ⟨h, s.toks, rfl⟩
theorem Sm.toks (s : Shared) (t : Nat) : Sm s { s with toks := t } := ⟨s.heap, t, rfl⟩

structure Nxt (h₀ : Heap) (P : Addr) (G Hd : HMap) (s : Shared) (G' : HMap) (p' : Pool) (s' : Shared) : Prop where
  le : Le G G'
  st : StOK h₀ P G' Hd p' s'
  sm : Sm s s'
theorem Nxt.trans {h₀ : Heap} {P : Addr} {G Hd : HMap} {s : Shared} {G' : HMap} {p' : Pool} {s' : Shared} {G'' : HMap} {p'' : Pool} {s'' : Shared}
    (x : Nxt h₀ P G Hd s G' p' s') (y : Nxt h₀ P G' Hd s' G'' p'' s'') : Nxt h₀ P G Hd s G'' p'' s'' := ⟨x.le.trans y.le, y.st, x.sm.trans y.sm⟩
theorem StOK.nxt {h₀ : Heap} {P : Addr} {G Hd : HMap} {p : Pool} {s : Shared} (x : StOK h₀ P G Hd p s) : Nxt h₀ P G Hd s G p s := ⟨.refl _, x, .refl _⟩

section
variable {h₀ : Heap} {P : Addr} {G Hd : HMap} {p : Pool} {s : Shared}

/-- a heap that keeps all that stood -/
theorem StOK.keeps {h : Heap} {t : Nat} (x : StOK h₀ P G Hd p s) (k : ∀ a o, s.heap.get? a = some o → h.get? a = some o) : StOK h₀ P G Hd p { s with heap := h, toks := t } where
  agrG := x.agrG.keeps k
  agrH := x.agrH.keeps k
  sep := x.sep
  base := fun b o e => k _ _ (x.base b o e)
  pool := fun q e => let ⟨⟨o, t, u, n, h1, h2, h3⟩, r⟩ := x.pool q e; ⟨⟨o, t, u, n, k _ _ h1, h2, h3⟩, r⟩
theorem StOK.toks (x : StOK h₀ P G Hd p s) (t : Nat) : StOK h₀ P G Hd p { s with toks := t } := x.keeps (h := s.heap) (t := t) (fun _ _ e => e)
theorem StOK.nxtK {h : Heap} {t : Nat} (x : StOK h₀ P G Hd p s) (k : ∀ a o, s.heap.get? a = some o → h.get? a = some o) : Nxt h₀ P G Hd s G p { s with heap := h, toks := t } := ⟨.refl _, x.keeps k, .mk ..⟩
theorem StOK.nxtH {h : Heap} (x : StOK h₀ P G Hd p s) (k : ∀ a o, s.heap.get? a = some o → h.get? a = some o) : Nxt h₀ P G Hd s G p { s with heap := h } := x.nxtK (t := s.toks) k
theorem StOK.nxtT (x : StOK h₀ P G Hd p s) (t : Nat) : Nxt h₀ P G Hd s G p { s with toks := t } := ⟨.refl _, x.toks t, .toks ..⟩

/-- one more frozen object -/
noncomputable def addG (G : HMap) (a : Addr) (o : Obj) : HMap := fun b => if b = a then some o else G b
theorem addG_le {a : Addr} {o : Obj} (h : G a = none) : Le G (addG G a o) := fun b o' e => by
  unfold addG
  by_cases hb : b = a
  · subst hb; rw [h] at e; cases e
  · rw [if_neg hb]; exact e
theorem addG_self {a : Addr} {o : Obj} : addG G a o a = some o := by unfold addG; rw [if_pos rfl]

theorem StOK.freeze {a : Addr} {o : Obj} (x : StOK h₀ P G Hd p s) (hg : G a = none) (hh : Hd a = none) (ho : s.heap.get? a = some o) (hP : p = none ∨ a ≠ P) :
    Nxt h₀ P G Hd s (addG G a o) p s where
  le := addG_le hg
  sm := .refl _
  st := {
    agrG := fun b o' e => by
      unfold addG at e
      split at e
      · rename_i hb; subst hb; cases e; exact ho
      · exact x.agrG b o' e
    agrH := x.agrH
    sep := fun b o' e => by
      unfold addG at e
      split at e
      · rename_i hb; subst hb; exact hh
      · exact x.sep b o' e
    base := x.base
    pool := fun q e => by
      obtain ⟨h1, h2, h3⟩ := x.pool q e
      refine ⟨h1, ?_, h3⟩
      rcases hP with hP | hP
      · rw [hP] at e; cases e
      · unfold addG; rw [if_neg (Ne.symm hP)]; exact h2 }
end

/-- a list that nothing else knows -/
structure NewL (h₀ : Heap) (P : Addr) (G Hd : HMap) (p : Pool) (h : Heap) (a : Addr) (l : List D) : Prop where
  g : G a = none
  hd : Hd a = none
  b : h₀.get? a = none
  p : p = none ∨ a ≠ P
  o : ∃ items n, h.get? a = some { cls := .type "list", dict := none, data := .seq items n, slots := #[] } ∧ VReps P G items.toList l

/-- a value that an expression gives: its own new list, or frozen -/
noncomputable def VPost (h₀ : Heap) (P : Addr) (G Hd : HMap) (p : Pool) (h : Heap) (fl : Bool) (v : Value) (d : D) : Prop :=
  match fl with
  | false => VRep P G v d
  | true => ∃ a l, NewL h₀ P G Hd p h a l ∧ v = .ref a ∧ d = .list l

section
variable {h₀ : Heap} {P : Addr} {G Hd : HMap} {p : Pool} {s : Shared}
theorem VPost.frz {h : Heap} {v : Value} {d : D} (x : VRep P G v d) : VPost h₀ P G Hd p h false v d := x
theorem VPost.own {h : Heap} {a : Addr} {l : List D} (x : NewL h₀ P G Hd p h a l) : VPost h₀ P G Hd p h true (.ref a) (.list l) := ⟨a, l, x, rfl, rfl⟩
theorem VPost.freeze {fl : Bool} {v : Value} {d : D} (x : StOK h₀ P G Hd p s) (h : VPost h₀ P G Hd p s.heap fl v d) : ∃ G', Nxt h₀ P G Hd s G' p s ∧ VRep P G' v d := by
  cases fl with
  | false => exact ⟨G, x.nxt, h⟩
  | true =>
    obtain ⟨a, l, h, rfl, rfl⟩ := h
    obtain ⟨items, n, ho, hr⟩ := h.o
    exact ⟨_, x.freeze h.g h.hd ho h.p, .list ⟨_, _, addG_self, rfl, rfl⟩ (hr.mono (addG_le h.g))⟩

/-- an address that is not yet there -/
structure Fresh (h₀ : Heap) (P : Addr) (G Hd : HMap) (p : Pool) (s : Shared) (a : Addr) : Prop where
  h : s.heap.get? a = none
  g : G a = none
  hd : Hd a = none
  b : h₀.get? a = none
  p : p = none ∨ a ≠ P
theorem StOK.notAt {a : Addr} (S : StOK h₀ P G Hd p s) (k : ∀ o, s.heap.get? P = some o → a ≠ P) : p = none ∨ a ≠ P := by
  cases p with
  | none => exact .inl rfl
  | some q =>
    obtain ⟨⟨o, _, _, _, h, _⟩, _⟩ := S.pool q rfl
    exact .inr (k o h)
theorem StOK.freshOf {a : Addr} (S : StOK h₀ P G Hd p s) (hn : s.heap.get? a = none) : Fresh h₀ P G Hd p s a := by
  refine ⟨hn, S.agrG.none_of hn, S.agrH.none_of hn, ?_, S.notAt fun o h e => ?_⟩
  · cases e : h₀.get? a with
    | none => rfl
    | some o => rw [S.base _ _ e] at hn; cases hn
  · rw [← e, hn] at h; cases h
theorem get?_fresh {h : Heap} {a : Addr} (ha : h.objs.size ≤ a) : h.get? a = none := by
  cases e : h.get? a with
  | none => rfl
  | some o => exact absurd (Nat.lt_of_lt_of_le (Heap.lt_size e) ha) (Nat.lt_irrefl _)
theorem StOK.fresh {a : Addr} (S : StOK h₀ P G Hd p s) (ha : s.heap.objs.size ≤ a) : Fresh h₀ P G Hd p s a := S.freshOf (get?_fresh ha)

/-- a new list of frozen items -/
theorem StOK.newL {items : Array Value} {l : List D} (x : StOK h₀ P G Hd p s) (hr : VReps P G items.toList l) :
    Nxt h₀ P G Hd s G p { s with heap := s.heap.push { cls := .type "list", data := .seq items } } ∧ NewL h₀ P G Hd p (s.heap.push { cls := .type "list", data := .seq items }) s.heap.objs.size l :=
  have f := x.fresh (Nat.le_refl _)
  ⟨x.nxtH fun a o e => Heap.get?_push_of_some _ e, ⟨f.g, f.hd, f.b, f.p, ⟨items, 0, Heap.get?_push_size _ rfl, hr⟩⟩⟩
theorem StOK.newT {items : Array Value} {l : List D} (x : StOK h₀ P G Hd p s) (hr : VReps P G items.toList l) :
    ∃ G', Nxt h₀ P G Hd s G' p { s with heap := s.heap.push { cls := .type "tuple", data := .seq items } } ∧ VRep P G' (.ref s.heap.objs.size) (.tup l) :=
  have k := x.nxtH (h := s.heap.push { cls := .type "tuple", data := .seq items }) fun a o e => Heap.get?_push_of_some _ e
  have q := x.fresh (Nat.le_refl _)
  have f := k.st.freeze (a := s.heap.objs.size) (o := { cls := .type "tuple", data := .seq items }) q.g q.hd (Heap.get?_push_size _ rfl) q.p
  ⟨_, k.trans f, .tup ⟨_, _, addG_self, rfl, rfl⟩ (hr.mono f.le)⟩
end

end Mini
end
section -- P3
namespace Mini
open PySem PySem.W PyProof.Rows

/-! ## the check that a term of mine is a term of Python's -/
structure Ns where
  vars : List Str
  scope : Scope
  lvl : Nat

noncomputable def fnames : List Str := [Str.ofString "counts_by_length", Str.ofString "room_of", Str.ofString "check_lengths", Str.ofString "used_symbols", Str.ofString "total_bits", Str.ofString "placed", Str.ofString "tree_depths",
  Str.ofString "free_lengths", Str.ofString "check_room", Str.ofString "merged", Str.ofString "package_depths", Str.ofString "least_lengths", Str.ofString "_law_pool", Str.ofString "_law_take", Str.ofString "_law_counts",
  Str.ofString "_law_total", Str.ofString "_law_least", Str.ofString "_law_rows", Str.ofString "_law_by_rows", Str.ofString "_law_merged", Str.ofString "_law_row_right", Str.ofString "_law_ordered",
  Str.ofString "_law_low_tree_right", Str.ofString "_law_total_refused", Str.ofString "_law_refused"]
noncomputable def ranks : List Nat := [0, 0, 1, 0, 0, 0, 0, 1, 0, 0, 1, 2, 0, 0, 1, 0, 0, 0, 1, 0, 3, 0, 2, 1, 3]
noncomputable def rank (f : Nat) : Nat := ranks.getD f 0

noncomputable def bopOf : Operator → Option Bop
  | .Add => some .add | .Sub => some .sub | .Mult => some .mul | .FloorDiv => some .fdiv | .Mod => some .mod | .Pow => some .pow | .LShift => some .shl
  | _ => none
noncomputable def copOf : CmpOp → Option Cop
  | .Lt => some .lt | .LtE => some .le | .Gt => some .gt | .GtE => some .ge | .Eq => some .eq | .NotEq => some .ne | .Is => some .is_ | .IsNot => some .isnot
  | _ => none
/-! recognisers: one form of Python's terms each -/
noncomputable def oB {α : Type} (x : Option α) (f : α → Bool) : Bool := match x with | some t => f t | none => false
theorem oB_true {α : Type} {x : Option α} {f : α → Bool} (h : oB x f = true) : ∃ t, f t = true := by
  cases x with
  | none => cases h
  | some t => exact ⟨t, h⟩
theorem bb {a b : Bool} (h : (a && b) = true) : a = true ∧ b = true := Bool.and_eq_true_iff.mp h
noncomputable def rInt : (e : Expr) → Option { t : Int × Nat × Pos // e = .Constant (.int t.1) t.2.1 t.2.2 }
  | .Constant (.int j) k p => some ⟨(j, k, p), rfl⟩
  | _ => none
noncomputable def rBol : (e : Expr) → Option { t : Bool × Nat × Pos // e = .Constant (.bool t.1) t.2.1 t.2.2 }
  | .Constant (.bool j) k p => some ⟨(j, k, p), rfl⟩
  | _ => none
noncomputable def rNon : (e : Expr) → Option { t : Nat × Pos // e = .Constant .none t.1 t.2 }
  | .Constant .none k p => some ⟨(k, p), rfl⟩
  | _ => none
noncomputable def rName : (e : Expr) → Option { t : Str × Pos // e = .Name t.1 t.2 }
  | .Name n p => some ⟨(n, p), rfl⟩
  | _ => none
noncomputable def rBin : (e : Expr) → Option { t : Expr × Operator × Expr × Pos // e = .BinOp t.1 t.2.1 t.2.2.1 t.2.2.2 }
  | .BinOp l o r p => some ⟨(l, o, r, p), rfl⟩
  | _ => none
noncomputable def rList : (e : Expr) → Option { t : List Expr × Pos // e = .List t.1 t.2 }
  | .List l p => some ⟨(l, p), rfl⟩
  | _ => none
noncomputable def rTup : (e : Expr) → Option { t : List Expr × Nat × Pos // e = .Tuple t.1 t.2.1 t.2.2 }
  | .Tuple l k p => some ⟨(l, k, p), rfl⟩
  | _ => none
noncomputable def rUn : (e : Expr) → Option { t : UnaryOp × Expr × Pos // e = .UnaryOp t.1 t.2.1 t.2.2 }
  | .UnaryOp o x p => some ⟨(o, x, p), rfl⟩
  | _ => none
noncomputable def rCmp : (e : Expr) → Option { t : Expr × List CmpOp × List Expr × Pos // e = .Compare t.1 t.2.1 t.2.2.1 t.2.2.2 }
  | .Compare l o r p => some ⟨(l, o, r, p), rfl⟩
  | _ => none
noncomputable def rBoo : (e : Expr) → Option { t : BoolOp × List Expr × Pos // e = .BoolOp t.1 t.2.1 t.2.2 }
  | .BoolOp o l p => some ⟨(o, l, p), rfl⟩
  | _ => none
noncomputable def rIf : (e : Expr) → Option { t : Expr × Expr × Expr × Pos // e = .IfExp t.1 t.2.1 t.2.2.1 t.2.2.2 }
  | .IfExp a b c p => some ⟨(a, b, c, p), rfl⟩
  | _ => none
noncomputable def rSub : (e : Expr) → Option { t : Expr × Expr × Pos // e = .Subscript t.1 t.2.1 t.2.2 }
  | .Subscript v s p => some ⟨(v, s, p), rfl⟩
  | _ => none
noncomputable def rSli : (e : Expr) → Option { t : Option Expr × Option Expr × Option Expr × Pos // e = .Slice t.1 t.2.1 t.2.2.1 t.2.2.2 }
  | .Slice a b c p => some ⟨(a, b, c, p), rfl⟩
  | _ => none
noncomputable def rCall : (e : Expr) → Option { t : Expr × List Expr × Pos // e = .Call t.1 t.2.1 [] t.2.2 }
  | .Call f a [] p => some ⟨(f, a, p), rfl⟩
  | _ => none
noncomputable def rComp : (e : Expr) → Option { t : Expr × List Comprehension × Scope × Pos // e = .ListComp t.1 t.2.1 t.2.2.1 t.2.2.2 }
  | .ListComp e l s p => some ⟨(e, l, s, p), rfl⟩
  | _ => none
noncomputable def l1 {α : Type} : (l : List α) → Option { t : α // l = [t] }
  | [x] => some ⟨x, rfl⟩
  | _ => none
noncomputable def l2 {α : Type} : (l : List α) → Option { t : α × α // l = [t.1, t.2] }
  | [x, y] => some ⟨(x, y), rfl⟩
  | _ => none
noncomputable def l3 {α : Type} : (l : List α) → Option { t : α × α × List α // l = t.1 :: t.2.1 :: t.2.2 }
  | x :: y :: r => some ⟨(x, y, r), rfl⟩
  | _ => none
noncomputable def uncons {α : Type} : (l : List α) → Option { t : α × List α // l = t.1 :: t.2 }
  | x :: r => some ⟨(x, r), rfl⟩
  | _ => none
noncomputable def oN {α : Type} (x : Option α) (b : Bool) (f : α → Bool) : Bool := match x with | some t => f t | none => b
noncomputable def ifsOk (l : List Expr) (f : Expr → Bool) : Bool := match l with | [] => f (.Constant (.bool true) 0 default) | c :: r => r.isEmpty && f c
noncomputable def isMul : Operator → Bool
  | .Mult => true
  | _ => false
noncomputable def isUSub : UnaryOp → Bool
  | .USub => true
  | _ => false
noncomputable def isNot : UnaryOp → Bool
  | .Not => true
  | _ => false
noncomputable def isAnd : BoolOp → Bool
  | .And => true
  | _ => false
noncomputable def isV (ns : Ns) (x : Nat) (e : Expr) : Bool := oB (rName e) fun t => ns.vars[x]? == some t.1.1 && !(t.1.1 == ("__debug__" : Str))
noncomputable def isG (ns : Ns) (n : Str) (e : Expr) : Bool := oB (rName e) fun t => t.1.1 == n && (ns.scope.names.lookup t.1.1 == some .globalImplicit && !(t.1.1 == ("__debug__" : Str)))
noncomputable def biName : Bi → Str
  | .len => "len" | .abs => "abs" | .int => "int" | .max2 => "max" | .max1 => "max" | .min1 => "min" | .list => "list" | .sorted => "sorted"
noncomputable def isNil : List Expr → Bool
  | [] => true
  | _ => false
noncomputable def notSlice : Expr → Bool
  | .Slice .. => false
  | _ => true
noncomputable def isName : Expr → Bool
  | .Name .. => true
  | _ => false
noncomputable def isSub : Expr → Bool
  | .Subscript .. => true
  | _ => false

/-- the names of a comprehension's own block, in their order -/
noncomputable def cnames (sc : Scope) : List (Str × NameKind) := sc.names.filter fun x => x.1 != (".0" : Str)
/-- a comprehension's scope as its block has it: what the function keeps in a cell is a cell -/
noncomputable def crel1 (outer : Scope) (x : Str × NameKind) : Str × NameKind := if (x.2 == .free && outer.kind == .function && outer.names.lookup x.1 == some .cell) then (x.1, .cell) else x
noncomputable def crelabel (sc outer : Scope) : Scope := { sc with names := sc.names.map (crel1 outer) }
noncomputable def cns (ns : Ns) (sc : Scope) : Ns := { vars := (cnames sc).map (·.1), scope := crelabel sc ns.scope, lvl := 0 }
noncomputable def fvOk1 (ns : Ns) (x : Str × NameKind) (o : Option Nat) : Bool := match o with
  | none => x.2 == .local
  | some j => x.2 == .free && (ns.vars[j]? == some x.1 && ns.scope.names.lookup x.1 == some .cell)
noncomputable def fvOk (ns : Ns) : List (Str × NameKind) → List (Option Nat) → Bool
  | [], fv => fv.isEmpty
  | x :: r, fv => oB (uncons fv) fun t => fvOk1 ns x t.1.1 && fvOk ns r t.1.2
noncomputable def tgGo (ns : Ns) : List Nat → List Expr → Bool
  | [], l => isNil l
  | x :: xs, l => oB (uncons l) fun t => isV ns x t.1.1 && tgGo ns xs t.1.2
noncomputable def tgOk (ns : Ns) (tg : List Nat) (isT : Bool) (e : Expr) : Bool := match isT with
  | false => oB (l1 tg) fun x => isV ns x.1 e
  | true => oB (rTup e) fun t => tgGo ns tg t.1.1
noncomputable def scopeOk (sc : Scope) : Bool :=
  sc.kind == .function && sc.names.all (fun x => x.2 != .cell && sc.names.lookup x.1 == some x.2) && sc.names.all (fun x => !(x.1 == (".0" : Str) && x.2 == .free)) && decide ((cnames sc).map (·.1)).Nodup

noncomputable def notStar : Expr → Bool
  | .Starred .. => false
  | _ => true
noncomputable def okT : Ex → Bool → Bool
  | .enum _, b => b
  | .zip _ _, b => b
  | _, _ => true
noncomputable def isNoneEx : Ex → Bool
  | .none => true
  | _ => false
noncomputable def ckN (ns : Ns) (n : Str) (e : Expr) (k : List Expr → Bool) : Bool := oB (rCall e) fun t => isG ns n t.1.1 && k t.1.2.1
mutual
noncomputable def ckX (ns : Ns) : Ex → Bool → Expr → Bool
  | .int i, _, e => oB (rInt e) fun j => i == j.1.1
  | .bool b, _, e => oB (rBol e) fun c => b == c.1.1
  | .none, _, e => oB (rNon e) fun _ => true
  | .var x, _, e => isV ns x e
  | .bin o a b, _, e => oB (rBin e) fun t => bopOf t.1.2.1 == some o && (ckX ns a false t.1.1 && ckX ns b false t.1.2.2.1)
  | .rep a b, _, e => oB (rBin e) fun t => isMul t.1.2.1 && (oB (rList t.1.1) fun l => oB (l1 l.1.1) fun x => notStar x.1 && (ckX ns a false x.1 && ckX ns b false t.1.2.2.1))
  | .neg a, _, e => oB (rUn e) fun t => isUSub t.1.1 && ckX ns a false t.1.2.1
  | .cmp o a b, _, e => oB (rCmp e) fun t => oB (l1 t.1.2.1) fun op => oB (l1 t.1.2.2.1) fun r => copOf op.1 == some o && (!behindInMarks op.1 r.1 && (ckX ns a false t.1.1 && ckX ns b false r.1))
  | .chain o o' a b c, _, e => oB (rCmp e) fun t => oB (l2 t.1.2.1) fun op => oB (l2 t.1.2.2.1) fun r => copOf op.1.1 == some o && (copOf op.1.2 == some o' && (!behindInMarks op.1.2 r.1.2 && (ckX ns a false t.1.1 && (ckX ns b false r.1.1 && ckX ns c false r.1.2))))
  | .and a b, _, e => oB (rBoo e) fun t => isAnd t.1.1 && (oB (l3 t.1.2.1) fun l => ckX ns a false l.1.1 && ckX ns b false (if l.1.2.2.isEmpty then l.1.2.1 else .BoolOp .And (l.1.2.1 :: l.1.2.2) t.1.2.2))
  | .or a b, _, e => oB (rBoo e) fun t => !isAnd t.1.1 && (oB (l3 t.1.2.1) fun l => ckX ns a false l.1.1 && ckX ns b false (if l.1.2.2.isEmpty then l.1.2.1 else .BoolOp .Or (l.1.2.1 :: l.1.2.2) t.1.2.2))
  | .not a, _, e => oB (rUn e) fun t => isNot t.1.1 && ckX ns a false t.1.2.1
  | .ite c a b, _, e => oB (rIf e) fun t => ckX ns c false t.1.1 && (ckX ns a false t.1.2.1 && ckX ns b false t.1.2.2.1)
  | .list es, _, e => oB (rList e) fun l => ckEs ns es l.1.1
  | .tup es, _, e => oB (rTup e) fun l => ckEs ns es l.1.1
  | .sub a i, _, e => oB (rSub e) fun t => isSub t.1.1 && (notSlice t.1.2.1 && (ckX ns a false t.1.1 && ckX ns i false t.1.2.1))
  | .subv x i, _, e => oB (rSub e) fun t => notSlice t.1.2.1 && (isV ns x t.1.1 && ckX ns i false t.1.2.1)
  | .slice a lo hi st, _, e => oB (rSub e) fun t => oB (rSli t.1.2.1) fun u => isName t.1.1 && (ckX ns a false t.1.1 && (oN u.1.1 (isNoneEx lo) (fun e => ckX ns lo false e) &&
      (oN u.1.2.1 (isNoneEx hi) (fun e => ckX ns hi false e) && oN u.1.2.2.1 (isNoneEx st) (fun e => ckX ns st false e))))
  | .lenv x, _, e => ckN ns "len" e fun l => oB (l1 l) fun v => isV ns x v.1
  | .call f es, _, e => ckN ns (fnames.getD f "") e fun l => decide (f < 25) && (ckEs ns es l && (decide (rank f < ns.lvl) && !isNil l))
  | .bi b es, _, e => ckN ns (biName b) e fun l => ckEs ns es l && !isNil l
  | .isint a, _, e => ckN ns "isinstance" e fun l => oB (l2 l) fun t => isG ns "int" t.1.2 && ckX ns a false t.1.1
  | .comp tg isT fv elt it cond, _, e => oB (rComp e) fun t => oB (l1 t.1.2.1) fun g => decide (g.1.is_async = 0) && (scopeOk t.1.2.2.1 && (okT it isT && (fvOk ns (cnames t.1.2.2.1) fv && (tg.all (fun x => (cnames t.1.2.2.1)[x]?.map (·.2) == some .local) && (tgOk (cns ns t.1.2.2.1) tg isT g.1.target && (ckX (cns ns t.1.2.2.1) elt false t.1.1 &&
      (ifsOk g.1.ifs (fun c => ckX (cns ns t.1.2.2.1) cond false c) && ckX ns it true g.1.iter)))))))
  | .nil, _, _ => false
  | .cons _ _, _, _ => false
  | .range es, i, e => i && (ckN ns "range" e fun l => ckEs ns es l)
  | .enum x, i, e => i && (ckN ns "enumerate" e fun l => oB (l1 l) fun a => ckX ns x false a.1)
  | .zip x y, i, e => i && (ckN ns "zip" e fun l => oB (l2 l) fun t => ckX ns x false t.1.1 && ckX ns y false t.1.2)
  | .rev x, i, e => i && (ckN ns "reversed" e fun l => oB (l1 l) fun a => ckX ns x false a.1)
termination_by structural x => x
noncomputable def ckEs (ns : Ns) : Ex → List Expr → Bool
  | .nil, l => isNil l
  | .cons x xs, l => oB (uncons l) fun t => ckX ns x false t.1.1 && ckEs ns xs t.1.2
  | _, _ => false
termination_by structural x => x
end
noncomputable abbrev ckE (ns : Ns) (x : Ex) (e : Expr) : Bool := ckX ns x false e
noncomputable abbrev ckI (ns : Ns) (x : Ex) (e : Expr) : Bool := ckX ns x true e

end Mini
end
section -- P5
namespace Mini
open PySem PySem.W PyProof.Rows
theorem kk {α : Type} {m : α → Prop} {a b : α} (h : m b) (e : a = b) : m a := e ▸ h
section
variable {ns : Ns} {e : Expr}
theorem isMul_eq {o : Operator} (h : isMul o = true) : o = .Mult := by cases o <;> first | rfl | cases h
theorem isUSub_eq {o : UnaryOp} (h : isUSub o = true) : o = .USub := by cases o <;> first | rfl | cases h
theorem isNot_eq {o : UnaryOp} (h : isNot o = true) : o = .Not := by cases o <;> first | rfl | cases h
theorem isAnd_eq {o : BoolOp} (h : isAnd o = true) : o = .And := by cases o <;> first | rfl | cases h
theorem isOr_eq {o : BoolOp} (h : (!isAnd o) = true) : o = .Or := by cases o <;> first | rfl | cases h
theorem notNil {l : List Expr} (h : (!isNil l) = true) : l ≠ [] := fun q => by rw [q] at h; cases h
theorem nt {b : Bool} (h : (!b) = true) : b = false := by cases b <;> first | rfl | cases h
theorem isNil_eq {l : List Expr} (h : isNil l = true) : l = [] := by cases l <;> first | rfl | cases h
@[elab_as_elim] theorem ckN_eq {n : Str} {k : List Expr → Bool} (h : ckN ns n e k = true) {m : Expr → Prop} (K0 : ∀ g l pos, isG ns n g = true → k l = true → m (.Call g l [] pos)) : m e :=
  (oB_true h).elim fun t h =>
  kk (K0 _ _ _ ((bb h).1) ((bb h).2)) (t.2)
theorem isV_eq {x : Nat} (h : isV ns x e = true) : ∃ n pos, e = .Name n pos ∧ ns.vars[x]? = some n ∧ (n == ("__debug__" : Str)) = false :=
  let ⟨t, h⟩ := oB_true h
  ⟨_, _, t.2, eq_of_beq (bb h).1, nt (bb h).2⟩
@[elab_as_elim] theorem isV_eqK {x : Nat} (h : isV ns x e = true) {m : Expr → Prop} (K0 : ∀ n pos, ns.vars[x]? = some n → (n == ("__debug__" : Str)) = false → m (.Name n pos)) : m e :=
  let ⟨n, pos, q, h0, h1⟩ := isV_eq h
  kk (K0 n pos h0 h1) q
theorem isG_eq {n : Str} (h : isG ns n e = true) : ∃ pos, e = .Name n pos ∧ ns.scope.names.lookup n = some .globalImplicit ∧ (n == ("__debug__" : Str)) = false :=
  let ⟨t, h⟩ := oB_true h
  have q := eq_of_beq (bb h).1
  ⟨t.1.2, q ▸ t.2, q ▸ eq_of_beq (bb (bb h).2).1, q ▸ nt (bb (bb h).2).2⟩
@[elab_as_elim] theorem isG_eqK {n : Str} (h : isG ns n e = true) {m : Expr → Prop} (K0 : ∀ pos, ns.scope.names.lookup n = some .globalImplicit → (n == ("__debug__" : Str)) = false → m (.Name n pos)) : m e :=
  let ⟨pos, q, h0, h1⟩ := isG_eq h
  kk (K0 pos h0 h1) q
@[elab_as_elim] theorem ck_int {i : Int} (h : ckE ns (.int i) e = true) {m : Expr → Prop} (K0 : ∀ k pos, m (.Constant (.int i) k pos)) : m e :=
  (oB_true h).elim fun t h =>
  kk (K0 _ _ ) ((eq_of_beq h).symm ▸ t.2)
@[elab_as_elim] theorem ck_bool {b : Bool} (h : ckE ns (.bool b) e = true) {m : Expr → Prop} (K0 : ∀ k pos, m (.Constant (.bool b) k pos)) : m e :=
  (oB_true h).elim fun t h =>
  kk (K0 _ _ ) ((eq_of_beq h).symm ▸ t.2)
@[elab_as_elim] theorem ck_none (h : ckE ns .none e = true) {m : Expr → Prop} (K0 : ∀ k pos, m (.Constant .none k pos)) : m e :=
  (oB_true h).elim fun t _ =>
  kk (K0 _ _ ) (t.2)
theorem ck_var {x : Nat} (h : ckE ns (.var x) e = true) : ∃ n pos, e = .Name n pos ∧ ns.vars[x]? = some n ∧ (n == ("__debug__" : Str)) = false := isV_eq h
@[elab_as_elim] theorem ck_bin {o : Bop} {a b : Ex} (h : ckE ns (.bin o a b) e = true) {m : Expr → Prop} (K0 : ∀ l op r pos, bopOf op = some o → ckE ns a l = true → ckE ns b r = true → m (.BinOp l op r pos)) : m e :=
  (oB_true h).elim fun t h =>
  kk (K0 _ _ _ _ (eq_of_beq (bb h).1) ((bb (bb h).2).1) ((bb (bb h).2).2)) (t.2)
@[elab_as_elim] theorem ck_rep {a b : Ex} (h : ckE ns (.rep a b) e = true) {m : Expr → Prop} (K0 : ∀ x p r pos, ckE ns a x = true → ckE ns b r = true → m (.BinOp (.List [x] p) .Mult r pos)) : m e :=
  (oB_true h).elim fun t h =>
  (oB_true (bb h).2).elim fun l h2 =>
  (oB_true h2).elim fun x h3 =>
  kk (K0 x.1 l.1.2 _ t.1.2.2.2 ((bb (bb h3).2).1) ((bb (bb h3).2).2)) (by rw [← x.2, ← l.2, ← isMul_eq (bb h).1]; exact t.2)
@[elab_as_elim] theorem ck_neg {a : Ex} (h : ckE ns (.neg a) e = true) {m : Expr → Prop} (K0 : ∀ x pos, ckE ns a x = true → m (.UnaryOp .USub x pos)) : m e :=
  (oB_true h).elim fun t h =>
  kk (K0 _ _ ((bb h).2)) (isUSub_eq (bb h).1 ▸ t.2)
@[elab_as_elim] theorem ck_cmp {o : Cop} {a b : Ex} (h : ckE ns (.cmp o a b) e = true) {m : Expr → Prop} (K0 : ∀ l op r pos, copOf op = some o → behindInMarks op r = false → ckE ns a l = true → ckE ns b r = true → m (.Compare l [op] [r] pos)) : m e :=
  (oB_true h).elim fun t h =>
  (oB_true h).elim fun op h =>
  (oB_true h).elim fun r h =>
  kk (K0 _ op.1 r.1 _ (eq_of_beq (bb h).1) (nt (bb (bb h).2).1) ((bb (bb (bb h).2).2).1) ((bb (bb (bb h).2).2).2)) (op.2 ▸ r.2 ▸ t.2)
@[elab_as_elim] theorem ck_chain {o o' : Cop} {a b c : Ex} (h : ckE ns (.chain o o' a b c) e = true) {m : Expr → Prop} (K0 : ∀ l op op' r r' pos, copOf op = some o → copOf op' = some o' → behindInMarks op' r' = false → ckE ns a l = true → ckE ns b r = true → ckE ns c r' = true → m (.Compare l [op, op'] [r, r'] pos)) : m e :=
  (oB_true h).elim fun t h =>
  (oB_true h).elim fun op h =>
  (oB_true h).elim fun r h =>
  have h1 := bb (bb h).2
  have h2 := bb h1.2
  have h3 := bb h2.2
  kk (K0 _ op.1.1 op.1.2 r.1.1 r.1.2 _ (eq_of_beq (bb h).1) (eq_of_beq h1.1) (nt h2.1) h3.1 ((bb h3.2).1) ((bb h3.2).2)) (op.2 ▸ r.2 ▸ t.2)
@[elab_as_elim] theorem ck_and {a b : Ex} (h : ckE ns (.and a b) e = true) {m : Expr → Prop} (K0 : ∀ x y r pos, ckE ns a x = true → ckE ns b (if r.isEmpty then y else .BoolOp .And (y :: r) pos) = true → m (.BoolOp .And (x :: y :: r) pos)) : m e :=
  (oB_true h).elim fun t h =>
  (oB_true (bb h).2).elim fun l h2 =>
  kk (K0 l.1.1 l.1.2.1 l.1.2.2 t.1.2.2 ((bb h2).1) ((bb h2).2)) (by rw [← l.2, ← isAnd_eq (bb h).1]; exact t.2)
@[elab_as_elim] theorem ck_or {a b : Ex} (h : ckE ns (.or a b) e = true) {m : Expr → Prop} (K0 : ∀ x y r pos, ckE ns a x = true → ckE ns b (if r.isEmpty then y else .BoolOp .Or (y :: r) pos) = true → m (.BoolOp .Or (x :: y :: r) pos)) : m e :=
  (oB_true h).elim fun t h =>
  (oB_true (bb h).2).elim fun l h2 =>
  kk (K0 l.1.1 l.1.2.1 l.1.2.2 t.1.2.2 ((bb h2).1) ((bb h2).2)) (by rw [← l.2, ← isOr_eq (bb h).1]; exact t.2)
@[elab_as_elim] theorem ck_not {a : Ex} (h : ckE ns (.not a) e = true) {m : Expr → Prop} (K0 : ∀ x pos, ckE ns a x = true → m (.UnaryOp .Not x pos)) : m e :=
  (oB_true h).elim fun t h =>
  kk (K0 _ _ ((bb h).2)) (isNot_eq (bb h).1 ▸ t.2)
@[elab_as_elim] theorem ck_ite {c a b : Ex} (h : ckE ns (.ite c a b) e = true) {m : Expr → Prop} (K0 : ∀ t x y pos, ckE ns c t = true → ckE ns a x = true → ckE ns b y = true → m (.IfExp t x y pos)) : m e :=
  (oB_true h).elim fun t h =>
  kk (K0 _ _ _ _ ((bb h).1) ((bb (bb h).2).1) ((bb (bb h).2).2)) (t.2)
@[elab_as_elim] theorem ck_list {es : Ex} (h : ckE ns (.list es) e = true) {m : Expr → Prop} (K0 : ∀ l pos, ckEs ns es l = true → m (.List l pos)) : m e :=
  (oB_true h).elim fun t h =>
  kk (K0 _ _ h) (t.2)
@[elab_as_elim] theorem ck_tup {es : Ex} (h : ckE ns (.tup es) e = true) {m : Expr → Prop} (K0 : ∀ l k pos, ckEs ns es l = true → m (.Tuple l k pos)) : m e :=
  (oB_true h).elim fun t h =>
  kk (K0 _ _ _ h) (t.2)
@[elab_as_elim] theorem ck_sub {a i : Ex} (h : ckE ns (.sub a i) e = true) {m : Expr → Prop} (K0 : ∀ v s pos, isSub v = true → notSlice s = true → ckE ns a v = true → ckE ns i s = true → m (.Subscript v s pos)) : m e :=
  (oB_true h).elim fun t h =>
  kk (K0 _ _ _ ((bb h).1) ((bb (bb h).2).1) ((bb (bb (bb h).2).2).1) ((bb (bb (bb h).2).2).2)) (t.2)
@[elab_as_elim] theorem ck_subv {x : Nat} {i : Ex} (h : ckE ns (.subv x i) e = true) {m : Expr → Prop} (K0 : ∀ v s pos, notSlice s = true → isV ns x v = true → ckE ns i s = true → m (.Subscript v s pos)) : m e :=
  (oB_true h).elim fun t h =>
  kk (K0 _ _ _ ((bb h).1) ((bb (bb h).2).1) ((bb (bb h).2).2)) (t.2)
noncomputable def ckO (ns : Ns) (x : Ex) : Option Expr → Prop
  | none => x = .none
  | some e => ckE ns x e = true
theorem isNoneEx_eq {x : Ex} (h : isNoneEx x = true) : x = .none := by cases x <;> first | rfl | cases h
theorem ckO_of {x : Ex} {l : Option Expr} (h : oN l (isNoneEx x) (fun e => ckE ns x e) = true) : ckO ns x l := by
  cases l with
  | none => exact isNoneEx_eq h
  | some e => exact h
@[elab_as_elim] theorem ck_slice {a lo hi st : Ex} (h : ckE ns (.slice a lo hi st) e = true) {m : Expr → Prop} (K0 : ∀ v l u k p pos, isName v = true → ckE ns a v = true → ckO ns lo l → ckO ns hi u → ckO ns st k → m (.Subscript v (.Slice l u k p) pos)) : m e :=
  (oB_true h).elim fun t h =>
  (oB_true h).elim fun u h =>
  have h1 := bb (bb h).2
  have h2 := bb h1.2
  have h3 := bb h2.2
  kk (K0 _ _ _ _ u.1.2.2.2 t.1.2.2 ((bb h).1) h1.1 (ckO_of h2.1) (ckO_of h3.1) (ckO_of h3.2)) (u.2 ▸ t.2)
@[elab_as_elim] theorem ck_lenv {x : Nat} (h : ckE ns (.lenv x) e = true) {m : Expr → Prop} (K0 : ∀ f v pos, isG ns "len" f = true → isV ns x v = true → m (.Call f [v] [] pos)) : m e :=
  ckN_eq h fun g l p hg h =>
  (oB_true h).elim fun v h =>
  kk (K0 g v.1 p hg h) (congrArg (fun l => Expr.Call g l [] p) v.2)
@[elab_as_elim] theorem ck_call {f : Nat} {es : Ex} (h : ckE ns (.call f es) e = true) {m : Expr → Prop} (K0 : ∀ g args pos, f < 25 → isG ns (fnames.getD f "") g = true → ckEs ns es args = true → rank f < ns.lvl → args ≠ [] → m (.Call g args [] pos)) : m e :=
  ckN_eq h fun g l p hg h =>
  have h1 := bb (bb h).2
  K0 g l p (of_decide_eq_true (bb h).1) hg h1.1 (of_decide_eq_true (bb h1.2).1) (notNil (bb h1.2).2)
@[elab_as_elim] theorem ck_bi {b : Bi} {es : Ex} (h : ckE ns (.bi b es) e = true) {m : Expr → Prop} (K0 : ∀ g args pos, isG ns (biName b) g = true → ckEs ns es args = true → args ≠ [] → m (.Call g args [] pos)) : m e :=
  ckN_eq h fun g l p hg h =>
  K0 g l p hg ((bb h).1) (notNil (bb h).2)
@[elab_as_elim] theorem ck_isint {a : Ex} (h : ckE ns (.isint a) e = true) {m : Expr → Prop} (K0 : ∀ g x t pos, isG ns "isinstance" g = true → isG ns "int" t = true → ckE ns a x = true → m (.Call g [x, t] [] pos)) : m e :=
  ckN_eq h fun g l p hg h =>
  (oB_true h).elim fun v h =>
  kk (K0 g _ _ p hg ((bb h).1) ((bb h).2)) (congrArg (fun l => Expr.Call g l [] p) v.2)
theorem ifsOk_eq {l : List Expr} {f : Expr → Bool} (h : ifsOk l f = true) : (l = [] ∧ f (.Constant (.bool true) 0 default) = true) ∨ ∃ c, l = [c] ∧ f c = true := by
  match l, h with
  | [], h => exact .inl ⟨rfl, h⟩
  | [c], h => exact .inr ⟨c, rfl, h⟩
theorem gen_eta : ∀ g : Comprehension, g = ⟨g.target, g.iter, g.ifs, g.is_async⟩
  | .mk _ _ _ _ => rfl
/-- the parts of a comprehension -/
structure CmK (ns : Ns) (tg : List Nat) (isT : Bool) (fv : List (Option Nat)) (elt it cond : Ex) (e' t i : Expr) (ifs : List Expr) (sc : Scope) : Prop where
  hsc : scopeOk sc = true
  hok : okT it isT = true
  hfv : fvOk ns (cnames sc) fv = true
  hloc : tg.all (fun x => (cnames sc)[x]?.map (·.2) == some .local) = true
  htg : tgOk (cns ns sc) tg isT t = true
  helt : ckE (cns ns sc) elt e' = true
  hifs : (ifs = [] ∧ ckE (cns ns sc) cond (.Constant (.bool true) 0 default) = true) ∨ (∃ c, ifs = [c] ∧ ckE (cns ns sc) cond c = true)
  hit : ckI ns it i = true
@[elab_as_elim] theorem ck_comp {tg : List Nat} {isT : Bool} {fv : List (Option Nat)} {elt it cond : Ex} (h : ckE ns (.comp tg isT fv elt it cond) e = true) {m : Expr → Prop}
    (K0 : ∀ e' t i ifs sc pos, CmK ns tg isT fv elt it cond e' t i ifs sc → m (.ListComp e' [⟨t, i, ifs, 0⟩] sc pos)) : m e :=
  (oB_true h).elim fun t h =>
  (oB_true h).elim fun g h =>
  have h1 := bb (bb h).2
  have h2 := bb h1.2
  have h3 := bb h2.2
  have h4 := bb h3.2
  have h5 := bb h4.2
  have h6 := bb h5.2
  have h7 := bb h6.2
  kk (K0 _ g.1.target g.1.iter g.1.ifs _ t.1.2.2.2 ⟨h1.1, h2.1, h3.1, h4.1, h5.1, h6.1, ifsOk_eq h7.1, h7.2⟩) (t.2.trans (congrArg (fun l => Expr.ListComp t.1.1 l t.1.2.2.1 t.1.2.2.2) (g.2.trans (congrArg (fun g => [g]) ((gen_eta g.1).trans (congrArg (Comprehension.mk g.1.target g.1.iter g.1.ifs) (of_decide_eq_true (bb h).1)))))))
theorem cks_nil {es : List Expr} (h : ckEs ns .nil es = true) : es = [] := isNil_eq h
theorem cks_cons {x xs : Ex} {es : List Expr} (h : ckEs ns (.cons x xs) es = true) : ∃ e r, es = e :: r ∧ ckE ns x e = true ∧ ckEs ns xs r = true :=
  let ⟨t, h⟩ := oB_true h
  ⟨_, _, t.2, bb h⟩
theorem ck_starred {x : Ex} {v : Expr} {p : Pos} : ckE ns x (.Starred v p) = false := by cases x <;> rfl
theorem ck_set {x : Ex} {a : List Expr} {k : Nat} {q : Pos} : ckI ns x (.Set a k q) = false := by cases x <;> rfl
theorem ck_lc {x : Ex} {e0 : Expr} {g : List Comprehension} {sc : Scope} {q : Pos} (h : ckE ns x (.ListComp e0 g sc q) = true) : ∃ tg isT fv elt it cond, x = .comp tg isT fv elt it cond := by
  cases x with
  | comp => exact ⟨_, _, _, _, _, _, rfl⟩
  | _ => exact Bool.noConfusion h
theorem ck_true {x : Ex} {k : Nat} {q : Pos} (h : ckE ns x (.Constant (.bool true) k q) = true) : x = .bool true := by
  cases x with
  | bool b => exact congrArg _ (eq_of_beq h)
  | _ => exact Bool.noConfusion h
@[elab_as_elim] theorem ckI_enum {x : Ex} (h : ckI ns (.enum x) e = true) {m : Expr → Prop} (K0 : ∀ g a pos, isG ns "enumerate" g = true → ckE ns x a = true → m (.Call g [a] [] pos)) : m e :=
  ckN_eq (bb h).2 fun g l p hg h =>
  (oB_true h).elim fun v h =>
  kk (K0 g v.1 p hg h) (congrArg (fun l => Expr.Call g l [] p) v.2)
@[elab_as_elim] theorem ckI_rev {x : Ex} (h : ckI ns (.rev x) e = true) {m : Expr → Prop} (K0 : ∀ g a pos, isG ns "reversed" g = true → ckE ns x a = true → m (.Call g [a] [] pos)) : m e :=
  ckN_eq (bb h).2 fun g l p hg h =>
  (oB_true h).elim fun v h =>
  kk (K0 g v.1 p hg h) (congrArg (fun l => Expr.Call g l [] p) v.2)
@[elab_as_elim] theorem ckI_zip {x y : Ex} (h : ckI ns (.zip x y) e = true) {m : Expr → Prop} (K0 : ∀ g a b pos, isG ns "zip" g = true → ckE ns x a = true → ckE ns y b = true → m (.Call g [a, b] [] pos)) : m e :=
  ckN_eq (bb h).2 fun g l p hg h =>
  (oB_true h).elim fun v h =>
  kk (K0 g _ _ p hg ((bb h).1) ((bb h).2)) (congrArg (fun l => Expr.Call g l [] p) v.2)
@[elab_as_elim] theorem ckI_range {es : Ex} (h : ckI ns (.range es) e = true) {m : Expr → Prop} (K0 : ∀ g args pos, isG ns "range" g = true → ckEs ns es args = true → m (.Call g args [] pos)) : m e :=
  ckN_eq (bb h).2 fun g l p hg h =>
  K0 g l p hg h
end
end Mini
end
section -- P4
namespace Mini
open PySem PySem.W PyProof.Rows

/-- what stays the same all through -/
structure Zt where
  prog : Program
  w : World
  h₀ : Heap
  P : Addr
  C : Calls
noncomputable abbrev Zt.M (Z : Zt) : Model := model Z.prog Z.w

section
variable (Z : Zt)

/-- a name gives its value wherever what is held stands -/
noncomputable def Rd (Hd : HMap) (env : Env) (n : Str) (v : Value) : Prop :=
  ∀ (A : Around) (E : Value → Shared → Prop) (Q : Value → Shared → Prop) (s : Shared), Agr Hd s.heap → Q v s → wpAny Z.M A (loadName env n) Q E s

/-- a held list of its own -/
inductive OwnAt (P : Addr) (G Hd : HMap) (a : Addr) (l : List D) : Prop
  | mk (o : Obj) (items : Array Value) (k : Nat) : Hd a = some o → o.cls = .type "list" → o.dict = none → o.data = .seq items k → VReps P G items.toList l → OwnAt P G Hd a l
theorem OwnAt.mono {P : Addr} {G G' Hd : HMap} {a : Addr} {l : List D} (u : Le G G') (h : OwnAt P G Hd a l) : OwnAt P G' Hd a l :=
  h.rec fun o items k a b c d e => .mk o items k a b c d (e.mono u)
noncomputable def SlotOK (G Hd : HMap) (env : Env) (n : Str) : Slot → Prop
  | .un => True
  | .frz d => ∃ v, VRep Z.P G v d ∧ Rd Z Hd env n v
  | .own l => ∃ a, OwnAt Z.P G Hd a l ∧ Rd Z Hd env n (.ref a)
/-- a held cell -/
noncomputable def CellAt (Hd : HMap) (c : Addr) (v : Option Value) : Prop := ∃ o, Hd c = some o ∧ o.data = .cell v

structure EnvOK (G Hd : HMap) (env : Env) (ns : Ns) (sl : List Slot) : Prop where
  scope : env.scope = ns.scope
  kind : ns.scope.kind = .function
  glob : env.globals = mainGlobals
  blt : env.builtins = builtinsNs
  vars : ∀ (x : Nat) (n : Str), ns.vars[x]? = some n → SlotOK Z G Hd env n (sg sl x)
  cells : ∀ n, env.kindOf n = some .cell → ∃ c v, env.cells.lookup n = some c ∧ CellAt Hd c v
  cellv : ∀ (x : Nat) (n : Str) (d : D), ns.vars[x]? = some n → sg sl x = .frz d → env.kindOf n = some .cell → ∃ c v, env.cells.lookup n = some c ∧ CellAt Hd c (some v) ∧ VRep Z.P G v d

structure Ctx (h₀ : Heap) (lvl : Nat) (A : Around) (l : List Env) (Hd : HMap) : Prop where
  handled : A.handled = none
  depth : A.depth + lvl ≤ 400
  units : A.units + 8 * lvl ≤ 1000
  frames : A.frames = some l
  ff : ∀ h, Agr Hd h → h.FunFrames h₀ l
  fd : ∀ e ∈ l, ∀ L, e.frame = some L → ∃ o es n, Hd L = some o ∧ o.data = .dict es n

noncomputable def bnames : List Str := ["len", "abs", "int", "max", "min", "list", "sorted", "isinstance", "range", "enumerate", "zip", "reversed"]
structure GlobOK (h₀ : Heap) (fad : Nat → Addr) : Prop where
  ns : ∃ mg mb, h₀.Ns mainGlobals mg ∧ h₀.Ns builtinsNs mb ∧ (∀ f n, fnames[f]? = some n → mg n = some (.ref (fad f))) ∧ (∀ x ∈ bnames, mg x = none ∧ mb x = bootBuiltins x)

/-- the class of the law's own refusals -/
noncomputable def BadC (h₀ : Heap) (C : Addr) : Prop := ∀ mg, h₀.Ns mainGlobals mg → mg ("BadArgument" : Str) = some (.ref C)
/-- an exception on its way through the frames l -/
structure XB (h₀ base : Heap) (tb : Bool) (l : List Env) (G Hd : HMap) (ea : Addr) (h : Heap) : Prop where
  low : h₀.StaysIn base
  stay : base.StaysIn h
  new : base.get? ea = none
  ff : h.FunFrames base l
  g : ∀ a o, G a = some o → base.get? a = some o
  hd : ∀ a o, Hd a = some o → (∀ es n, o.data ≠ .dict es n) → base.get? a = some o
  exc : ∃ C a0, BadC h₀ C ∧ ((tb = false ∧ ∃ oe vs, h.get? ea = some oe ∧ oe.cls = .ref C ∧ oe.data = .fields vs ∧ vs[0]? = some a0 ∧ vs[1]? = some .none) ∨ h.TracedAtW base ea (.ref C) a0 .none ∨
    ∃ env L, l.head? = some env ∧ env.frame = some L ∧ h.TracedAtW base ea (.ref C) a0 (rawInt L))
inductive XFly (h₀ : Heap) (l : List Env) (G Hd : HMap) (ea : Addr) (h : Heap) : Prop
  | mk (base : Heap) (tb : Bool) : XB h₀ base tb l G Hd ea h → XFly h₀ l G Hd ea h
inductive XOK (h₀ : Heap) (P : Addr) (l : List Env) (G Hd : HMap) (s : Shared) (q : Pool) (e : Value) (s' : Shared) : Prop
  | mk (ea : Addr) (G' : HMap) : e = .ref ea → Nxt h₀ P G Hd s G' q s' → XFly h₀ l G' Hd ea s'.heap → XOK h₀ P l G Hd s q e s'
theorem XOK.after {h₀ : Heap} {P : Addr} {l : List Env} {G Hd G1 : HMap} {p1 q : Pool} {s s1 s' : Shared} {e : Value} (n : Nxt h₀ P G Hd s G1 p1 s1) (x : XOK h₀ P l G1 Hd s1 q e s') : XOK h₀ P l G Hd s q e s' :=
  x.rec fun ea G' he hn hx => .mk ea G' he (n.trans hn) hx

/-- where an expression is run -/
structure Fm where
  ns : Ns
  A : Around
  l : List Env
  env : Env
  sl : List Slot
  Hd : HMap
  X : Ctx Z.h₀ ns.lvl A l Hd
end

section
variable {Z : Zt}
theorem SlotOK.mono {G G' Hd : HMap} {env : Env} {n : Str} (l : Le G G') : ∀ {t : Slot}, SlotOK Z G Hd env n t → SlotOK Z G' Hd env n t
  | .un, x => x
  | .frz _, ⟨v, h, r⟩ => ⟨v, h.mono l, r⟩
  | .own _, ⟨a, h, r⟩ => ⟨a, h.mono l, r⟩
theorem EnvOK.mono {G G' Hd : HMap} {env : Env} {ns : Ns} {sl : List Slot} (l : Le G G') (x : EnvOK Z G Hd env ns sl) : EnvOK Z G' Hd env ns sl :=
  { x with vars := fun i n h => (x.vars i n h).mono l, cellv := fun i n d h ht hk => (x.cellv i n d h ht hk).imp fun _ h => h.imp fun _ h => ⟨h.1, h.2.1, h.2.2.mono l⟩ }

noncomputable abbrev Fm.nx (F : Fm Z) (G : HMap) (s : Shared) (G' : HMap) (p' : Pool) (s' : Shared) : Prop := Nxt Z.h₀ Z.P G F.Hd s G' p' s'
structure Fm.On (F : Fm Z) (G : HMap) (p : Pool) (s : Shared) : Prop where
  V : EnvOK Z G F.Hd F.env F.ns F.sl
  S : StOK Z.h₀ Z.P G F.Hd p s
theorem Fm.On.next {F : Fm Z} {G G' : HMap} {p p' : Pool} {s s' : Shared} (o : F.On G p s) (n : F.nx G s G' p' s') : F.On G' p' s' := ⟨o.V.mono n.le, n.st⟩
/-- what follows an exception -/
noncomputable def Fm.Xc (F : Fm Z) (G : HMap) (s : Shared) (ε : Pool → Prop) (E : Value → Shared → Prop) : Prop := ∀ q e s', ε q → XOK Z.h₀ Z.P F.l G F.Hd s q e s' → E e s'
theorem Fm.Xc.after {F : Fm Z} {G G' : HMap} {p' : Pool} {s s' : Shared} {ε : Pool → Prop} {E : Value → Shared → Prop} (h : F.Xc G s ε E) (n : F.nx G s G' p' s') : F.Xc G' s' ε E := fun q e s2 a b => h q e s2 a (.after n b)
noncomputable def Fm.Vl (F : Fm Z) (G : HMap) (s : Shared) (Φ : Bool → D → Pool → Prop) (Q : Value → Shared → Prop) : Prop :=
  ∀ fl d q v G' s', Φ fl d q → F.nx G s G' q s' → VPost Z.h₀ Z.P G' F.Hd q s'.heap fl v d → Q v s'

end
/-- an expression's run is the machine's -/
structure Snd (Z : Zt) (x : Ex) : Prop where
  ev : ∀ (F : Fm Z) {e : Expr}, ckE F.ns x e = true → ∀ {Φ : Bool → D → Pool → Prop} {ε : Pool → Prop} {Q : Value → Shared → Prop} {E : Value → Shared → Prop} {G : HMap} {p : Pool} {s : Shared},
    Mini.ev Z.C x F.sl p Φ ε → F.On G p s → F.Vl G s Φ Q → F.Xc G s ε E → wpAny Z.M F.A (eval e F.env) Q E s
  t : ∀ (F : Fm Z) {e : Expr}, ckE F.ns x e = true → ∀ {Φ : Bool → Pool → Prop} {ε : Pool → Prop} {Q : Bool → Shared → Prop} {E : Value → Shared → Prop} {G : HMap} {p : Pool} {s : Shared},
    Mini.ev Z.C x F.sl p (fun _ d q => asB d fun b => Φ b q) ε → F.On G p s → (∀ b q G' s', Φ b q → F.nx G s G' q s' → Q b s') → F.Xc G s ε E → wpAny Z.M F.A (isTrue e F.env (eval e F.env)) Q E s
  es : ∀ (F : Fm Z) {es : List Expr} {pos : Pos}, ckEs F.ns x es = true → ∀ {Φ : List D → Pool → Prop} {ε : Pool → Prop} {Q : List Value → Shared → Prop} {E : Value → Shared → Prop} {G : HMap} {p : Pool} {s : Shared},
    Mini.ev Z.C x F.sl p (fun _ d q => asL d fun l => Φ l q) ε → F.On G p s → (∀ l q vs G' s', Φ l q → F.nx G s G' q s' → VReps Z.P G' vs l → Q vs s') → F.Xc G s ε E → wpAny Z.M F.A (spliced (backTo pos (starEach es F.env))) Q E s

noncomputable def isL : Ex → Bool
  | .nil => true
  | .cons _ _ => true
  | _ => false
theorem noEs {ns : Ns} {es : List Expr} {x : Ex} (h1 : isL x = false) (h2 : ckEs ns x es = true) : False := by
  cases x <;> first | exact Bool.noConfusion (show true = false from h1) | exact Bool.noConfusion (show false = true from h2)

section
variable {Z : Zt} {x : Ex} {F : Fm Z} {e : Expr} {ε : Pool → Prop} {E : Value → Shared → Prop} {G : HMap} {p : Pool} {s : Shared}
/-- a value, frozen -/
theorem Snd.d (I : Snd Z x) (hc : ckE F.ns x e = true) {Φ : Bool → D → Pool → Prop} {Q : Value → Shared → Prop} (h : Mini.ev Z.C x F.sl p Φ ε) (o : F.On G p s) (hx : F.Xc G s ε E)
    (k : ∀ fl d q v G' s', Φ fl d q → F.nx G s G' q s' → VRep Z.P G' v d → Q v s') : wpAny Z.M F.A (eval e F.env) Q E s :=
  I.ev F hc h o (fun fl d q v G' s' h n hv => (hv.freeze n.st).elim fun G2 a => k fl d q v G2 s' h (n.trans a.1) a.2) hx

@[elab_as_elim] theorem VPost.bool {h₀ : Heap} {P : Addr} {G Hd : HMap} {p : Pool} {h : Heap} {fl : Bool} {v : Value} {d : D} {k : Bool → Prop} {m : Value → Prop} (hv : VPost h₀ P G Hd p h fl v d) (ha : asB d k) (hk : ∀ b, k b → m (.bool b)) : m v := by
  cases d with
  | bool b =>
    cases fl with
    | false => exact VRep.boolE (m := m) (show VRep P G v (.bool b) from hv) (hk b ha)
    | true => obtain ⟨a, l, _, _, q⟩ := hv; cases q
  | _ => exact ha.elim
/-- an expression that is no list of expressions and no test by form -/
theorem Snd.plain (hl : isL x = false)
    (he : ∀ (F : Fm Z) {e : Expr}, ckE F.ns x e = true → ∀ {Φ : Bool → D → Pool → Prop} {ε : Pool → Prop} {Q : Value → Shared → Prop} {E : Value → Shared → Prop} {G : HMap} {p : Pool} {s : Shared},
      Mini.ev Z.C x F.sl p Φ ε → F.On G p s → F.Vl G s Φ Q → F.Xc G s ε E → wpAny Z.M F.A (eval e F.env) Q E s)
    (hf : ∀ {ns : Ns} {e : Expr}, ckE ns x e = true → ∀ env, isTrue e env (eval e env) = (do let v ← eval e env; standAt e.pos; holding [v] (truthy v))) : Snd Z x where
  ev := he
  t := fun F e hc Φ ε Q E G p s h o k hx => by
    rw [hf hc]
    exact wpAny_bind (he F hc h o (fun fl d q v G' s' h n hv => hv.bool h fun b hb => wpAny_bind (wpAny_standAt (wpAny_holding (wpAny_truthy_bool (k b q G' s' hb n))))) hx)
  es := fun F es pos hc => (noEs hl hc).elim
end
end Mini
end
section -- P9
namespace Mini
open PySem PySem.W PyProof.Rows

section
variable {Z : Zt}
theorem snd_int (i : Int) : Snd Z (.int i) := .plain rfl
  (fun F e hc Φ ε Q E G p s h o k hx => ck_int hc fun t pos => wpAny_Constant_int (k _ _ _ _ _ _ h (o.S.nxtT _) (.frz (.int _ _)))) fun hc env => ck_int hc fun _ _ => rfl
theorem snd_bool (b : Bool) : Snd Z (.bool b) where
  ev := fun F e hc Φ ε Q E G p s h o k hx => ck_bool hc fun t pos => wpAny_pure (k _ _ _ _ _ _ h o.S.nxt (.frz (.bool b)))
  t := fun F e hc Φ ε Q E G p s h o k hx => ck_bool hc fun t pos => isTrue_plain (wpAny_pure (wpAny_truthy_bool (k _ _ _ _ h o.S.nxt))) rfl
  es := fun F es pos hc => (noEs rfl hc).elim
theorem snd_none : Snd Z .none := .plain rfl
  (fun F e hc Φ ε Q E G p s h o k hx => ck_none hc fun t pos => wpAny_pure (k _ _ _ _ _ _ h o.S.nxt (.frz .none))) fun hc env => ck_none hc fun _ _ => rfl
theorem frzW_of {t : Slot} {K : D → Prop} (h : frzW t K) : ∃ d, t = .frz d ∧ K d := by
  cases t with
  | frz d => exact ⟨d, rfl, h⟩
  | _ => exact h.elim
theorem snd_var (x : Nat) : Snd Z (.var x) := .plain rfl
  (fun F e hc Φ ε Q E G p s h o k hx => by
    obtain ⟨n, pos, rfl, hn, hd⟩ := ck_var hc
    obtain ⟨d, hs, h⟩ := frzW_of h
    have := o.V.vars x n hn
    rw [hs] at this
    obtain ⟨v, hv, hr⟩ := this
    exact wpAny_Name (hr _ _ _ _ o.S.agrH (k _ _ _ _ _ _ h o.S.nxt (.frz hv))) hd) fun hc env => by obtain ⟨n, pos, rfl, hn, hd⟩ := ck_var hc; rfl

@[elab_as_elim] theorem asI.rep {P : Addr} {G : HMap} {v : Value} {d : D} {m : Value → Prop} {K : Int → Prop} (h : asI d K) (hv : VRep P G v d) (k : ∀ i t, K i → m (.int i t)) : m v := by
  cases d with
  | int i => exact VRep.intE (m := m) hv fun t => k i t h
  | _ => exact h.elim
theorem snd_neg {a : Ex} (Ia : Snd Z a) : Snd Z (.neg a) := .plain rfl
  (fun F e hc Φ ε Q E G p s h o k hx => ck_neg hc fun x pos ha => wpAny_UnaryOp (Ia.d ha h o hx fun _ d q v G1 s1 h n hv =>
    asI.rep h hv fun i t h => PySem.P.neg_int (k _ _ _ _ _ _ h (n.trans (n.st.nxtT _)) (.frz (.int _ _))))) fun hc env => ck_neg hc fun _ _ _ => rfl

theorem Snd.bv {x : Ex} {F : Fm Z} {e : Expr} {ε : Pool → Prop} {E : Value → Shared → Prop} {G : HMap} {p : Pool} {s : Shared} (I : Snd Z x) (hc : ckE F.ns x e = true) {Φ : Bool → Pool → Prop} {Q : Value → Shared → Prop} (h : Mini.ev Z.C x F.sl p (fun _ d q => asB d fun b => Φ b q) ε) (o : F.On G p s) (hx : F.Xc G s ε E)
    (k : ∀ b q G' s', Φ b q → F.nx G s G' q s' → Q (.bool b) s') : wpAny Z.M F.A (eval e F.env) Q E s :=
  I.ev F hc h o (fun fl d q v G' s' h n hv => hv.bool h fun b hb => k b q G' s' hb n) hx
theorem snd_not {a : Ex} (Ia : Snd Z a) : Snd Z (.not a) where
  ev := fun F e hc Φ ε Q E G p s h o k hx => ck_not hc fun x pos ha => wpAny_UnaryOp (Ia.bv ha h o hx fun b q G1 s1 h n => PyProof.Rows.not_of (wpAny_truthy_bool (k _ _ _ _ _ _ h n (.frz (.bool _)))))
  t := fun F e hc Φ ε Q E G p s h o k hx => ck_not hc fun x pos ha => isTrue_not (Ia.t F ha h o (fun b q G1 s1 h n => k _ _ _ _ h n) hx)
  es := fun F es pos hc => (noEs rfl hc).elim

theorem allTrue_one {M : Model} {A : Around} {op : BoolOp} {y : Expr} {env : Env} {Q : Bool → Shared → Prop} {E : Value → Shared → Prop} {s : Shared}
    (h : wpAny M A (isTrue y env (eval y env)) Q E s) : wpAny M A (allTrue op [y] env) Q E s :=
  wpAny_bind (wpAny_mono h (fun b s' hq => by cases op <;> cases b <;> exact wpAny_pure hq) fun _ _ x => x)
theorem rest_test {M : Model} {A : Around} {op : BoolOp} {y : Expr} {r : List Expr} {pos : Pos} {env : Env} {Q : Bool → Shared → Prop} {E : Value → Shared → Prop} {s : Shared}
    (h : wpAny M A (isTrue (if r.isEmpty then y else .BoolOp op (y :: r) pos) env (eval (if r.isEmpty then y else .BoolOp op (y :: r) pos) env)) Q E s) : wpAny M A (allTrue op (y :: r) env) Q E s := by
  cases r with
  | nil => exact allTrue_one h
  | cons z r => exact h
theorem rest_eval {M : Model} {A : Around} {op : BoolOp} {y : Expr} {r : List Expr} {pos : Pos} {env : Env} {Q : Value → Shared → Prop} {E : Value → Shared → Prop} {s : Shared}
    (h : wpAny M A (eval (if r.isEmpty then y else .BoolOp op (y :: r) pos) env) Q E s) : wpAny M A (boolOp pos op (evalEach (y :: r) env)) Q E s := by
  cases r with
  | nil => exact h
  | cons z r => exact h
theorem boolOp_step {M : Model} {A : Around} {op : BoolOp} {x y : Expr} {r : List Expr} {pos : Pos} {env : Env} {Q : Value → Shared → Prop} {E : Value → Shared → Prop} {s : Shared}
    (h : wpAny M A (eval x env) (fun v s' => ∃ b, v = .bool b ∧ (if b = (op == .Or) then Q v s' else wpAny M A (boolOp pos op (evalEach (y :: r) env)) Q E s')) E s) :
    wpAny M A (eval (.BoolOp op (x :: y :: r) pos) env) Q E s := by
  show wpAny M A (boolOp pos op (eval x env :: eval y env :: evalEach r env)) Q E s
  refine wpAny_bind (wpAny_mono h (fun v s' ⟨b, hv, hq⟩ => ?_) fun _ _ e => e)
  subst hv
  refine wpAny_bind (wpAny_standAt (wpAny_bind (wpAny_holding (wpAny_truthy_bool ?_))))
  cases op <;> cases b
  · exact wpAny_pure hq
  · exact hq
  · exact hq
  · exact wpAny_pure hq

theorem snd_and {a b : Ex} (Ia : Snd Z a) (Ib : Snd Z b) : Snd Z (.and a b) where
  ev := fun F e hc Φ ε Q E G p s h o k hx => ck_and hc fun x y r pos ha hb => boolOp_step (Ia.bv ha h o hx fun c q G1 s1 h n => ⟨c, rfl, by
    cases c with
    | false => exact k _ _ _ _ _ _ (h.2 rfl) n (.frz (.bool _))
    | true => exact rest_eval (Ib.bv hb (h.1 rfl) (o.next n) (hx.after n) fun d q G2 s2 h n2 => k _ _ _ _ _ _ h (n.trans n2) (.frz (.bool _)))⟩)
  t := fun F e hc Φ ε Q E G p s h o k hx => ck_and hc fun x y r pos ha hb => wpAny_bind (Ia.t F ha h o (fun c q G1 s1 h n => by
    cases c with
    | false => exact wpAny_pure (k _ _ _ _ (h.2 rfl) n)
    | true => exact rest_test (Ib.t F hb (h.1 rfl) (o.next n) (fun d q G2 s2 h n2 => k _ _ _ _ h (n.trans n2)) (hx.after n))) hx)
  es := fun F es pos hc => (noEs rfl hc).elim
theorem snd_or {a b : Ex} (Ia : Snd Z a) (Ib : Snd Z b) : Snd Z (.or a b) where
  ev := fun F e hc Φ ε Q E G p s h o k hx => ck_or hc fun x y r pos ha hb => boolOp_step (Ia.bv ha h o hx fun c q G1 s1 h n => ⟨c, rfl, by
    cases c with
    | true => exact k _ _ _ _ _ _ (h.1 rfl) n (.frz (.bool _))
    | false => exact rest_eval (Ib.bv hb (h.2 rfl) (o.next n) (hx.after n) fun d q G2 s2 h n2 => k _ _ _ _ _ _ h (n.trans n2) (.frz (.bool _)))⟩)
  t := fun F e hc Φ ε Q E G p s h o k hx => ck_or hc fun x y r pos ha hb => wpAny_bind (Ia.t F ha h o (fun c q G1 s1 h n => by
    cases c with
    | true => exact wpAny_pure (k _ _ _ _ (h.1 rfl) n)
    | false => exact rest_test (Ib.t F hb (h.2 rfl) (o.next n) (fun d q G2 s2 h n2 => k _ _ _ _ h (n.trans n2)) (hx.after n))) hx)
  es := fun F es pos hc => (noEs rfl hc).elim

theorem snd_ite {c a b : Ex} (Ic : Snd Z c) (Ia : Snd Z a) (Ib : Snd Z b) : Snd Z (.ite c a b) where
  ev := fun F e hc Φ ε Q E G p s h o k hx => ck_ite hc fun t x y pos hc ha hb => wpAny_IfExp (Ic.t F hc h o (fun t q G1 s1 h n => by
    have k' : F.Vl G1 s1 Φ Q := fun fl d q v G' s' h n2 hv => k fl d q v G' s' h (n.trans n2) hv
    cases t with
    | true => exact Ia.ev F ha (h.1 rfl) (o.next n) k' (hx.after n)
    | false => exact Ib.ev F hb (h.2 rfl) (o.next n) k' (hx.after n)) hx)
  t := fun F e hc Φ ε Q E G p s h o k hx => ck_ite hc fun t x y pos hc ha hb => wpAny_bind (Ic.t F hc h o (fun t q G1 s1 h n => by
    cases t with
    | true => exact Ia.t F ha (h.1 rfl) (o.next n) (fun d q G2 s2 h n2 => k _ _ _ _ h (n.trans n2)) (hx.after n)
    | false => exact Ib.t F hb (h.2 rfl) (o.next n) (fun d q G2 s2 h n2 => k _ _ _ _ h (n.trans n2)) (hx.after n)) hx)
  es := fun F es pos hc => (noEs rfl hc).elim

theorem star_cons {ns : Ns} {x : Ex} {e : Expr} (h : ckE ns x e = true) (r : List Expr) (env : Env) : starEach (e :: r) env = (false, eval e env) :: starEach r env := by
  cases e with
  | Starred v p => rw [ck_starred] at h; cases h
  | _ => rfl
theorem snd_nil : Snd Z .nil where
  ev := fun F e hc => Bool.noConfusion (show false = true from hc)
  t := fun F e hc => Bool.noConfusion (show false = true from hc)
  es := fun F es pos hc Φ ε Q E G p s h o k hx => by
    obtain rfl := cks_nil hc
    exact wpAny_pure (k _ _ _ _ _ h o.S.nxt .nil)
theorem snd_cons {x xs : Ex} (Ix : Snd Z x) (Is : Snd Z xs) : Snd Z (.cons x xs) where
  ev := fun F e hc => Bool.noConfusion (show false = true from hc)
  t := fun F e hc => Bool.noConfusion (show false = true from hc)
  es := fun F es pos hc Φ ε Q E G p s h o k hx => by
    obtain ⟨e, r, rfl, hx', hs⟩ := cks_cons hc
    rw [star_cons hx']
    exact Calls.spliced_cons (Ix.d hx' h o hx fun _ d q v G1 s1 h n hv => Is.es F (pos := pos) hs (Φ := fun l q => Φ (d :: l) q) h (o.next n) (fun l q vs G2 s2 h n2 hvs => k _ _ _ _ _ h (n.trans n2) (.cons (hv.mono n2.le) hvs)) (hx.after n))
end
end Mini
end
section -- P6
namespace Mini
open PySem PySem.W PyProof.Rows

theorem ints_of {P : Addr} {G : HMap} : ∀ {ns : List Int} {vs : List Value}, VReps P G vs (ns.map .int) → IntsAre vs ns
  | [], _, h => h.nilE .nil
  | i :: _, _, h => h.consE fun _ _ a b => VRep.intE a fun t => .cons i t (ints_of b)
noncomputable def BoolsAre (vs : List Value) (ns : List Bool) : Prop := vs = ns.map .bool
theorem bools_of {P : Addr} {G : HMap} : ∀ {ns : List Bool} {vs : List Value}, VReps P G vs (ns.map .bool) → BoolsAre vs ns
  | [], _, h => h
  | b :: _, _, h => h.consE fun _ _ a t => VRep.boolE a (congrArg (Value.bool b :: ·) (bools_of t))
theorem kb_canLayAll0 : ∀ ns : List Bool, PyData.canLayAll0 (ns.map PyData.bool) = true
  | [] => rfl
  | _ :: r => by simp [PyData.canLayAll0, PyData.canLay0, kb_canLayAll0 r]
theorem kb_depthAll : ∀ ns : List Bool, PyData.depthAll (ns.map PyData.bool) = 0
  | [] => rfl
  | _ :: r => by simp [PyData.depthAll, PyData.depth, kb_depthAll r]
theorem kb_shaped (ns : List Bool) : SeqAt.shaped (.list (ns.map PyData.bool)) = true := by
  simp [SeqAt.shaped, PyData.canLay0, PyData.depth, kb_canLayAll0, kb_depthAll]
theorem kb_sameAll : ∀ ns ms : List Bool, PySem.Spec.sameAll (ns.map PyData.bool) (ms.map PyData.bool) = decide (ns = ms)
  | [], [] => by simp [PySem.Spec.sameAll]
  | [], _ :: _ => by simp [PySem.Spec.sameAll]
  | _ :: _, [] => by simp [PySem.Spec.sameAll]
  | a :: r, b :: t => by
    simp only [List.map_cons, PySem.Spec.sameAll, PySem.Spec.same, kb_sameAll r t]
    cases a <;> cases b <;> by_cases h' : r = t <;> simp [h']
theorem kb_same (ns ms : List Bool) : PySem.Spec.same (.list (ns.map PyData.bool)) (.list (ms.map PyData.bool)) = decide (ns = ms) := by
  simp only [PySem.Spec.same]; exact kb_sameAll ns ms
theorem kb_carried {vs : List Value} : ∀ {ns : List Bool}, BoolsAre vs ns → CarriedAll vs (ns.map PyData.bool) := by
  intro ns h
  subst h
  induction ns with
  | nil => exact .nil
  | cons b r ih => exact .cons (.bool b) ih

section
variable {prog : Program} {w : World} {A : Around} {E : Value → Shared → Prop} {s : Shared} {a b : Addr} {Q : Value → Shared → Prop}
theorem eq_bools {xs ys : List Value} {ns ms : List Bool} (ha : s.heap.IsList a xs.toArray) (hb : s.heap.IsList b ys.toArray) (hi : BoolsAre xs ns) (hj : BoolsAre ys ms) (hu : A.units + 64 < cLine) (h : Q (.bool (decide (ns = ms))) s) :
    wpAny (model prog w) A (compareOp .Eq (.ref a) (.ref b)) Q E s :=
  eq_dataH_same (reads_newData ha (kb_carried hi)) (reads_newData hb (kb_carried hj)) (kb_shaped _) (kb_shaped _) hu (SeqAt.noMix_of_shape (.list .bool) rfl _ _ (list_map_has fun _ => rfl) (list_map_has fun _ => rfl)) (by rw [kb_same]; exact h)
theorem ne_bools {xs ys : List Value} {ns ms : List Bool} (ha : s.heap.IsList a xs.toArray) (hb : s.heap.IsList b ys.toArray) (hi : BoolsAre xs ns) (hj : BoolsAre ys ms) (hu : A.units + 64 < cLine) (h : Q (.bool (!decide (ns = ms))) s) :
    wpAny (model prog w) A (compareOp .NotEq (.ref a) (.ref b)) Q E s :=
  ne_dataH_same (reads_newData ha (kb_carried hi)) (reads_newData hb (kb_carried hj)) (kb_shaped _) (kb_shaped _) hu (SeqAt.noMix_of_shape (.list .bool) rfl _ _ (list_map_has fun _ => rfl) (list_map_has fun _ => rfl)) (by rw [kb_same]; exact h)
end

section
variable {Z : Zt} {A : Around} {E : Value → Shared → Prop} {G Hd : HMap} {p : Pool} {s : Shared} {Q : Value → Shared → Prop}
@[elab_as_elim] theorem VRep.isList {v : Value} {ds : List D} {m : Value → Prop} (h : VRep Z.P G v (.list ds)) (S : StOK Z.h₀ Z.P G Hd p s) (k : ∀ a items, s.heap.IsList a items → VReps Z.P G items.toList ds → m (.ref a)) : m v :=
  h.listE fun a items h r => h.rec fun o n h1 h2 h3 => k a items ⟨o, S.agrG _ _ h1, h2, n, h3⟩ r
theorem toList_arr (items : Array Value) : items.toList.toArray = items := rfl
theorem size_of {P : Addr} {items : Array Value} {ds : List D} (h : VReps P G items.toList ds) : items.size = ds.length := h.length
theorem mulOk {a b : Int} (h : a.natAbs < 2 ^ 63 ∨ b.natAbs < 2 ^ 63) : IntMulOk a b := by
  rcases h with h | h
  · exact IntMulOk.of_left (PyProof.Rows.intBits_le (Nat.lt_trans h (by decide)))
  · exact IntMulOk.of_right (PyProof.Rows.intBits_le (Nat.lt_trans h (by decide)))


/-- what an operation on values gives -/
noncomputable def OpQ (Z : Zt) (G Hd : HMap) (p : Pool) (s : Shared) (k : Bool → D → Prop) (Q : Value → Shared → Prop) : Prop := ∀ fl d v G' s', k fl d → Nxt Z.h₀ Z.P G Hd s G' p s' → VPost Z.h₀ Z.P G' Hd p s'.heap fl v d → Q v s'
theorem OpQ.tok {k : Bool → D → Prop} (q : OpQ Z G Hd p s k Q) (S : StOK Z.h₀ Z.P G Hd p s) {d : D} {v : Value} (hk : k false d) (h : VRep Z.P G v d) (t : Nat) : Q v { s with toks := t } := q _ _ _ _ _ hk (S.nxtT t) (.frz h)
theorem OpQ.keep {k : Bool → D → Prop} (q : OpQ Z G Hd p s k Q) (S : StOK Z.h₀ Z.P G Hd p s) {d : D} {v : Value} {h : Heap} {t : Nat} (hh : ∀ a o, s.heap.get? a = some o → h.get? a = some o) (hk : k false d) (hv : VRep Z.P G v d) : Q v { s with heap := h, toks := t } := q _ _ _ _ _ hk (S.nxtK hh) (.frz hv)
theorem OpQ.new {k : Bool → D → Prop} (q : OpQ Z G Hd p s k Q) (S : StOK Z.h₀ Z.P G Hd p s) {l : List D} {items : Array Value} (hk : k true (.list l)) (h : VReps Z.P G items.toList l) :
    Q (.ref s.heap.objs.size) { s with heap := s.heap.push { cls := .type "list", data := .seq items } } := q _ _ _ _ _ hk (S.newL h).1 (.own (S.newL h).2)

theorem add_two {v u : Value} {x y : List D} {k : Bool → D → Prop} (S : StOK Z.h₀ Z.P G Hd p s) (hv : VRep Z.P G v (.list x)) (hu : VRep Z.P G u (.list y)) (hl : x.length + y.length ≤ lim)
    (hk : k true (.list (x ++ y))) (q : OpQ Z G Hd p s k Q) : wpAny Z.M A (binaryOp .Add v u) Q E s := by
  refine VRep.isList hv S fun a xs h hx => VRep.isList hu S fun b ys h' hy => ?_
  obtain ⟨⟨cls, dd, data, sl⟩, ho, rfl, n, rfl⟩ := h
  obtain ⟨⟨cls2, dd2, data2, sl2⟩, ho2, rfl, n2, rfl⟩ := h'
  exact concat_meets ⟨_, ho, rfl⟩ ⟨_, ho2, rfl⟩ noFill_list_add seq_list_add PySem.F.slot_list_add PySem.F.entry_list_add (PySem.F.args_list_add_2 _ _)
    (list_addW a b xs ys n n2 dd dd2 sl sl2 (by rw [size_of hx, size_of hy]; exact Nat.le_trans hl (by decide))) ⟨ho, ho2, q.new S hk (by rw [Array.toList_append]; exact hx.append hy)⟩

theorem pow_bound {a b : Int} (h : 0 ≤ b ∧ b ≤ 100 ∧ a.natAbs < 2 ^ 64) : (Builtin.Int.intBits a : Int) * b ≤ 2 ^ 27 := by
  have h1 := PyProof.Rows.intBits_le h.2.2
  have h2 : (Builtin.Int.intBits a : Int) ≤ 64 := by exact_mod_cast h1
  exact Int.le_trans (Int.mul_le_mul h2 h.2.1 h.1 (by decide)) (by decide)
theorem prim_bin {o : Bop} {op : Operator} {v u : Value} {x y : D} {k : Bool → D → Prop} (h : binW o x y k) (hop : bopOf op = some o) (S : StOK Z.h₀ Z.P G Hd p s) (hv : VRep Z.P G v x) (hu : VRep Z.P G u y)
    (q : OpQ Z G Hd p s k Q) : wpAny Z.M A (binaryOp op v u) Q E s := by
  cases op <;> cases hop
  · cases x with
    | int a => exact VRep.intE hv fun t => asI.rep h hu fun b t' h => PySem.P.add_int (q.tok S h (.int _ _) _)
    | list a =>
      cases y with
      | list b => exact add_two S hv hu h.1 h.2 q
      | _ => exact h.elim
    | _ => exact h.elim
  · exact asI.rep h hv fun a t h => asI.rep h hu fun b t' h => PySem.P.sub_int (q.tok S h (.int _ _) _)
  · exact asI.rep h hv fun a t h => asI.rep h hu fun b t' h => PySem.P.mul_int (q.tok S h.2 (.int _ _) _) (mulOk h.1)
  · exact asI.rep h hv fun a t h => asI.rep h hu fun b t' h => PyProof.Rows.mod_int' (Int.ne_of_gt h.1) (by rw [Int.fmod_eq_emod_of_nonneg _ (Int.le_of_lt h.1)]; exact q.tok S h.2 (.int _ _) _)
  · exact asI.rep h hv fun a t h => asI.rep h hu fun b t' h => PyProof.Rows.pow_int h.1.1 (pow_bound h.1) (q.tok S h.2 (.int _ _) _)
  · exact asI.rep h hv fun a t h => asI.rep h hu fun b t' h => PyProof.Rows.lshift_int_small h.1.1 (Int.le_trans h.1.2.1 (by decide)) h.1.2.2 (q.tok S h.2 (.int _ _) _)
  · exact asI.rep h hv fun a t h => asI.rep h hu fun b t' h => PyProof.Rows.floordiv_int (hp := .inl (PyProof.noPylong_small (by omega))) (Int.ne_of_gt h.1.1) (by rw [Int.fdiv_eq_ediv_of_nonneg _ (Int.le_of_lt h.1.1)]; exact q.tok S h.2 (.int _ _) _)

theorem flatRep {items : Array Value} {x : Value} (h : items.toList = [x]) (n : Nat) : (List.foldl (fun x1 x2 => x1 ++ x2) #[] (List.replicate (if items.isEmpty = true then 0 else n) items)).toList = List.replicate n x := by
  have e : items = #[x] := by apply Array.toList_inj.mp; simpa using h
  subst e
  have key : ∀ (n : Nat) (acc : Array Value), (List.foldl (fun x1 x2 => x1 ++ x2) acc (List.replicate n #[x])).toList = acc.toList ++ List.replicate n x := by
    intro n
    induction n with
    | zero => intro acc; simp
    | succ n ih => intro acc; rw [List.replicate_succ, List.foldl_cons, ih]; simp [List.replicate_succ]
  have hz : (#[x] : Array Value).isEmpty = false := by simp
  rw [hz]; simpa using key n #[]

theorem rep_list {a : Addr} {x : Value} {d : D} {n : Int} {t : Tok} {k : Nat} {K : Bool → D → Prop} (S : StOK Z.h₀ Z.P G Hd p s) (ho : s.heap.get? a = some { cls := .type "list", dict := none, data := .seq #[x] k, slots := #[] })
    (hx : VRep Z.P G x d) (h0 : 0 ≤ n) (h1 : n ≤ 100000) (hk : K true (.list (List.replicate n.toNat d))) (q : OpQ Z G Hd p s K Q) : wpAny Z.M A (binaryOp .Mult (.ref a) (.int n t)) Q E s := by
  refine wpAny_binaryOp_repeat_ref (T := "list") (U := "int") (by decide) ⟨_, ho, rfl⟩ (fun s' => typeIs_int s' n t) noFill_list_mul F.fills_int_mul F.slot_int_rmul repeat_list F.slot_int_index.lookup
    (call_meets F.slot_int_rmul (typeIs_int s n t) F.entry_int_rmul (F.args_int_rmul_2 _ _) (int___rmul___int_list n t _ #[x] k)
      ⟨ho, rfl, ⟨_, ho, rfl⟩, call_meets F.slot_list_mul ⟨_, ho, rfl⟩ F.entry_list_mul (F.args_list_mul_2 _ _)
        (AutoListH.list___mul___list_int_3 _ #[x] k n t (by simp [Builtin.List.listFitsIndex]; omega) (by simp; omega) (by simp [Builtin.List.listTooLong, sizeLine]; omega)) ⟨ho, ?_⟩⟩)
  refine q.new S hk ?_
  rw [flatRep (x := x) rfl]
  exact VReps.replicate hx _
end
end Mini
end
section -- P7
namespace Mini
open PySem PySem.W PyProof.Rows
section
variable {Z : Zt} {A : Around} {E : Value → Shared → Prop} {G Hd : HMap} {p : Pool} {s : Shared} {Q : Value → Shared → Prop}
theorem cLine_big (h : A.units ≤ 1000) : A.units + 64 < cLine := Nat.lt_of_le_of_lt (Nat.add_le_add_right h 64) (by decide)

theorem beq_dec {α : Type} [DecidableEq α] (a b : α) : (a == b) = decide (a = b) := by
  by_cases h : a = b
  · rw [decide_eq_true h, beq_iff_eq]; exact h
  · rw [decide_eq_false h, beq_eq_false_iff_ne]; exact h
/-- two lists compared -/
theorem eq_lists {a b : List D} {k : Bool → Prop} {v u : Value} (h : eqLW a b k) (S : StOK Z.h₀ Z.P G Hd p s) (hu : A.units ≤ 1000) (hv : VRep Z.P G v (.list a)) (hw : VRep Z.P G u (.list b)) :
    ((∀ c, k c → Q (.bool c) s) → wpAny Z.M A (compareOp .Eq v u) Q E s) ∧ ((∀ c, k c → Q (.bool (!c)) s) → wpAny Z.M A (compareOp .NotEq v u) Q E s) := by
  refine VRep.isList hv S fun a' xs hl hx => VRep.isList hw S fun b' ys hl' hy => ?_
  rcases h with ⟨m, n, rfl, rfl, h⟩ | ⟨m, n, rfl, rfl, h⟩
  · exact ⟨fun q => ke_eq_ints hl hl' (ints_of hx) (ints_of hy) (cLine_big hu) (q _ h), fun q => ke_ne_ints hl hl' (ints_of hx) (ints_of hy) (cLine_big hu) (q _ h)⟩
  · exact ⟨fun q => eq_bools hl hl' (bools_of hx) (bools_of hy) (cLine_big hu) (q _ h), fun q => ne_bools hl hl' (bools_of hx) (bools_of hy) (cLine_big hu) (q _ h)⟩
@[elab_as_elim] theorem asB.rep {P : Addr} {G : HMap} {v : Value} {d : D} {m : Value → Prop} {K : Bool → Prop} (h : asB d K) (hv : VRep P G v d) (k : ∀ i, K i → m (.bool i)) : m v := by
  cases d with
  | bool i => exact VRep.boolE (m := m) hv (k i h)
  | _ => exact h.elim
theorem isNone_of {P : Addr} {G : HMap} {v : Value} {x : D} (h : VRep P G v x) : x.isNone = (v == .none) := by
  cases x with
  | int _ => exact VRep.intE h fun t => rfl
  | bool _ => exact VRep.boolE h rfl
  | none => exact VRep.noneE h rfl
  | str => obtain ⟨_, _, rfl⟩ := h; rfl
  | pool => exact VRep.poolE h rfl
  | list _ => exact VRep.listE h fun _ _ _ _ => rfl
  | tup _ => exact VRep.tupE h fun _ _ _ _ => rfl
@[elab_as_elim] theorem asN.rep {P : Addr} {G : HMap} {v : Value} {d : D} {m : Value → Prop} {K : Prop} (h : asN d K) (hv : VRep P G v d) (k : K → m .none) : m v := by
  cases d with
  | none => exact VRep.noneE (m := m) hv (k h)
  | _ => exact h.elim
theorem prim_eq {v u : Value} {x y : D} {k : Bool → Prop} (h : eqW x y k) (S : StOK Z.h₀ Z.P G Hd p s) (hu : A.units ≤ 1000) (hv : VRep Z.P G v x) (hw : VRep Z.P G u y) :
    ((∀ c, k c → Q (.bool c) s) → wpAny Z.M A (compareOp .Eq v u) Q E s) ∧ ((∀ c, k c → Q (.bool (!c)) s) → wpAny Z.M A (compareOp .NotEq v u) Q E s) := by
  cases x with
  | int a => exact VRep.intE hv fun t => asI.rep h hw fun b t' h => ⟨fun q => PySem.P.eq_int (beq_dec a b ▸ q _ h), fun q => PySem.P.ne_int (show Q (.bool (!(a == b))) s from beq_dec a b ▸ q _ h)⟩
  | bool a => exact VRep.boolE hv (asB.rep h hw fun b h => ⟨fun q => PyProof.Rows.eq_bool (q _ h), fun q => PyProof.Rows.ne_bool (q _ h)⟩)
  | list a =>
    cases y with
    | list b => exact eq_lists h S hu hv hw
    | _ => exact h.elim
  | _ => exact h.elim
theorem prim_cmp {o : Cop} {op : CmpOp} {v u : Value} {x y : D} {k : Bool → Prop} (h : cmpW o x y k) (hop : copOf op = some o) (S : StOK Z.h₀ Z.P G Hd p s) (hu : A.units ≤ 1000) (hv : VRep Z.P G v x) (hw : VRep Z.P G u y)
    (q : ∀ c, k c → Q (.bool c) s) : wpAny Z.M A (compareOp op v u) Q E s := by
  cases op <;> cases hop
  · exact (prim_eq h S hu hv hw).1 q
  · exact (prim_eq (show eqW x y fun b => k (!b) from h) S hu hv hw).2 fun c h => q _ h
  · exact asI.rep h hv fun a t h => asI.rep h hw fun b t' h => PySem.P.lt_int (q _ h)
  · exact asI.rep h hv fun a t h => asI.rep h hw fun b t' h => PySem.P.le_int (q _ h)
  · exact asI.rep h hv fun a t h => asI.rep h hw fun b t' h => PySem.P.gt_int (q _ h)
  · exact asI.rep h hv fun a t h => asI.rep h hw fun b t' h => PySem.P.ge_int (q _ h)
  · exact asN.rep h hw fun h => PyProof.Rows.is_none_gen (q _ (isNone_of hv ▸ h))
  · exact asN.rep h hw fun h => PyProof.Rows.isnot_none_gen (q _ (isNone_of hv ▸ h))

/-- an index into a row of values -/
@[elab_as_elim] theorem idxW.rep {P : Addr} {G : HMap} {v : Value} {l : List D} {d : D} {m : Value → Prop} {K : D → Prop} {items : Array Value} (h : idxW l d K) (hv : VRep P G v d) (hr : VReps P G items.toList l)
    (k : ∀ (i : Int) t d y, 0 ≤ i → i < 2 ^ 63 → i.toNat < l.length → items[i.toNat]? = some y → VRep P G y d → K d → m (.int i t)) : m v := by
  unfold idxW at h
  exact asI.rep h hv fun i t ⟨b, d, hd, hk⟩ => (hr.get hd).elim fun y a => k i t d y b.1 (Int.lt_trans b.2 (by decide)) (List.getElem?_eq_some_iff.mp hd).1 (Array.getElem?_toList.symm.trans a.1) a.2 hk
/-- an item of a list -/
theorem prim_item {a : Addr} {items : Array Value} {l : List D} {d : D} {v : Value} {K : D → Prop} {value slice : Expr} (h : idxW l d K) (hl : s.heap.IsList a items) (hr : VReps Z.P G items.toList l) (hk : VRep Z.P G v d)
    (hn : notSlice slice = true) (hnm : isName value = true) (q : ∀ v' d, K d → VRep Z.P G v' d → Q v' s) : wpAny Z.M A (subscriptTail value slice (.ref a) v) Q E s :=
  idxW.rep h hk hr fun i t d y h0 h1 _ hy hd hK => item_list hl h0 h1 hy (q _ _ hK hd) (by cases slice <;> first | rfl | cases hn) (by intro r; cases value <;> first | rfl | cases hnm)
end
end Mini
end
section -- P10
namespace Mini
open PySem PySem.W PyProof.Rows

section
variable {Z : Zt}
theorem Fm.units (F : Fm Z) : F.A.units ≤ 1000 := Nat.le_trans (Nat.le_add_right _ _) F.X.units
theorem snd_bin (o : Bop) {a b : Ex} (Ia : Snd Z a) (Ib : Snd Z b) : Snd Z (.bin o a b) := .plain rfl
  (fun F e hc Φ ε Q E G p s h o k hx => ck_bin hc fun l op r pos hop ha hb => wpAny_BinOp (Ia.d ha h o hx fun _ x q v G1 s1 h n hv => Ib.d hb h (o.next n) (hx.after n) fun _ y q u G2 s2 h n2 hu =>
    prim_bin h hop n2.st (hv.mono n2.le) hu fun fl d v G3 s3 h n3 hv => k _ _ _ _ _ _ h (n.trans (n2.trans n3)) hv)) fun hc env => ck_bin hc fun _ _ _ _ _ _ _ => rfl
theorem snd_cmp (o : Cop) {a b : Ex} (Ia : Snd Z a) (Ib : Snd Z b) : Snd Z (.cmp o a b) where
  ev := fun F e hc Φ ε Q E G p s h o k hx => ck_cmp hc fun l op r pos hop hm ha hb => wpAny_Compare1 (Ia.d ha h o hx fun _ x q v G1 s1 h n hv => Ib.d hb h (o.next n) (hx.after n) fun _ y q u G2 s2 h n2 hu =>
    prim_cmp h hop n2.st F.units (hv.mono n2.le) hu fun c h => k _ _ _ _ _ _ h (n.trans n2) (.frz (.bool _))) hm
  t := fun F e hc Φ ε Q E G p s h o k hx => ck_cmp hc fun l op r pos hop hm ha hb => wpAny_isTrue_Compare1 (Ia.d ha h o hx fun _ x q v G1 s1 h n hv => Ib.d hb h (o.next n) (hx.after n) fun _ y q u G2 s2 h n2 hu =>
    prim_cmp h hop n2.st F.units (hv.mono n2.le) hu fun c h => wpAny_truthy_bool (k _ _ _ _ h (n.trans n2))) hm
  es := fun F es pos hc => (noEs rfl hc).elim
theorem lastMarks2 {op op' : CmpOp} {r r' : Expr} (h : behindInMarks op' r' = false) : lastMarks [op, op'] [r, r'] = false := h
theorem snd_chain (o o' : Cop) {a b c : Ex} (Ia : Snd Z a) (Ib : Snd Z b) (Ic : Snd Z c) : Snd Z (.chain o o' a b c) where
  ev := fun F e hc Φ ε Q E G p s h o k hx => ck_chain hc fun l op op' r r' pos hop hop' hm ha hb hc => Compare_chain (Ia.d ha h o hx fun _ x q v G1 s1 h n hv => chain_link (Ib.d hb h (o.next n) (hx.after n) fun _ y q u G2 s2 h n2 hu =>
    prim_cmp h hop n2.st F.units (hv.mono n2.le) hu fun t h => wpAny_truthy_bool (by
      cases t with
      | false => exact k _ _ _ _ _ _ (h.2 rfl) (n.trans n2) (.frz (.bool _))
      | true => exact chain_last (Ic.d hc (h.1 rfl) ((o.next n).next n2) ((hx.after n).after n2) fun _ z q w G3 s3 h n3 hw =>
          prim_cmp h hop' n3.st F.units (hu.mono n3.le) hw fun c h => k _ _ _ _ _ _ h (n.trans (n2.trans n3)) (.frz (.bool _)))))) (lastMarks2 hm)
  t := fun F e hc Φ ε Q E G p s h o k hx => ck_chain hc fun l op op' r r' pos hop hop' hm ha hb hc => isTrue_chain (Ia.d ha h o hx fun _ x q v G1 s1 h n hv => test_link (Ib.d hb h (o.next n) (hx.after n) fun _ y q u G2 s2 h n2 hu =>
    prim_cmp h hop n2.st F.units (hv.mono n2.le) hu fun t h => wpAny_truthy_bool (by
      cases t with
      | false => exact k _ _ _ _ (h.2 rfl) (n.trans n2)
      | true => exact test_last (Ic.d hc (h.1 rfl) ((o.next n).next n2) ((hx.after n).after n2) fun _ z q w G3 s3 h n3 hw =>
          prim_cmp h hop' n3.st F.units (hu.mono n3.le) hw fun c h => wpAny_truthy_bool (k _ _ _ _ h (n.trans (n2.trans n3))))))) (lastMarks2 hm)
  es := fun F es pos hc => (noEs rfl hc).elim

theorem size_le {P : Addr} {G : HMap} {vs : List Value} {l : List D} (h : VReps P G vs l) (hl : l.length ≤ 1000) : vs.toArray.size ≤ sizeLine := by
  rw [List.size_toArray, h.length]; exact Nat.le_trans hl (by decide)
theorem snd_list {es : Ex} (I : Snd Z es) : Snd Z (.list es) := .plain rfl
  (fun F e hc Φ ε Q E G p s h o k hx => ck_list hc fun ls pos hs => PyProof.Rows.List_ (I.es F hs h o (fun l q vs G1 s1 h n hv =>
    wpAny_newObj_type (k _ _ _ _ _ _ h.2 (n.trans (n.st.newL (items := vs.toArray) hv).1) (.own (n.st.newL (items := vs.toArray) hv).2)) (size_le hv h.1)) hx)) fun hc env => ck_list hc fun _ _ _ => rfl
theorem snd_tup {es : Ex} (I : Snd Z es) : Snd Z (.tup es) := .plain rfl
  (fun F e hc Φ ε Q E G p s h o k hx => ck_tup hc fun ls kk pos hs => PyProof.Rows.Tuple_ (I.es F hs h o (fun l q vs G1 s1 h n hv =>
    (n.st.newT (items := vs.toArray) hv).elim fun G2 a => wpAny_newObj_type (k _ _ _ _ _ _ h.2 (n.trans a.1) (.frz a.2)) (size_le hv h.1)) hx)) fun hc env => ck_tup hc fun _ _ _ _ => rfl

theorem snd_rep {a b : Ex} (Ia : Snd Z a) (Ib : Snd Z b) : Snd Z (.rep a b) := .plain rfl
  (fun F e hc Φ ε Q E G p s h o k hx => ck_rep hc fun x p0 r pos ha hb => wpAny_BinOp (PyProof.Rows.List_ (by
    rw [star_cons ha]
    refine Calls.spliced_cons (Ia.d ha h o hx fun _ d q v G1 s1 h n hv => Calls.spliced_nil (wpAny_newObj_type ?_ (by show ([v].toArray).size ≤ sizeLine; exact Nat.le_of_ble_eq_true rfl)))
    obtain ⟨k1, k2⟩ := n.st.newL (items := [v].toArray) (l := [d]) (.one hv)
    have fz := k1.st.freeze (a := s1.heap.objs.size) k2.g k2.hd (Heap.get?_push_size _ rfl) k2.p
    have nn := n.trans (k1.trans fz)
    exact Ib.d hb h (o.next nn) (hx.after nn) fun _ y q u G2 s2 h n2 hu => asI.rep h hu fun i t h => rep_list (k := 0) n2.st (n2.st.agrG _ _ (n2.le _ _ addG_self)) (hv.mono ((k1.trans fz).le.trans n2.le)) h.1.1 h.1.2 h.2
      fun fl d v G3 s3 h n3 hv => k _ _ _ _ _ _ h (nn.trans (n2.trans n3)) hv))) fun hc env => ck_rep hc fun _ _ _ _ _ _ => rfl
end
end Mini
end
section -- P12
namespace Mini
open PySem PySem.W PyProof.Rows

/-- where a list lies and what it holds -/
inductive ListAt (P : Addr) (G : HMap) (s : Shared) (a : Addr) (l : List D) : Prop
  | mk (items : Array Value) : s.heap.IsList a items → VReps P G items.toList l → ListAt P G s a l

section
variable {Z : Zt} {A : Around} {E : Value → Shared → Prop} {G Hd : HMap} {p : Pool} {s : Shared} {Q : Value → Shared → Prop}
theorem InG.listAt {a : Addr} {items : Array Value} {l : List D} (h : InG G "list" a items) (S : StOK Z.h₀ Z.P G Hd p s) (r : VReps Z.P G items.toList l) : ListAt Z.P G s a l :=
  h.rec fun o n h1 h2 h3 => ⟨items, ⟨o, S.agrG _ _ h1, h2, n, h3⟩, r⟩
theorem OwnAt.listAt {a : Addr} {l : List D} (h : OwnAt Z.P G Hd a l) (S : StOK Z.h₀ Z.P G Hd p s) : ListAt Z.P G s a l :=
  h.rec fun o items k h1 h2 h3 h4 h5 => ⟨items, ⟨o, S.agrH.exact h1 (fun es n e => by rw [h4] at e; cases e), h2, k, h4⟩, h5⟩
/-- where a name's list lies, at a later state -/
structure BaseOf (Z : Zt) (G : HMap) (p : Pool) (s : Shared) (t : Slot) (a : Addr) : Prop where
  item : ∀ {k : D} {K : D → Prop}, itemW t p k K → ∃ l, ListAt Z.P G s a l ∧ idxW l k K
  len : ∀ {K : Nat → Prop}, lenW t K → ∃ l, ListAt Z.P G s a l ∧ K l.length
theorem StOK.poolAt {q : Int × Int} (S : StOK Z.h₀ Z.P G Hd (some q) s) : ListAt Z.P G s Z.P [.int q.1, .int q.2] := by
  obtain ⟨⟨o, t, u, n, h1, h2, h3⟩, _⟩ := S.pool q rfl
  exact ⟨_, ⟨o, h1, h2, n, h3⟩, .cons (.int _ _) (.cons (.int _ _) .nil)⟩
theorem base_frz {a : Addr} : ∀ {d : D}, VRep Z.P G (.ref a) d → StOK Z.h₀ Z.P G Hd p s → BaseOf Z G p s (.frz d) a
  | .list l, ⟨a', items, h, r, e⟩, S => by cases e; exact ⟨fun q => ⟨l, h.listAt S r, q⟩, fun q => ⟨l, h.listAt S r, q⟩⟩
  | .pool, e, S => by
    cases (show Value.ref a = .ref Z.P from e)
    cases p with
    | none => exact ⟨False.elim, False.elim⟩
    | some q => exact ⟨fun h => ⟨_, S.poolAt, h⟩, False.elim⟩
  | .int _, _, _ => ⟨False.elim, False.elim⟩
  | .bool _, _, _ => ⟨False.elim, False.elim⟩
  | .none, _, _ => ⟨False.elim, False.elim⟩
  | .str, _, _ => ⟨False.elim, False.elim⟩
  | .tup _, _, _ => ⟨False.elim, False.elim⟩
theorem base_own {a : Addr} {l : List D} (h : OwnAt Z.P G Hd a l) (S : StOK Z.h₀ Z.P G Hd p s) : BaseOf Z G p s (.own l) a := ⟨fun q => ⟨l, h.listAt S, q⟩, fun q => ⟨l, h.listAt S, q⟩⟩
/-- what a name's list or pool is bound to -/
theorem okD_ref {v : Value} : ∀ {d : D}, okD d = true → VRep Z.P G v d → ∃ a, v = .ref a
  | .list _, _, ⟨a, _, _, _, e⟩ => ⟨a, e⟩
  | .pool, _, e => ⟨_, e⟩
  | .int _, h, _ => Bool.noConfusion (show false = true from h)
  | .bool _, h, _ => Bool.noConfusion (show false = true from h)
  | .none, h, _ => Bool.noConfusion (show false = true from h)
  | .str, h, _ => Bool.noConfusion (show false = true from h)
  | .tup _, h, _ => Bool.noConfusion (show false = true from h)
/-- a name that may hold a list: its address, known later -/
theorem name_base {t : Slot} {env : Env} {n : Str} (hs : SlotOK Z G Hd env n t) (hok : okS t = true) (S : StOK Z.h₀ Z.P G Hd p s)
    (h : ∀ a, (∀ G' p' s', Le G G' → StOK Z.h₀ Z.P G' Hd p' s' → BaseOf Z G' p' s' t a) → Q (.ref a) s) : wpAny Z.M A (loadName env n) Q E s := by
  cases t with
  | un => exact Bool.noConfusion (show false = true from hok)
  | own l =>
    obtain ⟨a, ho, hr⟩ := hs
    exact hr _ _ _ _ S.agrH (h a fun G' p' s' l S' => base_own (ho.mono l) S')
  | frz d =>
    obtain ⟨v, hv, hr⟩ := hs
    obtain ⟨a, rfl⟩ := okD_ref hok hv
    exact hr _ _ _ _ S.agrH (h a fun G' p' s' l S' => base_frz (hv.mono l) S')
theorem ifT_of {b : Bool} {K : Prop} (h : ifT b K) : b = true ∧ K := by
  cases b with
  | true => exact ⟨rfl, h⟩
  | false => exact h.elim
end

section
variable {Z : Zt}
theorem snd_sub {a i : Ex} (Ia : Snd Z a) (Ii : Snd Z i) : Snd Z (.sub a i) := .plain rfl
  (fun F e hc Φ ε Q E G p s h o k hx => ck_sub hc fun v kk pos hsub hns ha hi => Subscript_ (Ia.d ha h o hx fun _ x q av G1 s1 h n hv => Ii.d hi h (o.next n) (hx.after n) fun _ y q u G2 s2 h n2 hu => by
    cases x with
    | tup ds =>
      refine VRep.tupE (hv.mono n2.le) fun a items g r => ?_
      obtain ⟨o', nn, g1, g2, g3⟩ := g
      refine idxW.rep h hu r fun j t d y h0 h1 hlt hy hd hK => ?_
      have hl : (j.toNat : Int) < (items.toList.length : Int) := by rw [r.length]; exact Int.ofNat_lt.mpr hlt
      refine item_tupleT (l := items.toList) (j := j.toNat) ⟨o', n2.st.agrG _ _ g1, g2, nn, g3⟩ (by omega) h1 ?_ (Array.getElem?_toList.trans hy) (k _ _ _ _ _ _ hK (n.trans n2) (.frz hd)) (by cases kk <;> first | rfl | cases hns)
      rw [Int.toNat_of_nonneg h0] at hl
      unfold seqIndex?
      rw [if_neg (Int.not_lt.mpr h0), if_pos (by rw [decide_eq_true h0, decide_eq_true hl]; rfl)]
    | _ => exact h.elim)) fun hc env => ck_sub hc fun _ _ _ _ _ _ _ => rfl
theorem snd_subv (x : Nat) {i : Ex} (Ii : Snd Z i) : Snd Z (.subv x i) := .plain rfl
  (fun F e hc Φ ε Q E G p s h o k hx => ck_subv hc fun v kk pos hns hxv hi => isV_eqK hxv fun n np hn hd => Subscript_ (wpAny_Name (name_base (o.V.vars x n hn) (ifT_of h).1 o.S fun a hb =>
    Ii.d hi (ifT_of h).2 o hx fun _ d q v G1 s1 h n1 hv => ((hb G1 q s1 n1.le n1.st).item h).elim fun l a => a.1.rec fun items hl hr => prim_item a.2 hl hr hv hns rfl fun v' d hK hd => k _ _ _ _ _ _ hK n1 (.frz hd)) hd)) fun hc env => ck_subv hc fun _ _ _ _ _ _ => rfl

theorem opt_val {x : Ex} {e : Option Expr} (I : Snd Z x) {F : Fm Z} (hc : ckO F.ns x e) {Φ : Bool → D → Pool → Prop} {ε : Pool → Prop} {Q : Value → Shared → Prop} {E : Value → Shared → Prop} {G : HMap} {p : Pool} {s : Shared} (h : Mini.ev Z.C x F.sl p Φ ε) (o : F.On G p s) (hx : F.Xc G s ε E)
    (k : ∀ fl d q v G' s', Φ fl d q → F.nx G s G' q s' → VRep Z.P G' v d → Q v s') : wpAny Z.M F.A (valueOrNone (evalOpt e F.env)) Q E s := by
  cases e with
  | none => cases hc; exact wpAny_pure (k _ _ _ _ _ _ h o.S.nxt .none)
  | some e => exact I.d hc h o hx k
theorem partW.rep {P : Addr} {G : HMap} {v : Value} {d : D} {K : Option Int → Prop} (h : partW d K) (hv : VRep P G v d) : ∃ x, IsPart v x ∧ K x := by
  cases d with
  | none => exact ⟨_, VRep.noneE hv .none, h⟩
  | int i => exact VRep.intE hv fun t => ⟨_, .int _ _, h⟩
  | _ => exact h.elim
theorem snd_slice {a lo hi st : Ex} (Ia : Snd Z a) (Il : Snd Z lo) (Ih : Snd Z hi) (Is : Snd Z st) : Snd Z (.slice a lo hi st) := .plain rfl
  (fun F e hc Φ ε Q E G p s h o k hx => ck_slice hc fun v el eu ek sp pos hnm ha hl hu hk => Subscript_ (Ia.d ha h o hx fun _ x q av G1 s1 h n1 hv1 => by
    show wpAny _ _ (do let l ← valueOrNone (evalOpt el F.env); let u ← holding [l] (valueOrNone (evalOpt eu F.env)); let s ← holding [l, u] (valueOrNone (evalOpt ek F.env)); newFields "slice" [l, u, s]) _ _ _
    refine wpAny_bind (opt_val Il hl h (o.next n1) (hx.after n1) fun _ y q lv G2 s2 h n2 hv2 => wpAny_bind (wpAny_holding (opt_val Ih hu h ((o.next n1).next n2) ((hx.after n1).after n2) fun _ z q uv G3 s3 h n3 hv3 => wpAny_bind (wpAny_holding
      (opt_val Is hk h (((o.next n1).next n2).next n3) (((hx.after n1).after n2).after n3) fun _ u q kv G4 s4 h n4 hv4 => ?_)))))
    have n34 := n3.trans n4
    have n24 := n2.trans n34
    cases x with
    | list ds =>
      obtain ⟨x, P1, h⟩ := partW.rep (K := fun x => partW z fun y => partW u fun z => (z ≠ some 0 ∧ ds.length ≤ lim) ∧ Φ true (.list (pickD ds x y z)) q) h (hv2.mono n34.le)
      obtain ⟨y, P2, h⟩ := partW.rep h (hv3.mono n4.le)
      obtain ⟨z, P3, h⟩ := partW.rep h hv4
      refine VRep.isList (hv1.mono n24.le) n4.st fun b items hlist hrs => ?_
      refine wpAny_newObj_type ?_ (by show ([lv, uv, kv].toArray).size ≤ sizeLine + 2; exact Nat.le_of_ble_eq_true rfl)
      have hT : ∀ r, letTemporaryGo v (.ref b) r = pure () := by intro r; cases v <;> first | rfl | cases hnm
      have k1 := n4.st.nxtH (h := s4.heap.push { cls := .type "slice", data := .fields #[lv, uv, kv] }) fun a o e => Heap.get?_push_of_some _ e
      have hpick : VReps Z.P G4 (slicePick items x y z).toList (pickD ds x y z) := by
        have e : (slicePick items x y z).toList = (sliceRange (sliceBounds x y z ds.length).1 (sliceBounds x y z ds.length).2.1 (sliceBounds x y z ds.length).2.2).filterMap (items.toList[·]?) := by
          simp [slicePick, size_of hrs]
        rw [e]
        exact hrs.filterMap _
      obtain ⟨k2, k3⟩ := k1.st.newL hpick
      have fin := wpAny_getItem_list_slice (prog := Z.prog) (w := Z.w) (A := F.A) (E := E) (s := { s4 with heap := s4.heap.push { cls := .type "slice", data := .fields #[lv, uv, kv] } }) (hlist.push _) (Heap.IsSliceOf.new ..) P1 P2 P3 h.1.1
        (k _ _ _ _ _ _ h.2 ((n1.trans n24).trans (k1.trans k2)) (.own k3)) (by rw [size_of hrs]; exact Nat.le_trans h.1.2 (by decide))
      cases ek with
      | none => exact subscriptTail_ops (ops := [.ref s4.heap.objs.size, .ref b]) (Heap.IsList.typeIs (s := { s4 with heap := s4.heap.push { cls := .type "slice", data := .fields #[lv, uv, kv] } }) (hlist.push _)) list_getitem_lookup fin rfl hT
      | some ek => exact subscriptTail_ops (ops := [.ref b, .ref s4.heap.objs.size]) (Heap.IsList.typeIs (s := { s4 with heap := s4.heap.push { cls := .type "slice", data := .fields #[lv, uv, kv] } }) (hlist.push _)) list_getitem_lookup fin rfl hT
    | _ => exact h.elim)) fun hc env => ck_slice hc fun _ _ _ _ _ _ _ _ _ _ _ => rfl
end
end Mini
end
section -- P13
namespace Mini
open PySem PySem.W PyProof.Rows

noncomputable def CallSound (Z : Zt) (fad : Nat → Addr) (f : Nat) : Prop :=
  ∀ {A : Around} {l : List Env} {G Hd : HMap} {p : Pool} {s : Shared} {vs : List Value} {ds : List D} {Φ : Bool → D → Pool → Prop} {ε : Pool → Prop} {R : Result → Shared → Prop}, Ctx Z.h₀ (rank f + 1) A l Hd → StOK Z.h₀ Z.P G Hd p s → VReps Z.P G vs ds → Z.C f ds p Φ ε →
    (∀ fl d q v G' s', Φ fl d q → Nxt Z.h₀ Z.P G Hd s G' q s' → VPost Z.h₀ Z.P G' Hd q s'.heap fl v d → R (.ok (.ret v)) s') → (∀ q e s', ε q → XOK Z.h₀ Z.P l G Hd s q e s' → R (.error e) s') →
    codeAny Z.M A (.call (.ref (fad f)) ⟨vs, []⟩) R s
noncomputable def FnsAt (h₀ : Heap) (fad : Nat → Addr) : Prop := ∀ f, f < 25 → ∃ o fd, h₀.get? (fad f) = some o ∧ o.data = .func fd

section
variable {Z : Zt} {fad : Nat → Addr}
theorem Ctx.lower {h₀ : Heap} {A : Around} {Hd : HMap} {lvl lvl' : Nat} {l : List Env} (X : Ctx h₀ lvl A l Hd) (h : lvl' ≤ lvl) : Ctx h₀ lvl' A l Hd :=
  { X with depth := Nat.le_trans (Nat.add_le_add_left h _) X.depth, units := Nat.le_trans (Nat.add_le_add_left (Nat.mul_le_mul_left 8 h) _) X.units }
theorem isG_name {ns : Ns} {n : Str} {e : Expr} (h : isG ns n e = true) : ∃ pos, e = .Name n pos ∧ ns.scope.names.lookup n = some .globalImplicit ∧ (n == ("__debug__" : Str)) = false := isG_eq h

section
variable {F : Fm Z} {G : HMap} {p : Pool} {s : Shared} {Q : Value → Shared → Prop} {E : Value → Shared → Prop} {e : Expr}
theorem glob_bi (GO : GlobOK Z.h₀ fad) {n : Str} (h : isG F.ns n e = true) (hb : n ∈ bnames) {v : Value} (hv : bootBuiltins n = some v) (o : F.On G p s) (hq : Q v s) : wpAny Z.M F.A (eval e F.env) Q E s := by
  refine isG_eqK h fun pos hk hd => ?_
  obtain ⟨mg, mb, hg, hbs, _, hbi⟩ := GO.ns
  refine Calls.Name_function_global (by rw [o.V.scope]; exact o.V.kind) (by unfold Env.kindOf; rw [o.V.scope]; exact hk) ?_ hd
  exact Calls.loadGlobal_builtin (mg := mg) (mb := mb) (by rw [o.V.glob]; exact hg.keeps o.S.base) (hbi n hb).1 (by rw [o.V.blt]; exact hbs.keeps o.S.base) ((hbi n hb).2.trans hv) hq
theorem glob_fn (GO : GlobOK Z.h₀ fad) {f : Nat} (hf : f < 25) (h : isG F.ns (fnames.getD f "") e = true) (o : F.On G p s) (hq : Q (.ref (fad f)) s) : wpAny Z.M F.A (eval e F.env) Q E s := by
  refine isG_eqK h fun pos hk hd => ?_
  obtain ⟨mg, mb, hg, hbs, hfn, _⟩ := GO.ns
  have h1 : fnames[f]? = some (fnames.getD f "") := by
    rw [List.getD_eq_getElem?_getD, List.getElem?_eq_getElem (show f < fnames.length from hf)]; rfl
  refine Calls.Name_function_global (by rw [o.V.scope]; exact o.V.kind) (by unfold Env.kindOf; rw [o.V.scope]; exact hk) ?_ hd
  exact Calls.loadGlobal_global (mg := mg) (by rw [o.V.glob]; exact hg.keeps o.S.base) (hfn f _ h1) hq
end

theorem es_lists {ns : Ns} {x : Ex} {es : List Expr} (h : ckEs ns x es = true) : (x = .nil ∧ es = []) ∨ ∃ y ys e r, x = .cons y ys ∧ es = e :: r ∧ ckE ns y e = true ∧ ckEs ns ys r = true := by
  cases x with
  | nil => exact .inl ⟨rfl, cks_nil h⟩
  | cons y ys => obtain ⟨e, r, q, a, b⟩ := cks_cons h; exact .inr ⟨y, ys, e, r, rfl, q, a, b⟩
  | _ => exact Bool.noConfusion (show false = true from h)
theorem backTo_plain {pos : Pos} {ns : Ns} {env : Env} {es : List Expr} : ∀ {x : Ex}, ckEs ns x es = true → (backTo pos (starEach es env)).any (·.1) = false := by
  induction es with
  | nil => intro x _; rfl
  | cons e r ih =>
    intro x h
    rcases es_lists h with ⟨_, q⟩ | ⟨y, ys, e', r', _, q, h1, h2⟩
    · cases q
    · cases q
      rw [star_cons h1]
      exact ih h2
/-- the arguments of a call -/
theorem evalArgs_of {M : Model} {ns : Ns} {x : Ex} {es : List Expr} {pos : Pos} {env : Env} {A : Around} {f : Value} {Q : Args → Shared → Prop} {E : Value → Shared → Prop} {s : Shared} (hc : ckEs ns x es = true) (hn : es ≠ [])
    (h : wpAny M A (spliced (backTo pos (starEach es env))) (fun vs s' => Q ⟨vs, []⟩ s') E s) : wpAny M A (evalArgs f true (backTo pos (starEach es env)) []) Q E s := by
  rcases es_lists hc with ⟨_, q⟩ | ⟨y, ys, e, r, _, rfl, h1, _⟩
  · exact absurd q hn
  · rw [star_cons h1] at h ⊢
    exact Calls.evalArgs_plain h
theorem eval_callG {ns : Ns} {n : Str} {g : Expr} {args : List Expr} {pos : Pos} {env : Env} (hg : isG ns n g = true) :
    eval (.Call g args [] pos) env = (do callWith pos (← eval g env) [] (backTo pos (starEach args env)) (backToKw pos (keywordEach [] env))) := isG_eqK hg fun _ _ _ => rfl

theorem snd_call (GO : GlobOK Z.h₀ fad) (FA : FnsAt Z.h₀ fad) (CS : ∀ f, f < 25 → CallSound Z fad f) (f : Nat) {es : Ex} (Is : Snd Z es) : Snd Z (.call f es) := .plain rfl
  (fun F e hc Φ ε Q E G p s h o k hx => ck_call hc fun g args pos hf hg hs hr hnil => PyProof.Rows.Call_ (glob_fn GO hf hg o (by
    obtain ⟨o', fd, ho, hd⟩ := FA f hf
    exact Calls.callWith_function (o := o') (fd := fd) (evalArgs_of hs hnil (Is.es F hs h o (fun l q vs G1 s1 h n hv => ⟨⟨n.st.base _ _ ho, hd⟩, wpAny_call (CS f hf (F.X.lower hr) n.st hv h
      (fun fl d q v G2 s2 h n2 hv => k _ _ _ _ _ _ h (n.trans n2) hv) (hx.after n))⟩) hx)))) (eval_callG hg)) fun hc env => ck_call hc fun _ _ _ _ hg _ _ _ => isG_eqK hg fun _ _ _ => rfl

theorem snd_isint (GO : GlobOK Z.h₀ fad) {a : Ex} (Ia : Snd Z a) : Snd Z (.isint a) := .plain rfl
  (fun F e hc Φ ε Q E G p s h o k hx => ck_isint hc fun g x t pos hg ht ha => PyProof.Rows.Call_ (glob_bi GO hg (by decide +kernel) (v := .builtin "isinstance") (by decide +kernel) o (by
    have hstar : starEach [x, t] F.env = [(false, eval x F.env), (false, eval t F.env)] := by
      refine isG_eqK ht fun tp _ _ => ?_
      rw [star_cons ha]; rfl
    rw [hstar]
    exact Calls.callWith_builtin rfl (Calls.evalArgs_plain (Calls.spliced_cons (Ia.d ha h o hx fun _ d q v G1 s1 h n hv => Calls.spliced_cons (glob_bi GO ht (by decide +kernel) (v := .type "int") (by decide +kernel) (o.next n) (Calls.spliced_nil
      (asI.rep h hv fun i t h => call_isinstance_yes (Tx := "int") (T := "int") (typeIs_int s1 i t) rfl (by rw [isSubtype_type]; kernel_rfl) (k _ _ _ _ _ _ h n (.frz (.bool _)))))))))) ) (eval_callG hg)) fun hc env => ck_isint hc fun _ _ _ _ hg _ _ => isG_eqK hg fun _ _ _ => rfl

theorem lenW_ok {t : Slot} {K : Nat → Prop} (h : lenW t K) : okS t = true := by
  cases t with
  | own l => rfl
  | un => exact h.elim
  | frz d =>
    cases d with
    | list l => rfl
    | _ => exact h.elim
theorem snd_lenv (GO : GlobOK Z.h₀ fad) (x : Nat) : Snd Z (.lenv x) := .plain rfl
  (fun F e hc Φ ε Q E G p s h o k hx => ck_lenv hc fun g v pos hg hv => isV_eqK hv fun n np hn hd => PyProof.Rows.Call_ (glob_bi GO hg (by decide +kernel) (v := .builtin "len") (by decide +kernel) o
    (Calls.callWith_builtin rfl (Calls.evalArgs_plain (Calls.spliced_cons (wpAny_Name (name_base (o.V.vars x n hn) (lenW_ok h) o.S fun a hb => Calls.spliced_nil
      (((hb G p s (.refl _) o.S).len h).elim fun l a => a.1.rec fun items hl hr => Calls.call_len_list hl (by rw [size_of hr]; have := a.2.1; have : lim = 100000 := rfl; omega) (by rw [size_of hr]; exact k _ _ _ _ _ _ a.2.2 (o.S.nxtT _) (.frz (.int _ _))))) hd))))) (eval_callG hg)) fun hc env => ck_lenv hc fun _ _ _ hg _ => isG_eqK hg fun _ _ _ => rfl
end
end Mini
end
section -- P14
namespace Mini
open PySem PySem.W PyProof.Rows

theorem allN {α : Type} {p : α → Prop} : ∀ b ∈ ([] : List α), p b := fun _ h => (List.not_mem_nil h).elim
theorem allC {α : Type} {p : α → Prop} {a : α} {l : List α} (ha : p a) (h : ∀ b ∈ l, p b) : ∀ b ∈ a :: l, p b := List.forall_mem_cons.mpr ⟨ha, h⟩

/-- a loop's target: one name, or a tuple -/
noncomputable def TgtOK (isT : Bool) (t : Expr) : Prop := (isT = false ∧ ∃ n p, t = .Name n p) ∨ (isT = true ∧ ∃ es k p, t = .Tuple es k p)
structure Apart (h₀ : Heap) (P : Addr) (G Hd : HMap) (p : Pool) (a : Addr) : Prop where
  g : G a = none
  hd : Hd a = none
  b : h₀.get? a = none
  p : p = none ∨ a ≠ P
noncomputable def WrOK (h₀ : Heap) (P : Addr) (wr : List Addr) (G Hd : HMap) (p : Pool) : Prop := ∀ b ∈ wr, Apart h₀ P G Hd p b
theorem Fresh.apart {h₀ : Heap} {P : Addr} {G Hd : HMap} {p : Pool} {s : Shared} {a : Addr} (f : Fresh h₀ P G Hd p s a) : Apart h₀ P G Hd p a := ⟨f.g, f.hd, f.b, f.p⟩
/-- an object there that is no frame -/
noncomputable def NotD (h : Heap) (b : Addr) : Prop := ∃ o, h.get? b = some o ∧ ∀ es n, o.data ≠ .dict es n
theorem notD_seq {h : Heap} {b : Addr} {items : Array Value} (x : h.IsList b items) : NotD h b := let ⟨o, ho, _, n, hd⟩ := x; ⟨o, ho, fun es n e => by rw [hd] at e; cases e⟩
theorem notD_fields {h : Heap} {b : Addr} {o : Obj} {vs : Array Value} (ho : h.get? b = some o) (hd : o.data = .fields vs) : NotD h b := ⟨o, ho, fun es n e => by rw [hd] at e; cases e⟩

structure Wk (prog : Program) (w : World) (h₀ : Heap) (P : Addr) (A : Around) (isT : Bool) (G₀ : HMap) (I : Addr) (fp wr : List Addr) (ds : List D) (St : Nat → Heap → Prop) : Prop where
  sub : ∀ b ∈ wr, b ∈ fp
  self : ∀ (i : Nat) (s : Shared) (Q : Value → Shared → Prop) (E : Value → Shared → Prop), St i s.heap → Q (.ref I) s → wpAny (model prog w) A (pyIter (.ref I)) Q E s
  frame : ∀ i h h', St i h → (∀ b ∈ fp, ∀ o, h.get? b = some o → h'.get? b = some o) → St i h'
  there : ∀ i h, St i h → ∀ b ∈ fp, NotD h b
  item : ∀ (i : Nat) (d : D), ds[i]? = some d → ∀ (s : Shared) (G Hd : HMap) (p : Pool) (t : Expr) (Q : Value → Shared → Prop) (E : Value → Shared → Prop), TgtOK isT t → Le G₀ G → StOK h₀ P G Hd p s → WrOK h₀ P wr G Hd p → St i s.heap →
    (∀ v G' s', Nxt h₀ P G Hd s G' p s' → WrOK h₀ P wr G' Hd p → VRep P G' v d → St (i + 1) s'.heap → Q v s') →
    wpAny (model prog w) A (pyNext (.ref I)) (fun r s1 => ∃ v, r = some v ∧ wpAny (model prog w) A (letOwnedTupleGo t (.ref I) v) (fun _ s2 => Q v s2) E s1) E s
  done : ∀ (s : Shared) (G Hd : HMap) (p : Pool) (Q : Option Value → Shared → Prop) (E : Value → Shared → Prop), StOK h₀ P G Hd p s → WrOK h₀ P wr G Hd p → St ds.length s.heap →
    (∀ s', Nxt h₀ P G Hd s G p s' → Q none s') → wpAny (model prog w) A (pyNext (.ref I)) Q E s

section
variable {prog : Program} {w : World} {h₀ : Heap} {P : Addr} {A : Around} {G Hd : HMap} {p : Pool} {s : Shared}

theorem StOK.keepsBut {wr : List Addr} {h : Heap} {t : Nat} (x : StOK h₀ P G Hd p s) (W : WrOK h₀ P wr G Hd p) (k : ∀ b o, b ∉ wr → s.heap.get? b = some o → h.get? b = some o) : StOK h₀ P G Hd p { s with heap := h, toks := t } where
  agrG := fun a o e => k a o (fun hm => by rw [(W a hm).g] at e; cases e) (x.agrG a o e)
  agrH := fun a o e => (x.agrH a o e).imp (k a o (fun hm => by rw [(W a hm).hd] at e; cases e)) fun ⟨q, sl, r⟩ => ⟨q, sl, k a _ (fun hm => by rw [(W a hm).hd] at e; cases e) r⟩
  sep := x.sep
  base := fun b o e => k b o (fun hm => by rw [(W b hm).b] at e; cases e) (x.base b o e)
  pool := fun q e => by
    obtain ⟨⟨o, t, u, n, h1, h2, h3⟩, r⟩ := x.pool q e
    refine ⟨⟨o, t, u, n, k P o (fun hm => ?_) h1, h2, h3⟩, r⟩
    rcases (W P hm).p with q' | q'
    · rw [q'] at e; cases e
    · exact q' rfl
theorem StOK.nxtBut {wr : List Addr} {h : Heap} {t : Nat} (x : StOK h₀ P G Hd p s) (W : WrOK h₀ P wr G Hd p) (k : ∀ b o, b ∉ wr → s.heap.get? b = some o → h.get? b = some o) : Nxt h₀ P G Hd s G p { s with heap := h, toks := t } := ⟨.refl _, x.keepsBut W k, .mk ..⟩

theorem letName {n : Str} {q : Pos} {it v : Value} {Q : Unit → Shared → Prop} {E : Value → Shared → Prop} (h : Q () s) : wpAny (model prog w) A (letOwnedTupleGo (.Name n q) it v) Q E s := wpAny_pure h


noncomputable def plainIter (c : String) : Bool := (["enumerate", "zip", "dict_itemiterator", "dict_reverseitemiterator", "odict_iterator", "itertools.zip_longest", "itertools.pairwise"] : List String).contains c
/-- an iterator whose class hands out no tuple of its own -/
noncomputable def PlainAt (h : Heap) (it : Addr) : Prop := ∃ c dd vs sl, h.get? it = some ⟨.type c, dd, .fields vs, sl⟩ ∧ plainIter c = false
theorem letPlain {t : Expr} {it : Addr} {v : Value} {Q : Unit → Shared → Prop} {E : Value → Shared → Prop} (h0 : PlainAt s.heap it) (h : Q () s) :
    wpAny (model prog w) A (letOwnedTupleGo t (.ref it) v) Q E s := by
  obtain ⟨c, dd, vs, sl, ho, hn⟩ := h0
  unfold plainIter at hn
  unfold letOwnedTupleGo
  split
  · split
    · rename_i e; cases e
      refine wpAny_bind (wpAny_load ho ?_)
      simp only [hn, Bool.false_and, Bool.false_eq_true, if_false]; exact wpAny_pure h
    · exact wpAny_pure h
  · split
    · rename_i e; cases e
      refine wpAny_bind (wpAny_load ho ?_)
      simp only [hn, Bool.false_and, Bool.false_eq_true, if_false]; exact wpAny_pure h
    · exact wpAny_pure h
  · exact wpAny_pure h

/-- from the library's walks -/
theorem Wk.ofW {I : Addr} {fp wr : List Addr} {n : Nat} {Pt : Nat → Value → Prop} {St : Nat → Heap → Prop} (isT : Bool) (W : Walks prog w A I fp wr n Pt St) {ds : List D} (hlen : ds.length = n)
    (hP : ∀ i d v, ds[i]? = some d → Pt i v → VRep P G v d) (pl : ∀ i h, St i h → PlainAt h I) (there : ∀ i h, St i h → ∀ b ∈ fp, NotD h b) : Wk prog w h₀ P A isT G I fp wr ds St where
  sub := W.sub
  self := W.self
  frame := W.frame
  there := there
  item := fun i d hd s G' Hd p t Q E ht hle S WR st hq => W.item i s _ _ (hlen ▸ (List.getElem?_eq_some_iff.mp hd).1) st fun v h' tk hv st' k =>
    ⟨v, rfl, letPlain (s := { s with heap := h', toks := tk }) (pl _ _ st') (hq v G' _ (S.nxtBut WR k) WR ((hP i d v hd hv).mono hle) st')⟩
  done := fun s G' Hd p Q E S WR st hq => W.done s _ _ (hlen ▸ st) fun h' tk k => hq _ (S.nxtBut WR k)

theorem plain_fields {h : Heap} {it : Addr} {o : Obj} {c : String} {vs : Array Value} (ho : h.get? it = some o) (hc : o.cls = .type c) (hd : o.data = .fields vs) (hn : plainIter c = false) : PlainAt h it := by
  obtain ⟨cl, dd, dt, sl⟩ := o
  simp only at hc hd
  subst hc hd
  exact ⟨c, dd, vs, sl, ho, hn⟩
/-- a list that is walked -/
theorem Wk.list (hA : A.handled = none) (isT : Bool) {I a : Addr} {items : Array Value} {ds : List D} (hne : a ≠ I) (hr : VReps P G items.toList ds) :
    Wk prog w h₀ P A isT G I [I, a] [I] ds (fun i h => h.IsListIter I a i ∧ h.IsList a items) :=
  Wk.ofW isT (Walks.list hA I a hne items) (size_of hr).symm (fun i d v hd hv => (hr.get' (by simpa using hv)).elim fun x q => by rw [hd] at q; cases q.1; exact q.2)
    (fun i h st => let ⟨o, ho, hc, hd⟩ := st.1; plain_fields ho hc hd (by decide)) fun i h st => allC (let ⟨o, ho, hc, hd⟩ := st.1; notD_fields ho hd) (allC (notD_seq st.2) allN)
theorem Wk.rev (hA : A.handled = none) (isT : Bool) {I a : Addr} {items : Array Value} {ds : List D} (hne : a ≠ I) (hr : VReps P G items.toList ds) :
    Wk prog w h₀ P A isT G I [I, a] [I] ds.reverse (fun i h => i ≤ items.size ∧ h.IsRevIter I a ((items.size : Int) - 1 - (i : Int)) ∧ h.IsList a items) :=
  Wk.ofW isT (Walks.listRev hA I a hne items) (by rw [List.length_reverse, size_of hr]) (fun i d v hd hv => by
      have hlt := (List.getElem?_eq_some_iff.mp hd).1
      rw [List.length_reverse] at hlt
      rw [List.getElem?_reverse hlt, ← size_of hr] at hd
      obtain ⟨x, hx, q⟩ := hr.get' (k := items.size - 1 - i) (by simpa using hv)
      rw [hd] at hx; cases hx; exact q)
    (fun i h st => let ⟨o, ho, hc, hd⟩ := st.2.1; plain_fields ho hc hd (by decide)) fun i h st => allC (let ⟨o, ho, hc, hd⟩ := st.2.1; notD_fields ho hd) (allC (notD_seq st.2.2) allN)
theorem Wk.range (hA : A.handled = none) (isT : Bool) {I : Addr} (a c : Int) (n : Nat) :
    Wk prog w h₀ P A isT G I [I] [I] ((List.range n).map fun (k : Nat) => D.int (a + c * (k : Int))) (fun i h => IsRangeIter h I (a + (i : Nat) * c) ((n : Int) - (i : Nat)) c) :=
  Wk.ofW isT (Walks.range hA I a c n) (by rw [List.length_map, List.length_range]) (fun i d v hd ⟨u, hv⟩ => by
      have hlt := (List.getElem?_eq_some_iff.mp hd).1
      rw [List.length_map, List.length_range] at hlt
      rw [List.getElem?_map, List.getElem?_range hlt] at hd
      cases hd; subst hv
      rw [Int.mul_comm (i : Int) c]; exact .int _ _)
    (fun i h st => plain_fields (c := "range_iterator") st rfl rfl (by decide)) fun i h st => allC (notD_fields st rfl) allN

theorem Wk.ofT {I : Addr} {fp wr : List Addr} {n : Nat} {Pt : Nat → Array Value → Prop} {St : Nat → Heap → Prop} {Mid : Nat → Addr → Heap → Prop} (W : WalksT prog w A I fp wr n Pt St Mid) {ds : List D} (hlen : ds.length = n)
    (hP : ∀ i d vals, ds[i]? = some d → Pt i vals → ∃ l, d = .tup l ∧ VReps P G vals.toList l) (there : ∀ i h, St i h → ∀ b ∈ fp, NotD h b) : Wk prog w h₀ P A true G I fp wr ds St where
  sub := W.sub
  self := W.self
  frame := W.frame
  there := there
  item := by
    intro i d hd s G' Hd p t Q E ht hle S WR st hq
    rcases ht with ⟨h, _⟩ | ⟨_, es, kk, pos, rfl⟩
    · cases h
    have hlt : i < n := by rw [← hlen]; exact (List.getElem?_eq_some_iff.mp hd).1
    refine W.item i s _ _ hlt st ?_
    intro T vals h' tk hPt hTs hT hM k
    refine ⟨_, rfl, ?_⟩
    refine W.go es kk pos i T { s with heap := h', toks := tk } _ _ hM ?_
    intro h'' st' k'
    obtain ⟨l, rfl, hreps⟩ := hP i d vals hd hPt
    have n1 := S.nxtBut (t := tk) WR k
    have n2 := n1.st.nxtBut (h := h'') (t := tk) WR k'
    obtain ⟨o, ho, hc, m, hdd⟩ := hT
    have ho2 : h''.get? T = some o := k' T o (W.apart i T h' hM) ho
    have fr := S.fresh hTs
    have n3 := n2.st.freeze (a := T) (o := o) fr.g fr.hd ho2 fr.p
    refine hq _ _ _ (n1.trans (n2.trans n3)) (fun b hb => ?_) (.tup ⟨_, m, addG_self, hc, hdd⟩ (hreps.mono (hle.trans n3.le))) st'
    exact { WR b hb with g := (if_neg fun e : b = T => W.apart i _ h' hM (e ▸ hb)).trans (WR b hb).g }
  done := by
    intro s G' Hd p Q E S WR st hq
    rw [hlen] at st
    refine W.done s _ _ st ?_
    intro h' tk k
    exact hq _ (S.nxtBut WR k)


theorem enumL_get : ∀ (ds : List D) (k i : Nat) (d : D), (enumL k ds)[i]? = some d → ∃ x, ds[i]? = some x ∧ d = .tup [.int ((k + i : Nat) : Int), x]
  | [], _, _, _, h => by cases h
  | y :: _, _, 0, _, h => ⟨y, rfl, by cases h; rfl⟩
  | _ :: r, k, i + 1, d, h => by
    obtain ⟨x, hx, hd⟩ := enumL_get r (k + 1) i d h
    exact ⟨x, hx, by rw [hd, Nat.add_right_comm k 1 i, Nat.add_assoc]⟩
theorem enumL_len : ∀ (ds : List D) (k : Nat), (enumL k ds).length = ds.length
  | [], _ => rfl
  | _ :: r, k => congrArg (· + 1) (enumL_len r (k + 1))
theorem zipL_get : ∀ (as bs : List D) (i : Nat) (d : D), (zipL as bs)[i]? = some d → ∃ x y, as[i]? = some x ∧ bs[i]? = some y ∧ d = .tup [x, y]
  | [], _, _, _, h => by cases h
  | _ :: _, [], _, _, h => by cases h
  | a :: _, b :: _, 0, _, h => ⟨a, b, rfl, rfl, by cases h; rfl⟩
  | _ :: r, _ :: t, i + 1, d, h => zipL_get r t i d h
theorem zipL_len : ∀ (as bs : List D), (zipL as bs).length = min as.length bs.length
  | [], bs => (Nat.zero_min _).symm
  | _ :: _, [] => rfl
  | _ :: r, _ :: t => (congrArg (· + 1) (zipL_len r t)).trans (Nat.succ_min_succ _ _).symm

theorem Wk.enumerate (hA : A.handled = none) {e it l : Addr} (hei : e ≠ it) (hle : l ≠ e) (hli : l ≠ it) {items : Array Value} {ds : List D} (hr : VReps P G items.toList ds) :
    Wk prog w h₀ P A true G e [e, it, l] [e, it] (enumL 0 ds) (fun i h => (∃ old, IsEnum h e it i old) ∧ h.IsListIter it l i ∧ h.IsList l items) :=
  Wk.ofT (WalksT.enumerate hA e it l hei hle hli items) (by rw [enumL_len, size_of hr]) (fun i d vals hd ⟨t, x, hx, hv⟩ => by
      obtain ⟨y, hy, rfl⟩ := enumL_get ds 0 i d hd
      subst hv
      obtain ⟨z, hz, hrep⟩ := hr.get' (k := i) (y := x) (by simpa using hx)
      rw [hy] at hz; cases hz
      exact ⟨_, rfl, .cons (by rw [Nat.zero_add]; exact .int _ _) (.cons hrep .nil)⟩)
    fun i h st => allC (let ⟨old, he⟩ := st.1; notD_fields he rfl) (allC (let ⟨o, ho, hc, hd⟩ := st.2.1; notD_fields ho hd) (allC (notD_seq st.2.2) allN))
theorem Wk.zip (hA : A.handled = none) {z TI TO i1 i2 l1 l2 : Addr} (D : ZipApart z TI TO i1 i2 l1 l2) {xs ys : Array Value} {as bs : List Mini.D} (hr : VReps P G xs.toList as) (hr2 : VReps P G ys.toList bs) :
    Wk prog w h₀ P A true G z [z, TI, TO, i1, i2, l1, l2] [z, TO, i1, i2] (zipL as bs)
      (fun i h => IsZip h z TI TO .none ∧ IsPair h TI (.ref i1) (.ref i2) ∧ (∃ a b, IsPair h TO a b) ∧ h.IsListIter i1 l1 i ∧ h.IsListIter i2 l2 i ∧ h.IsList l1 xs ∧ h.IsList l2 ys) :=
  Wk.ofT (WalksT.zip2 hA z TI TO i1 i2 l1 l2 D xs ys) (by rw [zipL_len, size_of hr, size_of hr2]) (fun i d vals hd ⟨x, y, hx, hy, hv⟩ => by
      obtain ⟨x', y', h1, h2, rfl⟩ := zipL_get as bs i d hd
      subst hv
      obtain ⟨z1, hz1, hrep1⟩ := hr.get' (k := i) (y := x) (by simpa using hx)
      obtain ⟨z2, hz2, hrep2⟩ := hr2.get' (k := i) (y := y) (by simpa using hy)
      rw [h1] at hz1; cases hz1
      rw [h2] at hz2; cases hz2
      exact ⟨_, rfl, .cons hrep1 (.cons hrep2 .nil)⟩)
    fun i h st => allC (notD_fields st.1 rfl) (allC (notD_any st.2.1) (allC (let ⟨_, _, q⟩ := st.2.2.1; notD_any q) (allC (let ⟨o, ho, hc, hd⟩ := st.2.2.2.1; notD_fields ho hd) (allC (let ⟨o, ho, hc, hd⟩ := st.2.2.2.2.1; notD_fields ho hd) (allC (notD_seq st.2.2.2.2.2.1) (allC (notD_seq st.2.2.2.2.2.2) allN))))))
where
  notD_any {h : Heap} {b : Addr} {u v : Value} (x : IsPair h b u v) : NotD h b := ⟨_, x, fun es n e => by cases e⟩
end
end Mini
end
section -- P15
namespace Mini
open PySem PySem.W PyProof.Rows

theorem range_small {a b c : Int} (h : c ≠ 0 ∧ a.natAbs ≤ lim ∧ b.natAbs ≤ lim ∧ c.natAbs ≤ lim) : Builtin.Range.small a b c = true := by
  have hl : lim = 100000 := rfl
  have hle : Builtin.Range.rangeSize a b c ≤ 200000 ∧ 0 ≤ Builtin.Range.rangeSize a b c := by
    unfold Builtin.Range.rangeSize
    split
    · split
      · rename_i h1 h2
        have q1 := Int.ediv_nonneg (a := b - a - 1) (b := c) (by omega) (by omega)
        have q2 := Int.ediv_le_self (b := c) (a := b - a - 1) (by omega)
        omega
      · omega
    · split
      · rename_i h1 h2
        have q1 := Int.ediv_nonneg (a := a - b - 1) (b := -c) (by omega) (by omega)
        have q2 := Int.ediv_le_self (b := -c) (a := a - b - 1) (by omega)
        omega
      · omega
  unfold Builtin.Range.small Builtin.Range.rangeFitsLong
  simp only [Bool.and_eq_true, Bool.or_eq_true, decide_eq_true_eq, beq_iff_eq]
  refine ⟨⟨⟨⟨by omega, by omega⟩, by omega⟩, by omega⟩, .inr ?_⟩
  split <;> simp only [Bool.and_eq_true, decide_eq_true_eq] <;> omega
theorem rangeSize_nonneg (a b c : Int) : 0 ≤ Builtin.Range.rangeSize a b c := by
  unfold Builtin.Range.rangeSize
  split
  · split
    · rename_i h1 h2
      have := Int.ediv_nonneg (a := b - a - 1) (b := c) (by omega) (by omega)
      omega
    · omega
  · split
    · rename_i h1 h2
      by_cases h0 : c = 0
      · subst h0; simp
      · have := Int.ediv_nonneg (a := a - b - 1) (b := -c) (by omega) (by omega)
        omega
    · omega


/-- where a loop's items come from -/
inductive Walked (Z : Zt) (A : Around) (isT : Bool) (G Hd : HMap) (p : Pool) (s : Shared) (ds : List D) : Value → Prop
  | mk {I : Addr} {fp wr : List Addr} {St : Nat → Heap → Prop} : Wk Z.prog Z.w Z.h₀ Z.P A isT G I fp wr ds St → St 0 s.heap → WrOK Z.h₀ Z.P wr G Hd p → (∀ b ∈ fp, Hd b = none ∧ (p = none ∨ b ≠ Z.P)) → Walked Z A isT G Hd p s ds (.ref I)
/-- what the iterable of a loop gives -/
noncomputable def ISnd (Z : Zt) (x : Ex) : Prop :=
  ∀ (F : Fm Z) {e : Expr} {isT : Bool}, ckI F.ns x e = true → okT x isT = true → ∀ {Φ : List D → Pool → Prop} {ε : Pool → Prop} {Q : Value → Shared → Prop} {E : Value → Shared → Prop} {G : HMap} {p : Pool} {s : Shared},
    Mini.ev Z.C x F.sl p (fun _ d q => asL d fun l => Φ l q) ε → F.On G p s → (∀ l q it G' s', Φ l q → F.nx G s G' q s' → Walked Z F.A isT G' F.Hd q s' l it → Q it s') → F.Xc G s ε E →
    wpAny Z.M F.A (eval e F.env) (fun v s' => wpAny Z.M F.A (pyIter v) Q E s') E s

section
variable {Z : Zt} {fad : Nat → Addr} {A : Around} {G Hd : HMap} {p : Pool} {s : Shared}
theorem StOK.noP {a : Addr} {o : Obj} (S : StOK Z.h₀ Z.P G Hd p s) (h : G a = some o) : Hd a = none ∧ (p = none ∨ a ≠ Z.P) := by
  refine ⟨S.sep a o h, ?_⟩
  cases hp : p with
  | none => exact .inl rfl
  | some q => exact .inr fun e => by have := (S.pool q hp).2.1; rw [← e, h] at this; cases this
theorem Fresh.fp {a : Addr} (f : Fresh Z.h₀ Z.P G Hd p s a) : Hd a = none ∧ (p = none ∨ a ≠ Z.P) := ⟨f.hd, f.p⟩
/-- a list of the map: where it lies now -/
theorem InG.at {a : Addr} {items : Array Value} (h : InG G "list" a items) (S : StOK Z.h₀ Z.P G Hd p s) : s.heap.IsList a items ∧ Hd a = none ∧ (p = none ∨ a ≠ Z.P) ∧ a < s.heap.objs.size :=
  h.rec fun o n h1 h2 h3 => ⟨⟨o, S.agrG _ _ h1, h2, n, h3⟩, (S.noP h1).1, (S.noP h1).2, Heap.lt_size (S.agrG _ _ h1)⟩
theorem IsList.keep {h h' : Heap} {a : Addr} {items : Array Value} (x : h.IsList a items) (k : ∀ b o, h.get? b = some o → h'.get? b = some o) : h'.IsList a items := let ⟨o, ho, r⟩ := x; ⟨o, k _ _ ho, r⟩

theorem iter_list {isT : Bool} {v : Value} {ds : List D} {Q : Value → Shared → Prop} {E : Value → Shared → Prop} (hA : A.handled = none) (S : StOK Z.h₀ Z.P G Hd p s) (hv : VRep Z.P G v (.list ds))
    (h : ∀ it s', Nxt Z.h₀ Z.P G Hd s G p s' → Walked Z A isT G Hd p s' ds it → Q it s') : wpAny Z.M A (pyIter v) Q E s :=
  hv.listE fun a items g hr => by
    obtain ⟨hl, f1, f2, lt⟩ := g.at S
    have f := S.fresh (Nat.le_refl _)
    exact wpAny_pyIter_list hl (h _ _ (S.nxtH fun a o e => Heap.get?_push_of_some _ e) ⟨Wk.list hA isT (Nat.ne_of_lt lt) hr, ⟨⟨_, Heap.get?_push_size _ rfl, rfl, rfl⟩, hl.push _⟩, allC f.apart allN, allC f.fp (allC ⟨f1, f2⟩ allN)⟩)
@[elab_as_elim] theorem asL.rep {v : Value} {d : D} {m : Value → Prop} {K : List D → Prop} (h : asL d K) (hv : VRep Z.P G v d) (k : ∀ a items ds, InG G "list" a items → VReps Z.P G items.toList ds → K ds → m (.ref a)) : m v := by
  cases d with
  | list ds => exact VRep.listE (m := m) hv fun a items g r => k a items ds g r h
  | _ => exact h.elim
theorem isnd_of {x : Ex} (I : Snd Z x) (hi : ∀ ns e, ckI ns x e = ckE ns x e) : ISnd Z x := fun F e isT hc hT Φ ε Q E G p s h o k hx =>
  I.d (hi _ _ ▸ hc) h o hx fun _ d q v G1 s1 h n hv => by
    cases d with
    | list ds => exact iter_list F.X.handled n.st hv fun it s' n2 hw => k _ _ _ _ _ h (n.trans n2) hw
    | _ => exact h.elim

theorem isnd_enum (GO : GlobOK Z.h₀ fad) {x : Ex} (I : Snd Z x) : ISnd Z (.enum x) := fun F e isT hc hT Φ ε Q E G p s h o k hx => by
  obtain rfl : isT = true := hT
  refine ckI_enum hc fun g a pos hg ha => PyProof.Rows.Call_ (glob_bi GO hg (by decide +kernel) (v := .type "enumerate") (by decide +kernel) o ?_) (eval_callG hg)
  rw [star_cons ha]
  refine PySem.callWith_type rfl (Calls.evalArgs_plain (Calls.spliced_cons (I.d ha h o hx fun _ d q v G1 s1 h n hv => asL.rep h hv fun a' items ds g hrs h => ?_)))
  obtain ⟨hl, f1, f2, lt⟩ := g.at n.st
  refine Calls.spliced_nil (call_enumerate_list hl fun h' hE hI hsz hk => ?_)
  have fa := n.st.fresh (Nat.le_refl _)
  have fb := n.st.fresh (Nat.le_succ _)
  exact wpAny_pyIter_enum hE (k _ _ _ _ _ h.2 (n.trans (n.st.nxtH hk)) ⟨Wk.enumerate F.X.handled (e := s1.heap.objs.size + 1) (it := s1.heap.objs.size) (l := a') (Nat.succ_ne_self _) (Nat.ne_of_lt (Nat.lt_succ_of_lt lt)) (Nat.ne_of_lt lt) hrs,
    ⟨⟨_, hE⟩, hI, IsList.keep hl hk⟩, allC fb.apart (allC fa.apart allN), allC fb.fp (allC fa.fp (allC ⟨f1, f2⟩ allN))⟩)
theorem isnd_rev (GO : GlobOK Z.h₀ fad) {x : Ex} (I : Snd Z x) : ISnd Z (.rev x) := fun F e isT hc hT Φ ε Q E G p s h o k hx => by
  refine ckI_rev hc fun g a pos hg ha => PyProof.Rows.Call_ (glob_bi GO hg (by decide +kernel) (v := .type "reversed") (by decide +kernel) o ?_) (eval_callG hg)
  rw [star_cons ha]
  refine PySem.callWith_type rfl (Calls.evalArgs_plain (Calls.spliced_cons (I.d ha h o hx fun _ d q v G1 s1 h n hv => asL.rep h hv fun a' items ds g hrs h => ?_)))
  obtain ⟨hl, f1, f2, lt⟩ := g.at n.st
  have fa := n.st.fresh (Nat.le_refl _)
  have hI : (s1.heap.push (revObj a' ((items.size : Int) - 1))).IsRevIter s1.heap.objs.size a' ((items.size : Int) - 1) := ⟨_, Heap.get?_push_size _ rfl, rfl, rfl⟩
  exact Calls.spliced_nil (call_reversed_list hl (wpAny_pyIter_revIter hI (k _ _ _ _ _ h.2 (n.trans (n.st.nxtH fun a o e => Heap.get?_push_of_some _ e)) ⟨Wk.rev F.X.handled isT (I := s1.heap.objs.size) (Nat.ne_of_lt lt) hrs,
    ⟨Nat.zero_le _, by simpa using hI, hl.push _⟩, allC fa.apart allN, allC fa.fp (allC ⟨f1, f2⟩ allN)⟩)))
theorem add_ne {a j k : Nat} (h : j ≠ k) : a + j ≠ a + k := fun e => h (Nat.add_left_cancel e)
theorem isnd_zip (GO : GlobOK Z.h₀ fad) {x y : Ex} (I : Snd Z x) (J : Snd Z y) : ISnd Z (.zip x y) := fun F e isT hc hT Φ ε Q E G p s h o k hx => by
  obtain rfl : isT = true := hT
  refine ckI_zip hc fun g a b pos hg ha hb => PyProof.Rows.Call_ (glob_bi GO hg (by decide +kernel) (v := .type "zip") (by decide +kernel) o ?_) (eval_callG hg)
  rw [star_cons ha, star_cons hb]
  refine PySem.callWith_type rfl (Calls.evalArgs_plain (Calls.spliced_cons (I.d ha h o hx fun _ d q v G1 s1 h n hv => ?_)))
  cases d with
  | list ds =>
    refine Calls.spliced_cons (J.d hb h (o.next n) (hx.after n) fun _ d q u G2 s2 h n2 hu => asL.rep h hu fun l2 items2 ds2 g2 hrs2 h => VRep.listE (hv.mono n2.le) fun l1 items g1 hrs => ?_)
    obtain ⟨hl, f1, f2, lt⟩ := g1.at n2.st
    obtain ⟨hl2, f3, f4, lt2⟩ := g2.at n2.st
    refine Calls.spliced_nil (call_zip_2 hl hl2 fun h' z1 z2 z3 z4 z5 z6 hk => ?_)
    have f := fun k : Nat => n2.st.fresh (a := s2.heap.objs.size + k) (Nat.le_add_right _ _)
    have lt1 : ∀ k : Nat, (l1 : Nat) ≠ s2.heap.objs.size + k := fun k => Nat.ne_of_lt (Nat.lt_of_lt_of_le lt (Nat.le_add_right _ _))
    have lt2 : ∀ k : Nat, (l2 : Nat) ≠ s2.heap.objs.size + k := fun k => Nat.ne_of_lt (Nat.lt_of_lt_of_le lt2 (Nat.le_add_right _ _))
    have D : ZipApart (s2.heap.objs.size + 4) (s2.heap.objs.size + 2) (s2.heap.objs.size + 3) (s2.heap.objs.size + 0) (s2.heap.objs.size + 1) l1 l2 :=
      ⟨add_ne (by decide), add_ne (by decide), add_ne (by decide), add_ne (by decide), add_ne (by decide), add_ne (by decide), add_ne (by decide), add_ne (by decide), add_ne (by decide), add_ne (by decide),
        lt1 4, lt1 3, lt1 0, lt1 1, lt2 4, lt2 3, lt2 0, lt2 1⟩
    exact wpAny_pyIter_zip z1 (k _ _ _ _ _ h.2 ((n.trans n2).trans (n2.st.nxtH hk)) ⟨Wk.zip F.X.handled D hrs hrs2, ⟨z1, z2, ⟨_, _, z3⟩, z4, z5, IsList.keep hl hk, IsList.keep hl2 hk⟩,
      allC (f 4).apart (allC (f 3).apart (allC (f 0).apart (allC (f 1).apart allN))), allC (f 4).fp (allC (f 2).fp (allC (f 3).fp (allC (f 0).fp (allC (f 1).fp (allC ⟨f1, f2⟩ (allC ⟨f3, f4⟩ allN))))))⟩)
  | _ => exact h.elim

theorem iter_range {isT : Bool} {a b c : Int} {t u v : Tok} {r : Addr} {K : D → Prop} {Q : Value → Shared → Prop} {E : Value → Shared → Prop} (hA : A.handled = none) (S : StOK Z.h₀ Z.P G Hd p s) (hr : rangeW a b c K) (hR : IsRange s.heap r a b c t u v)
    (h : ∀ it s', K (.list (rangeL a b c)) → Nxt Z.h₀ Z.P G Hd s G p s' → Walked Z A isT G Hd p s' (rangeL a b c) it → Q it s') : wpAny Z.M A (pyIter (.ref r)) Q E s := by
  have f := S.fresh (Nat.le_refl _)
  refine wpAny_pyIter_range hR (range_small hr.1) (h _ _ hr.2 (S.nxtH fun a o e => Heap.get?_push_of_some _ e) ⟨Wk.range hA isT (I := s.heap.objs.size) a c (Builtin.Range.rangeSize a b c).toNat, ?_, allC f.apart allN, allC f.fp allN⟩)
  have e : ((Builtin.Range.rangeSize a b c).toNat : Int) = Builtin.Range.rangeSize a b c := Int.toNat_of_nonneg (rangeSize_nonneg a b c)
  show IsRangeIter _ _ (a + ((0 : Nat) : Int) * c) (((Builtin.Range.rangeSize a b c).toNat : Int) - ((0 : Nat) : Int)) c
  rw [e]
  simp only [Int.natCast_zero, Int.zero_mul, Int.add_zero, Int.sub_zero]
  exact Heap.get?_push_size _ rfl
/-- a new range, walked -/
theorem new_range {isT : Bool} {a b c : Int} {t u v : Tok} {tk : Nat} {K : D → Prop} {Q : Value → Shared → Prop} {E : Value → Shared → Prop} (hA : A.handled = none) (S : StOK Z.h₀ Z.P G Hd p s) (hr : rangeW a b c K)
    (h : ∀ it s', K (.list (rangeL a b c)) → Nxt Z.h₀ Z.P G Hd s G p s' → Walked Z A isT G Hd p s' (rangeL a b c) it → Q it s') :
    wpAny Z.M A (pyIter (.ref s.heap.objs.size)) Q E { s with heap := s.heap.push { cls := .type "range", data := .fields #[.int a t, .int b u, .int c v] }, toks := tk } :=
  have n1 := S.nxtK (h := s.heap.push { cls := .type "range", data := .fields #[.int a t, .int b u, .int c v] }) (t := tk) fun a o e => Heap.get?_push_of_some _ e
  iter_range hA n1.st hr (t := t) (u := u) (v := v) (Heap.get?_push_size _ rfl) fun it s' hk n2 hw => h it s' hk (n1.trans n2) hw
theorem call_range {isT : Bool} {ds : List D} {vs : List Value} {K : D → Prop} {Q : Value → Shared → Prop} {E : Value → Shared → Prop} (hA : A.handled = none) (S : StOK Z.h₀ Z.P G Hd p s) (hv : VReps Z.P G vs ds) (hr : rangeE ds K)
    (h : ∀ l it s', K (.list l) → Nxt Z.h₀ Z.P G Hd s G p s' → Walked Z A isT G Hd p s' l it → Q it s') : wpAny Z.M A (call (.type "range") vs) (fun v s' => wpAny Z.M A (pyIter v) Q E s') E s := by
  unfold rangeE at hr
  rcases ds with _ | ⟨x, _ | ⟨y, _ | ⟨z, _ | ⟨_, _⟩⟩⟩⟩
  · exact hr.elim
  · exact hv.consE fun v _ h1 h2 => VReps.nilE h2 (asI.rep hr h1 fun b t hr => call_range_1 (new_range hA S hr (h _)))
  · exact hv.consE fun v _ h1 h2 => VReps.consE h2 fun u _ h2 h3 => VReps.nilE h3 (asI.rep hr h1 fun a t hr => asI.rep hr h2 fun b u hr => call_range_2 (new_range hA S hr (h _)))
  · exact hv.consE fun v _ h1 h2 => VReps.consE h2 fun u _ h2 h3 => VReps.consE h3 fun w _ h3 h4 => VReps.nilE h4 (asI.rep hr h1 fun a t hr => asI.rep hr h2 fun b u hr => asI.rep hr h3 fun c w hr =>
      call_range_3 hr.1.1 (new_range hA S hr (h _)) (.inl (PyProof.noPylong_small (by have := hr.1.2; have : lim = 100000 := rfl; omega))))
  · exact hr.elim
theorem range_nil {K : D → Prop} (h : rangeE [] K) : False := by unfold rangeE at h; exact h
theorem isnd_range (GO : GlobOK Z.h₀ fad) {es : Ex} (I : Snd Z es) : ISnd Z (.range es) := fun F e isT hc hT Φ ε Q E G p s h o k hx => by
  refine ckI_range hc fun g args pos hg hs => ?_
  have hnil : args ≠ [] := by
    rintro rfl
    rcases es_lists hs with ⟨rfl, _⟩ | ⟨_, _, _, _, _, q, _⟩
    · exact range_nil h
    · cases q
  exact PyProof.Rows.Call_ (glob_bi GO hg (by decide +kernel) (v := .type "range") (by decide +kernel) o (PySem.callWith_type (backTo_plain hs) (evalArgs_of hs hnil (I.es F hs h o (fun l q vs G1 s1 h n hv =>
    call_range F.X.handled n.st hv h fun l it s' h n2 hw => k _ _ _ _ _ h (n.trans n2) hw) hx)))) (eval_callG hg)
end
end Mini
end
section -- P16
namespace Mini
open PySem PySem.W PyProof.Rows

noncomputable def nsVal (n : Str) (o : Obj) : Option Value := match o.data with
  | .dict es _ => nsFind es n
  | _ => none
noncomputable def cellVal (o : Obj) : Option Value := match o.data with
  | .cell v => v
  | _ => none
/-- a name's value, as the map holds it -/
noncomputable def loc (H : HMap) (env : Env) (n : Str) : Option Value := match env.kindOf n with
  | some .local => (H env.locals).bind (nsVal n)
  | some .cell => (env.cells.lookup n).bind fun c => (H c).bind cellVal
  | _ => none

noncomputable def SlotS (Z : Zt) (G Hd H : HMap) (env : Env) (n : Str) : Slot → Prop
  | .un => True
  | .frz d => ∃ v, loc H env n = some v ∧ VRep Z.P G v d
  | .own l => ∃ a, loc H env n = some (.ref a) ∧ Hd a = none ∧ Z.h₀.get? a = none ∧ OwnAt Z.P G H a l
/-- a held dict of names -/
noncomputable def DictAt (H : HMap) (a : Addr) : Prop := ∃ o es ep, H a = some o ∧ o.data = .dict es ep ∧ StrKeys es
structure EnvS (env : Env) (ns : Ns) : Prop where
  scope : env.scope = ns.scope
  kind : ns.scope.kind = .function
  glob : env.globals = mainGlobals
  blt : env.builtins = builtinsNs
  nd : ns.vars.Nodup
  kinds : ∀ n ∈ ns.vars, env.kindOf n = some .local ∨ env.kindOf n = some .cell
noncomputable def CellsAt (H : HMap) (env : Env) : Prop := ∀ n, env.kindOf n = some .cell → ∃ c v, env.cells.lookup n = some c ∧ CellAt H c v
structure FrS (Z : Zt) (G Hd H : HMap) (env : Env) (ns : Ns) (sl : List Slot) : Prop where
  st : EnvS env ns
  le : Le Hd H
  L : DictAt H env.locals
  Lp : Hd env.locals = none ∧ Z.h₀.get? env.locals = none
  cells : CellsAt H env
  vars : ∀ (x : Nat) (n : Str), ns.vars[x]? = some n → SlotS Z G Hd H env n (sg sl x)
  inj : ∀ (x y : Nat) (l l' : List D) (n n' : Str) (a : Addr), x ≠ y → sg sl x = .own l → sg sl y = .own l' → ns.vars[x]? = some n → ns.vars[y]? = some n' → loc H env n = some (.ref a) → loc H env n' ≠ some (.ref a)

/-- the cells of a function's own frame -/
structure OwnCells (h₀ : Heap) (Hd : HMap) (env : Env) : Prop where
  p : ∀ n c, env.kindOf n = some .cell → env.cells.lookup n = some c → Hd c = none ∧ h₀.get? c = none
  inj : ∀ n n' c, env.kindOf n = some .cell → env.kindOf n' = some .cell → env.cells.lookup n = some c → env.cells.lookup n' = some c → n = n'

section
variable {Z : Zt} {G Hd H : HMap} {p : Pool} {s : Shared} {env : Env} {ns : Ns} {sl : List Slot}
/-- the frame's own objects are the same -/
structure Keep (env : Env) (H H' : HMap) : Prop where
  L : H' env.locals = H env.locals
  c : ∀ n c, env.kindOf n = some .cell → env.cells.lookup n = some c → H' c = H c
theorem Keep.loc {H' : HMap} (k : Keep env H H') (n : Str) : loc H' env n = loc H env n := by
  unfold Mini.loc
  split
  · rw [k.L]
  · rename_i hk
    cases hc : env.cells.lookup n with
    | none => rfl
    | some c => exact congrArg (·.bind cellVal) (k.c n c hk hc)
  · rfl
theorem Keep.cells {H' : HMap} (k : Keep env H H') (x : CellsAt H env) : CellsAt H' env := fun n hn =>
  let ⟨c, v, h, o, a, b⟩ := x n hn
  ⟨c, v, h, o, (k.c n c hn h).trans a, b⟩
theorem FrS.keepLe {H' : HMap} (F : FrS Z G Hd H env ns sl) (l : Le H H') : Keep env H H' where
  L := let ⟨_, _, _, h, _⟩ := F.L; (l _ _ h).trans h.symm
  c := fun n c hk hc => by
    obtain ⟨c', v, h, o, a, _⟩ := F.cells n hk
    rw [hc] at h; cases h
    exact (l _ _ a).trans a.symm
theorem OwnAt.same {P : Addr} {H' : HMap} {a : Addr} {l : List D} (h : OwnAt P G H a l) (e : H' a = H a) : OwnAt P G H' a l := h.rec fun o items k a b c d r => .mk o items k (e.trans a) b c d r
/-- the frame in other maps -/
theorem FrS.move {Hd' H' : HMap} (F : FrS Z G Hd H env ns sl) (k : Keep env H H') (le : Le Hd' H') (Lp : Hd' env.locals = none) (own : ∀ a o, Hd a = none → H a = some o → H' a = H a ∧ Hd' a = none) : FrS Z G Hd' H' env ns sl where
  st := F.st
  le := le
  L := let ⟨o, es, ep, h, r⟩ := F.L; ⟨o, es, ep, k.L.trans h, r⟩
  Lp := ⟨Lp, F.Lp.2⟩
  cells := k.cells F.cells
  vars := fun x n hn => by
    have := F.vars x n hn
    revert this
    cases sg sl x with
    | un => exact id
    | frz d => exact fun ⟨v, a, b⟩ => ⟨v, (k.loc n).trans a, b⟩
    | own l =>
      exact fun ⟨a, h1, h2, h3, h4⟩ => have ⟨o, q⟩ : ∃ o, H a = some o := h4.rec fun o _ _ a _ _ _ _ => ⟨o, a⟩
        ⟨a, (k.loc n).trans h1, (own a o h2 q).2, h3, h4.same (own a o h2 q).1⟩
  inj := fun x y l l' n n' a h1 h2 h3 h4 h5 h6 h7 => F.inj x y l l' n n' a h1 h2 h3 h4 h5 ((k.loc n).symm.trans h6) ((k.loc n').symm.trans h7)
theorem FrS.monoH {H' : HMap} (F : FrS Z G Hd H env ns sl) (l : Le H H') : FrS Z G Hd H' env ns sl := F.move (F.keepLe l) (F.le.trans l) F.Lp.1 fun a o h e => ⟨(l _ _ e).trans e.symm, h⟩
theorem SlotS.mono {G' : HMap} {n : Str} (l : Le G G') : ∀ {t : Slot}, SlotS Z G Hd H env n t → SlotS Z G' Hd H env n t
  | .un, x => x
  | .frz _, ⟨v, a, b⟩ => ⟨v, a, b.mono l⟩
  | .own _, ⟨a, h1, h2, h3, h4⟩ => ⟨a, h1, h2, h3, h4.mono l⟩
theorem FrS.monoG {G' : HMap} (F : FrS Z G Hd H env ns sl) (l : Le G G') : FrS Z G' Hd H env ns sl := { F with vars := fun x n hn => (F.vars x n hn).mono l }
theorem FrS.apart (F : FrS Z G Hd H env ns sl) {x y : Nat} {n m : Str} (hx : ns.vars[x]? = some n) (hy : ns.vars[y]? = some m) (h : y ≠ x) : m ≠ n := fun q => by
  subst q
  obtain ⟨l1, e1⟩ := List.getElem?_eq_some_iff.mp hy
  obtain ⟨l2, e2⟩ := List.getElem?_eq_some_iff.mp hx
  exact h ((List.getElem_inj F.st.nd).mp (e1.trans e2.symm))
/-- one name's slot is turned -/
theorem FrS.set {Hd' H' : HMap} {sl' : List Slot} {x : Nat} {n : Str} (F : FrS Z G Hd H env ns sl) (hx : ns.vars[x]? = some n) (hsl : ∀ y, y ≠ x → sg sl' y = sg sl y) (le : Le Hd' H') (L : DictAt H' env.locals) (Lp : Hd' env.locals = none) (cells : CellsAt H' env)
    (other : ∀ m ∈ ns.vars, m ≠ n → loc H' env m = loc H env m) (own : ∀ y m a l, y ≠ x → ns.vars[y]? = some m → sg sl y = .own l → loc H env m = some (.ref a) → Hd a = none → OwnAt Z.P G H a l → H' a = H a ∧ Hd' a = none)
    (new : SlotS Z G Hd' H' env n (sg sl' x)) (sep : ∀ y m l l' a, y ≠ x → ns.vars[y]? = some m → sg sl' x = .own l → sg sl y = .own l' → loc H' env n = some (.ref a) → loc H env m ≠ some (.ref a)) : FrS Z G Hd' H' env ns sl' where
  st := F.st
  le := le
  L := L
  Lp := ⟨Lp, F.Lp.2⟩
  cells := cells
  vars := fun y m hy => by
    by_cases h : y = x
    · subst h
      rw [hx] at hy; cases hy; exact new
    · rw [hsl y h]
      have lo := other m (List.mem_of_getElem? hy) (F.apart hx hy h)
      have := F.vars y m hy
      have ow := own y m
      revert this ow
      cases sg sl y with
      | un => exact fun _ _ => trivial
      | frz d => exact fun ⟨v, a, b⟩ _ => ⟨v, lo.trans a, b⟩
      | own l => exact fun ⟨a, h1, h2, h3, h4⟩ ow => have q := ow a l h hy rfl h1 h2 h4; ⟨a, lo.trans h1, q.2, h3, h4.same q.1⟩
  inj := fun y z l l' m m' a h1 h2 h3 h4 h5 h6 h7 => by
    have lo := fun (y : Nat) (m : Str) hy (h : y ≠ x) => other m (List.mem_of_getElem? hy) (F.apart hx hy h)
    by_cases hy : y = x
    · subst hy
      rw [hx] at h4; cases h4
      have hz : z ≠ y := Ne.symm h1
      exact sep z m' l l' a hz h5 h2 ((hsl z hz).symm.trans h3) h6 ((lo z m' h5 hz).symm.trans h7)
    · by_cases hz : z = x
      · subst hz
        rw [hx] at h5; cases h5
        exact sep y m l' l a hy h4 h3 ((hsl y hy).symm.trans h2) h7 ((lo y m h4 hy).symm.trans h6)
      · exact F.inj y z l l' m m' a h1 ((hsl y hy).symm.trans h2) ((hsl z hz).symm.trans h3) h4 h5 ((lo y m h4 hy).symm.trans h6) ((lo z m' h5 hz).symm.trans h7)

theorem sg_set (sl : List Slot) (x : Nat) (t : Slot) : ∀ y, y ≠ x → sg (sl.set x t) y = sg sl y := by
  induction sl generalizing x with
  | nil => intro y _; rfl
  | cons u r ih =>
    intro y h
    cases x with
    | zero =>
      cases y with
      | zero => exact absurd rfl h
      | succ y => rfl
    | succ x =>
      cases y with
      | zero => rfl
      | succ y => exact ih x y fun q => h (congrArg (· + 1) q)
theorem sg_self (sl : List Slot) (x : Nat) (t : Slot) : sg (sl.set x t) x = t ∨ sg (sl.set x t) x = .un := by
  induction sl generalizing x with
  | nil => exact .inr rfl
  | cons u r ih =>
    cases x with
    | zero => exact .inl rfl
    | succ x => exact ih x

theorem Le.off {H' : HMap} (l : Le H' H) {a : Addr} (h : H a = none) : H' a = none := by
  cases e : H' a with
  | none => rfl
  | some o => rw [l a o e] at h; cases h
theorem StOK.weak {Hd' : HMap} (l : Le Hd' Hd) (x : StOK Z.h₀ Z.P G Hd p s) : StOK Z.h₀ Z.P G Hd' p s :=
  { x with agrH := fun a o e => x.agrH a o (l a o e), sep := fun a o e => l.off (x.sep a o e), pool := fun q e => have ⟨h1, h2, h3, h4⟩ := x.pool q e; ⟨h1, h2, l.off h3, h4⟩ }
theorem Nxt.weak {Hd' G' : HMap} {p' : Pool} {s' : Shared} (l : Le Hd' Hd) (x : Nxt Z.h₀ Z.P G Hd s G' p' s') : Nxt Z.h₀ Z.P G Hd' s G' p' s' := ⟨x.le, x.st.weak l, x.sm⟩
theorem addG_of {a b : Addr} {o o' : Obj} (e : addG H a o b = some o') : (b = a ∧ o = o') ∨ (b ≠ a ∧ H b = some o') := by
  unfold addG at e
  split at e
  · rename_i h; cases e; exact .inl ⟨h, rfl⟩
  · rename_i h; exact .inr ⟨h, e⟩
theorem addG_ne {a b : Addr} {o : Obj} (h : b ≠ a) : addG H a o b = H b := if_neg h
theorem StOK.notP {a : Addr} {o : Obj} (x : StOK Z.h₀ Z.P G Hd p s) (h : Hd a = some o) : p = none ∨ a ≠ Z.P := by
  cases p with
  | none => exact .inl rfl
  | some q => exact .inr fun e => by have := (x.pool q rfl).2.2.1; rw [← e, h] at this; cases this
theorem StOK.notG {a : Addr} {o : Obj} (x : StOK Z.h₀ Z.P G Hd p s) (h : Hd a = some o) : G a = none := by
  cases e : G a with
  | none => rfl
  | some o' => have := x.sep a o' e; rw [h] at this; cases this
/-- a held object is turned: the map is turned with it -/
theorem StOK.turn {a : Addr} {o o' : Obj} {h' : Heap} {t : Nat} (x : StOK Z.h₀ Z.P G Hd p s) (ha : Hd a = some o) (hb : Z.h₀.get? a = none) (hs : Heap.SameBut a s.heap h') (ho : h'.get? a = some o') :
    StOK Z.h₀ Z.P G (addG Hd a o') p { s with heap := h', toks := t } where
  agrG := fun b ob e => (hs.2 b fun q => by rw [q, x.notG ha] at e; cases e).trans (x.agrG b ob e)
  agrH := fun b ob e => by
    rcases addG_of e with ⟨rfl, rfl⟩ | ⟨q, e⟩
    · exact .inl ho
    · rw [show ({ s with heap := h', toks := t } : Shared).heap.get? b = s.heap.get? b from hs.2 b q]
      exact x.agrH b ob e
  sep := fun b ob e => (addG_ne fun q => by rw [q, x.notG ha] at e; cases e).trans (x.sep b ob e)
  base := fun b ob e => (hs.2 b fun q => by rw [q, hb] at e; cases e).trans (x.base b ob e)
  pool := fun q e => by
    obtain ⟨⟨o1, t1, u, n, h1, h2, h3⟩, h4, h5, h6⟩ := x.pool q e
    have hne : Z.P ≠ a := fun q => by rw [q, ha] at h5; cases h5
    exact ⟨⟨o1, t1, u, n, (hs.2 _ hne).trans h1, h2, h3⟩, h4, (addG_ne hne).trans h5, h6⟩

theorem FrS.fnKind (F : FrS Z G Hd H env ns sl) : env.scope.kind = .function := by rw [F.st.scope]; exact F.st.kind
theorem CellAt.exact {c : Addr} {v : Option Value} {h : Heap} (x : CellAt H c v) (a : Agr H h) : ∃ o, h.get? c = some o ∧ o.data = .cell v :=
  let ⟨o, hH, hd⟩ := x; ⟨o, a.exact hH (fun es n e => by rw [hd] at e; cases e), hd⟩
/-- what the map holds of a name is what the machine reads -/
theorem rd_of (F : FrS Z G Hd H env ns sl) {n : Str} {v : Value} (h : loc H env n = some v) : Rd Z H env n v := by
  intro A E Q s ha hq
  have hk := F.fnKind
  unfold loc at h
  split at h
  · rename_i hl
    obtain ⟨o, es, ep, hL, hd, hsk⟩ := F.L
    obtain ⟨sl', hg⟩ := ha.get hL
    rw [hL] at h
    simp only [Option.bind_some, nsVal, hd] at h
    exact wpAny_loadName_local hk hl ⟨_, es, ep, hg, hd, hsk, fun _ => rfl⟩ h hq
  · rename_i hl
    obtain ⟨c, v', hc, x⟩ := F.cells n hl
    have y := x.exact ha
    obtain ⟨o, hH, hd⟩ := x
    rw [hc] at h
    simp only [Option.bind_some, hH, cellVal, hd] at h
    subst h
    exact wpAny_loadName_cell hk hl hc y hq
  · cases h
theorem loc_cell {n : Str} {c : Addr} {v : Option Value} (hk : env.kindOf n = some .cell) (hc : env.cells.lookup n = some c) (x : CellAt H c v) : loc H env n = v := by
  obtain ⟨o, a, b⟩ := x
  unfold loc
  rw [hk]
  simp only [hc, Option.bind_some, a, cellVal, b]
theorem FrS.envOK (F : FrS Z G Hd H env ns sl) : EnvOK Z G H env ns sl where
  scope := F.st.scope
  kind := F.st.kind
  glob := F.st.glob
  blt := F.st.blt
  vars := fun x n hn => by
    have := F.vars x n hn
    revert this
    cases sg sl x with
    | un => exact id
    | frz d => exact fun ⟨v, a, b⟩ => ⟨v, b, rd_of F a⟩
    | own l => exact fun ⟨a, h1, _, _, h4⟩ => ⟨a, h4, rd_of F h1⟩
  cells := F.cells
  cellv := fun x n d hn ht hk => by
    have := F.vars x n hn
    rw [ht] at this
    obtain ⟨v, a, b⟩ := this
    obtain ⟨c, v', h1, y⟩ := F.cells n hk
    rw [loc_cell hk h1 y] at a
    subst a
    exact ⟨c, v, h1, y, b⟩

/-- after a name is stored -/
structure Stored (Z : Zt) (G Hd H : HMap) (env : Env) (ns : Ns) (n : Str) (v : Value) (p : Pool) (s s' : Shared) (H' : HMap) : Prop where
  sm : Sm s s'
  S : StOK Z.h₀ Z.P G H' p s'
  le : Le Hd H'
  L : DictAt H' env.locals
  cells : CellsAt H' env
  here : loc H' env n = some v
  other : ∀ m ∈ ns.vars, m ≠ n → loc H' env m = loc H env m
  seq : ∀ a l, OwnAt Z.P G H a l → H' a = H a
theorem Le.turn {a : Addr} {o : Obj} (l : Le Hd H) (h : Hd a = none) : Le Hd (addG H a o) := fun b ob e => (addG_ne fun q => by rw [q, h] at e; cases e).trans (l b ob e)
theorem OwnAt.ne {a b : Addr} {l : List D} {o : Obj} (x : OwnAt Z.P G H a l) (h : H b = some o) (hn : ∀ its k, o.data ≠ .seq its k) : a ≠ b := fun q => by
  obtain ⟨o', items, k, h1, _, _, h4, _⟩ := x
  rw [q, h] at h1; cases h1
  exact hn _ _ h4
theorem FrS.storeRaw {A : Around} {x : Nat} {n : Str} {v : Value} {Q : Unit → Shared → Prop} {E : Value → Shared → Prop} (F : FrS Z G Hd H env ns sl) (S : StOK Z.h₀ Z.P G H p s) (hx : ns.vars[x]? = some n)
    (hc : env.kindOf n = some .local ∨ OwnCells Z.h₀ Hd env) (h : ∀ s' H', Stored Z G Hd H env ns n v p s s' H' → Q () s') : wpAny Z.M A (storeName env n v) Q E s := by
  have hk := F.fnKind
  obtain ⟨o, es, ep, hL, hd, hsk⟩ := F.L
  have cn : ∀ m c, env.kindOf m = some .cell → env.cells.lookup m = some c → c ≠ env.locals := fun m c hk hc q => by
    obtain ⟨c', v, h1, oc, h2, h3⟩ := F.cells m hk
    rw [hc] at h1; cases h1
    rw [q, hL] at h2; cases h2; rw [hd] at h3; cases h3
  rcases F.st.kinds n (List.mem_of_getElem? hx) with hl | hl
  · obtain ⟨sl', hg⟩ := S.agrH.get hL
    refine wpAny_storeName_local hl ⟨_, es, ep, hg, hd, hsk, fun _ => rfl⟩ (fun h' hn hs => ?_) (by rw [hk]; rfl)
    obtain ⟨o', es', ep', ho', hd', hsk', hm'⟩ := hn
    refine h _ (addG H env.locals o') ⟨.mk .., S.turn hL F.Lp.2 hs ho', F.le.turn F.Lp.1, ⟨o', es', ep', addG_self, hd', hsk'⟩, fun m hm => ?_, ?_, fun m _ hnn => ?_, fun a l y => addG_ne (y.ne hL fun _ _ e => by rw [hd] at e; cases e)⟩
    · obtain ⟨c, v, h1, oc, h2, h3⟩ := F.cells m hm
      exact ⟨c, v, h1, oc, (addG_ne (cn m c hm h1)).trans h2, h3⟩
    · unfold loc
      rw [hl]
      simp only [addG_self, Option.bind_some, nsVal, hd', hm', if_true]
    · unfold loc
      split
      · rw [addG_self, hL]
        simp only [Option.bind_some, nsVal, hd', hd, hm', if_neg hnn]
      · rename_i hk'
        obtain ⟨c, v, h1, _⟩ := F.cells m hk'
        rw [h1]
        exact congrArg (·.bind cellVal) (addG_ne (cn m c hk' h1))
      · rfl
  · rcases hc with hc | hc
    · rw [hl] at hc; cases hc
    obtain ⟨c, vc, h1, y⟩ := F.cells n hl
    obtain ⟨oc, h2, h3⟩ := y
    have hcL := cn n c hl h1
    refine wpAny_storeName_cell hk hl h1 (CellAt.exact ⟨oc, h2, h3⟩ S.agrH) (fun h' hc' hs => ?_)
    obtain ⟨o', ho', hd'⟩ := hc'
    refine h { s with heap := h' } (addG H c o') ⟨.heap .., S.turn (t := s.toks) h2 (hc.p n c hl h1).2 hs ho', F.le.turn (hc.p n c hl h1).1, ⟨o, es, ep, (addG_ne (Ne.symm hcL)).trans hL, hd, hsk⟩, fun m hm => ?_, loc_cell hl h1 ⟨o', addG_self, hd'⟩, fun m _ hnn => ?_,
      fun a l y => addG_ne (y.ne h2 fun _ _ e => by rw [h3] at e; cases e)⟩
    · obtain ⟨c', v', k1, oc', k2, k3⟩ := F.cells m hm
      by_cases q : c' = c
      · exact ⟨c', _, k1, o', by rw [q]; exact addG_self, hd'⟩
      · exact ⟨c', v', k1, oc', (addG_ne q).trans k2, k3⟩
    · unfold loc
      split
      · rw [addG_ne (Ne.symm hcL)]
      · rename_i hk'
        obtain ⟨c', v', k1, _⟩ := F.cells m hk'
        rw [k1]
        exact congrArg (·.bind cellVal) (addG_ne fun q : c' = c => hnn (hc.inj m n c hk' hl (q ▸ k1) h1))
      · rfl
/-- a name is stored: its slot is turned -/
theorem FrS.store {A : Around} {x : Nat} {n : Str} {v : Value} {t : Slot} {Q : Unit → Shared → Prop} {E : Value → Shared → Prop} (F : FrS Z G Hd H env ns sl) (S : StOK Z.h₀ Z.P G H p s) (hx : ns.vars[x]? = some n)
    (hc : env.kindOf n = some .local ∨ OwnCells Z.h₀ Hd env) (new : ∀ H', loc H' env n = some v → (∀ a l, OwnAt Z.P G H a l → H' a = H a) → SlotS Z G Hd H' env n t)
    (sep : ∀ y m l l' a, y ≠ x → ns.vars[y]? = some m → t = .own l → sg sl y = .own l' → v = .ref a → loc H env m ≠ some (.ref a))
    (h : ∀ s' H', Sm s s' → StOK Z.h₀ Z.P G H' p s' → FrS Z G Hd H' env ns (sl.set x t) → Q () s') : wpAny Z.M A (storeName env n v) Q E s :=
  F.storeRaw S hx hc fun s' H' w => h s' H' w.sm w.S (F.set hx (sg_set sl x t) w.le w.L F.Lp.1 w.cells w.other (fun y m a l _ _ _ _ hd ho => ⟨w.seq a l ho, hd⟩)
    (by rcases sg_self sl x t with e | e <;> rw [e]; · exact new H' w.here w.seq
        · trivial)
    fun y m l l' a hy hm e hs hl => sep y m l l' a hy hm ((sg_self sl x t).elim (fun q => q.symm.trans e) fun q => by rw [q] at e; cases e) hs (Option.some.inj (w.here.symm.trans hl)))
theorem FrS.storeD {A : Around} {x : Nat} {n : Str} {v : Value} {d : D} {Q : Unit → Shared → Prop} {E : Value → Shared → Prop} (F : FrS Z G Hd H env ns sl) (S : StOK Z.h₀ Z.P G H p s) (hx : ns.vars[x]? = some n)
    (hc : env.kindOf n = some .local ∨ OwnCells Z.h₀ Hd env) (hv : VRep Z.P G v d) (h : ∀ s' H', Sm s s' → StOK Z.h₀ Z.P G H' p s' → FrS Z G Hd H' env ns (sl.set x (.frz d)) → Q () s') : wpAny Z.M A (storeName env n v) Q E s :=
  F.store S hx hc (fun H' q _ => show SlotS Z G Hd H' env n (.frz d) from ⟨v, q, hv⟩) (fun _ _ _ _ _ _ _ e => by cases e) h
end
end Mini
end
section -- P17
namespace Mini
open PySem PySem.W PyProof.Rows

/-- two maps together -/
noncomputable def addM (H K : HMap) : HMap := fun b => (K b).or (H b)
/-- without the other's -/
noncomputable def dropM (H K : HMap) : HMap := fun b => (K b).elim (H b) fun _ => none
/-- the objects of a walk -/
noncomputable def fpK (fp : List Addr) (h : Heap) (G : HMap) : HMap := fun b => if b ∈ fp ∧ G b = none then h.get? b else none
theorem addM_of {H K : HMap} {b : Addr} {o : Obj} (h : K b = some o) : addM H K b = some o := by unfold addM; rw [h]; rfl
theorem addM_not {H K : HMap} {b : Addr} (h : K b = none) : addM H K b = H b := by unfold addM; rw [h]; rfl
theorem dropM_of {H K : HMap} {b : Addr} {o : Obj} (h : K b = some o) : dropM H K b = none := by unfold dropM; rw [h]; rfl
theorem dropM_not {H K : HMap} {b : Addr} (h : K b = none) : dropM H K b = H b := by unfold dropM; rw [h]; rfl
theorem dropM_le (H K : HMap) : Le (dropM H K) H := fun b o e => by
  cases hk : K b with
  | none => rw [dropM_not hk] at e; exact e
  | some _ => rw [dropM_of hk] at e; cases e
theorem addM_right (H K : HMap) : Le K (addM H K) := fun b o e => addM_of e
noncomputable def Dis (K H : HMap) : Prop := ∀ b o, K b = some o → H b = none
theorem Dis.of {K H : HMap} (d : Dis K H) {b : Addr} {o : Obj} (h : H b = some o) : K b = none := by
  cases e : K b with
  | none => rfl
  | some o' => rw [d b o' e] at h; cases h
theorem addM_left {H K : HMap} (dis : Dis K H) : Le H (addM H K) := fun b o e => (addM_not (dis.of e)).trans e
theorem Dis.weak {K H H' : HMap} (d : Dis K H) (l : Le H' H) : Dis K H' := fun b o e => l.off (d b o e)
theorem addM_cases {H K : HMap} {b : Addr} {o : Obj} (e : addM H K b = some o) : K b = some o ∨ (K b = none ∧ H b = some o) := by
  cases hk : K b with
  | none => rw [addM_not hk] at e; exact .inr ⟨rfl, e⟩
  | some o' => rw [addM_of hk] at e; exact .inl e
theorem addM_none {H K : HMap} {b : Addr} (e : addM H K b = none) : K b = none ∧ H b = none := by
  cases hk : K b with
  | none => rw [addM_not hk] at e; exact ⟨rfl, e⟩
  | some o' => rw [addM_of hk] at e; cases e

section
variable {Z : Zt} {A : Around} {G Hd H K : HMap} {p : Pool} {s : Shared} {fp wr : List Addr} {env : Env} {ns : Ns} {sl : List Slot}

theorem StOK.addM (S : StOK Z.h₀ Z.P G H p s) (k : ∀ b o, K b = some o → s.heap.get? b = some o ∧ G b = none ∧ (p = none ∨ b ≠ Z.P)) : StOK Z.h₀ Z.P G (addM H K) p s where
  agrG := S.agrG
  agrH := fun a o e => (addM_cases e).elim (fun e => .inl (k a o e).1) fun e => S.agrH a o e.2
  sep := fun a o e => by
    cases hk : K a with
    | none => rw [addM_not hk]; exact S.sep a o e
    | some o' => rw [(k a o' hk).2.1] at e; cases e
  base := S.base
  pool := fun q e => by
    obtain ⟨h1, h2, h3, h4⟩ := S.pool q e
    refine ⟨h1, h2, ?_, h4⟩
    cases hk : K Z.P with
    | none => rw [addM_not hk]; exact h3
    | some o' => exact ((k _ o' hk).2.2.resolve_left (by rw [e]; exact nofun) rfl).elim
theorem FrS.dis (F : FrS Z G Hd H env ns sl) (d : Dis K H) : K env.locals = none := let ⟨_, _, _, h, _⟩ := F.L; d.of h
theorem FrS.addM (F : FrS Z G Hd H env ns sl) (dis : Dis K H) : FrS Z G (addM Hd K) (addM H K) env ns sl :=
  F.move (F.keepLe (addM_left dis)) (fun b o e => (addM_cases e).elim addM_of fun e => (addM_not e.1).trans (F.le b o e.2)) ((addM_not (F.dis dis)).trans F.Lp.1) fun a o h e => ⟨addM_not (dis.of e), (addM_not (dis.of e)).trans h⟩
theorem FrS.cellK (F : FrS Z G Hd H env ns sl) {n : Str} {c : Addr} (hk : env.kindOf n = some .cell) (hc : env.cells.lookup n = some c) : ∃ o, H c = some o ∧ ∃ v, o.data = .cell v := by
  obtain ⟨c', v, h1, o, h2, h3⟩ := F.cells n hk
  rw [hc] at h1; cases h1
  exact ⟨o, h2, v, h3⟩
theorem OwnCells.addM (F : FrS Z G Hd H env ns sl) (dis : Dis K H) (O : OwnCells Z.h₀ Hd env) : OwnCells Z.h₀ (addM Hd K) env where
  p := fun n c hk hc => let ⟨_, h, _⟩ := F.cellK hk hc; ⟨(addM_not (dis.of h)).trans (O.p n c hk hc).1, (O.p n c hk hc).2⟩
  inj := O.inj
theorem FrS.dropM {G0 H0 : HMap} {sl0 : List Slot} (F0 : FrS Z G0 Hd H0 env ns sl0) (dis : Dis K H0) (F : FrS Z G (Mini.addM Hd K) H env ns sl) : FrS Z G Hd (dropM H K) env ns sl :=
  F.move ⟨dropM_not (F0.dis dis), fun n c hk hc => let ⟨_, h, _⟩ := F0.cellK hk hc; dropM_not (dis.of h)⟩
    (fun b o e => (dropM_not (dis.of (F0.le b o e))).trans (F.le b o ((addM_not (dis.of (F0.le b o e))).trans e))) F0.Lp.1 fun a o h _ => ⟨dropM_not (addM_none h).1, (addM_none h).2⟩
/-- a held thing of the base is turned -/
theorem FrS.swap {Hd' H' : HMap} {a : Addr} {o : Obj} (F : FrS Z G Hd H env ns sl) (ha : Hd a = some o) (hd : ∀ v, o.data ≠ .cell v) (k1 : ∀ b, b ≠ a → Hd' b = Hd b) (k2 : ∀ b, b ≠ a → H' b = H b) (e : Hd' a = H' a) : FrS Z G Hd' H' env ns sl :=
  have hL : env.locals ≠ a := fun q => by have := F.Lp.1; rw [q, ha] at this; cases this
  F.move ⟨k2 _ hL, fun n c hk hc => k2 _ fun q => by
      obtain ⟨oc, h2, v, h3⟩ := F.cellK hk hc
      rw [q, F.le a o ha] at h2; cases h2
      exact hd v h3⟩
    (fun b ob h => by
      by_cases hb : b = a
      · subst hb; exact e ▸ h
      · rw [k2 b hb]; exact F.le b ob (k1 b hb ▸ h)) ((k1 _ hL).trans F.Lp.1)
    fun b ob h _ => have hb : b ≠ a := fun q => by rw [q, ha] at h; cases h
      ⟨k2 b hb, (k1 b hb).trans h⟩

/-- where a loop stands -/
structure Stand (Z : Zt) (St : Nat → Heap → Prop) (fp wr : List Addr) (i : Nat) (G H : HMap) (p : Pool) (s : Shared) : Prop where
  st : St i s.heap
  wr : WrOK Z.h₀ Z.P wr G H p
  fp : ∀ b ∈ fp, H b = none ∧ (p = none ∨ b ≠ Z.P)
theorem fpK_of {h : Heap} {b : Addr} {o : Obj} (e : fpK fp h G b = some o) : b ∈ fp ∧ G b = none ∧ h.get? b = some o := by
  unfold fpK at e
  split at e
  · rename_i q; exact ⟨q.1, q.2, e⟩
  · cases e
theorem fpK_at {h : Heap} {b : Addr} (hb : b ∈ fp) (hg : G b = none) (t : NotD h b) : ∃ o, fpK fp h G b = some o ∧ h.get? b = some o ∧ ∀ es n, o.data ≠ .dict es n :=
  let ⟨o, ho, hd⟩ := t
  ⟨o, (if_pos ⟨hb, hg⟩).trans ho, ho, hd⟩
/-- a walk's own objects may be held aside while a body runs -/
theorem Stand.back {St : Nat → Heap → Prop} {isT : Bool} {G₀ G2 H2 : HMap} {p2 : Pool} {s2 : Shared} {I : Addr} {ds : List D} {i : Nat} (W : Wk Z.prog Z.w Z.h₀ Z.P A isT G₀ I fp wr ds St) (S : StOK Z.h₀ Z.P G H p s) (hW : WrOK Z.h₀ Z.P wr G Hd p) (st : St i s.heap)
    (S2 : StOK Z.h₀ Z.P G2 H2 p2 s2) (l : Le G G2) (lk : Le (fpK fp s.heap G) H2) : Stand Z St fp wr i G2 (dropM H2 (fpK fp s.heap G)) p2 s2 := by
  have there := W.there _ _ st
  refine ⟨W.frame _ _ _ st fun b hb o ho => ?_, fun b hb => ?_, fun b hb => ?_⟩
  · cases hg : G b with
    | none =>
      obtain ⟨o', hK, ho', hd⟩ := fpK_at hb hg (there b hb)
      rw [ho] at ho'; cases ho'
      exact S2.agrH.exact (lk b o hK) hd
    | some o2 =>
      have := S.agrG b o2 hg
      rw [ho] at this; cases this
      exact S2.agrG b o (l b o hg)
  · obtain ⟨o, hK, _⟩ := fpK_at (W.sub b hb) (hW b hb).g (there b (W.sub b hb))
    exact ⟨S2.notG (lk b o hK), dropM_of hK, (hW b hb).b, S2.notP (lk b o hK)⟩
  · cases hg : G b with
    | none =>
      obtain ⟨o, hK, _⟩ := fpK_at hb hg (there b hb)
      exact ⟨dropM_of hK, S2.notP (lk b o hK)⟩
    | some o2 => exact ⟨(dropM_le H2 _).off (S2.noP (l b o2 hg)).1, (S2.noP (l b o2 hg)).2⟩
theorem Wk.next {isT : Bool} {G₀ : HMap} {I : Addr} {ds : List D} {St : Nat → Heap → Prop} (W : Wk Z.prog Z.w Z.h₀ Z.P A isT G₀ I fp wr ds St) {i : Nat} {d : D} {t : Expr} {Q : Value → Shared → Prop} {E : Value → Shared → Prop} (hd : ds[i]? = some d) (ht : TgtOK isT t) (hle : Le G₀ G) (S : StOK Z.h₀ Z.P G H p s) (B : Stand Z St fp wr i G H p s)
    (h : ∀ v G' s' K, Nxt Z.h₀ Z.P G H s G' p s' → VRep Z.P G' v d → Dis K H → StOK Z.h₀ Z.P G' (Mini.addM H K) p s' →
      (∀ G2 H2 p2 s2, StOK Z.h₀ Z.P G2 H2 p2 s2 → Le G' G2 → Le K H2 → Stand Z St fp wr (i + 1) G2 (Mini.dropM H2 K) p2 s2) → Q v s') :
    wpAny Z.M A (pyNext (.ref I)) (fun r s1 => ∃ v, r = some v ∧ wpAny Z.M A (letOwnedTupleGo t (.ref I) v) (fun _ s2 => Q v s2) E s1) E s :=
  W.item i d hd s G H p t Q E ht hle S B.wr B.st fun v G' s' hn hW hv hst =>
    h v G' s' (fpK fp s'.heap G') hn hv (fun b o e => (B.fp b (fpK_of e).1).1) (hn.st.addM fun b o e => ⟨(fpK_of e).2.2, (fpK_of e).2.1, (B.fp b (fpK_of e).1).2⟩) fun G2 H2 p2 s2 S2 l lk => Stand.back W hn.st hW hst S2 l lk

theorem tgGo_nil {ns : Ns} {l : List Expr} (h : tgGo ns [] l = true) : l = [] := isNil_eq h
@[elab_as_elim] theorem tgGo_cons {ns : Ns} {x : Nat} {xs : List Nat} {l : List Expr} (h : tgGo ns (x :: xs) l = true) {m : List Expr → Prop} (K : ∀ n q r, ns.vars[x]? = some n → tgGo ns xs r = true → m (.Name n q :: r)) : m l :=
  (oB_true h).elim fun t h => kk (isV_eqK (m := fun e => m (e :: t.1.2)) (bb h).1 fun n q hn _ => K n q t.1.2 hn (bb h).2) t.2
theorem tg_each {ns : Ns} {env : Env} (tg : List Nat) : ∀ {es : List Expr}, tgGo ns tg es = true → (assignEach es env).length = tg.length ∧ (assignEach es env).findIdx? (·.1) = none := by
  induction tg with
  | nil =>
    intro es h
    cases tgGo_nil h
    exact ⟨rfl, rfl⟩
  | cons x xs ih =>
    intro es h
    refine tgGo_cons h fun n q r _ h => ?_
    obtain ⟨h1, h2⟩ := ih h
    refine ⟨congrArg (· + 1) h1, ?_⟩
    show List.findIdx? (·.1) ((false, assign (.Name n q) env) :: assignEach r env) = none
    rw [List.findIdx?_cons, h2]; rfl
/-- the names of a target may be stored -/
noncomputable def TgC (Z : Zt) (ns : Ns) (Hd : HMap) (env : Env) (tg : List Nat) : Prop := ∀ x ∈ tg, ∀ n, ns.vars[x]? = some n → env.kindOf n = some .local ∨ OwnCells Z.h₀ Hd env
theorem assign_go {ns : Ns} {env : Env} {E : Value → Shared → Prop} {Q : Unit → Shared → Prop} (tg : List Nat) : ∀ {es : List Expr} {vs : List Value} {ds : List D} {sl : List Slot} {H : HMap} {s : Shared}, tgGo ns tg es = true → VReps Z.P G vs ds → ds.length = tg.length →
    FrS Z G Hd H env ns sl → StOK Z.h₀ Z.P G H p s → TgC Z ns Hd env tg →
    (∀ s' H', Sm s s' → StOK Z.h₀ Z.P G H' p s' → FrS Z G Hd H' env ns (setAll tg ds sl) → Q () s') → wpAny Z.M A (assignInOrder ((assignEach es env).map (·.2)) vs) Q E s := by
  induction tg with
  | nil =>
    intro es vs ds sl H s hg hr hl F S hc h
    cases tgGo_nil hg
    cases List.length_eq_zero_iff.mp hl
    exact hr.nilE (wpAny_assignInOrder_none (h s H (.refl _) S F))
  | cons x xs ih =>
    intro es vs ds sl H s hg hr hl F S hc h
    cases ds with
    | nil => cases hl
    | cons d ds =>
      exact tgGo_cons hg fun n q r hn hg => hr.consE fun v vs h1 h2 => wpAny_assignInOrder_more (wpAny_assign_Name (F.storeD S hn (hc x List.mem_cons_self n hn) h1 fun s' H' sm S' F' =>
        ih hg h2 (Nat.succ.inj hl) F' S' (fun y hy => hc y (List.mem_cons_of_mem _ hy)) fun s'' H'' sm' S'' F'' => h s'' H'' (sm.trans sm') S'' F''))
/-- a loop's target takes an item -/
theorem assign_tuple {ns : Ns} {env : Env} {H : HMap} {E : Value → Shared → Prop} {tg : List Nat} {es : List Expr} {k : Nat} {pos : Pos} {v : Value} {ds : List D} {sl : List Slot} {Q : Unit → Shared → Prop} (hA : A.handled = none) (hg : tgGo ns tg es = true) (hr : VRep Z.P G v (.tup ds)) (hl : ds.length = tg.length)
    (F : FrS Z G Hd H env ns sl) (S : StOK Z.h₀ Z.P G H p s) (hc : TgC Z ns Hd env tg)
    (h : ∀ s' H', Sm s s' → StOK Z.h₀ Z.P G H' p s' → FrS Z G Hd H' env ns (setAll tg ds sl) → Q () s') : wpAny Z.M A (assign (.Tuple es k pos) env v) Q E s :=
  hr.tupE fun a items g r => g.rec fun o n h1 h2 h3 => wpAny_assign_Tuple hA ⟨o, S.agrG _ _ h1, h2, n, h3⟩ (by rw [(tg_each (env := env) tg hg).1, ← hl, size_of r]) (tg_each tg hg).2 fun h' he =>
    have kk := S.nxtH (h := h') fun a o e => he a o (Nat.ne_of_lt (Heap.lt_size e)) e
    assign_go tg hg r hl F kk.st hc fun s'' H'' sm' S'' F'' => h s'' H'' (kk.sm.trans sm') S'' F''

theorem bindT_TgtOK {ns : Ns} {tg : List Nat} {isT : Bool} {t : Expr} (hg : tgOk ns tg isT t = true) : TgtOK isT t := by
  cases isT with
  | false => exact (oB_true hg).elim fun x h => isV_eqK h fun n q _ _ => .inl ⟨rfl, _, _, rfl⟩
  | true => exact (oB_true hg).elim fun x h => .inr ⟨rfl, _, _, _, x.2⟩
theorem assign_tg {ns : Ns} {env : Env} {H : HMap} {E : Value → Shared → Prop} {tg : List Nat} {isT : Bool} {t : Expr} {v : Value} {d : D} {sl : List Slot} {K : List Slot → Prop} {Q : Unit → Shared → Prop} (hA : A.handled = none) (hg : tgOk ns tg isT t = true) (hr : VRep Z.P G v d) (hb : bindW tg isT d sl K)
    (F : FrS Z G Hd H env ns sl) (S : StOK Z.h₀ Z.P G H p s) (hc : TgC Z ns Hd env tg)
    (h : ∀ s' H' sl1, K sl1 → Sm s s' → StOK Z.h₀ Z.P G H' p s' → FrS Z G Hd H' env ns sl1 → Q () s') : wpAny Z.M A (assign t env v) Q E s := by
  cases isT with
  | false =>
    obtain ⟨⟨x, rfl⟩, hg⟩ := oB_true hg
    exact isV_eqK hg fun n q hn _ => wpAny_assign_Name (F.storeD S hn (hc x List.mem_cons_self _ hn) hr fun s' H' sm S' F' => h s' H' _ hb sm S' F')
  | true =>
    obtain ⟨⟨y, rfl⟩, hg⟩ := oB_true hg
    cases d with
    | tup ds => exact assign_tuple hA hg hr hb.1 F S hc fun s' H' sm S' F' => h s' H' _ hb.2 sm S' F'
    | _ => exact hb.elim
end
end Mini
end
section -- P18
namespace Mini
open PySem PySem.W PyProof.Rows

/-! ## comprehensions -/
/-- a closure that knows a name's cell -/
noncomputable def ClS (env : Env) (cl : List (Str × Addr)) (n : Str) : Prop := ∃ c, cl.lookup n = some c ∧ env.cells.lookup n = some c
theorem ClS.cons {env : Env} {cl : List (Str × Addr)} {m n : Str} {c : Addr} (hc : env.cells.lookup m = some c) (h : n = m ∨ ClS env cl n) : ClS env ((m, c) :: cl) n := by
  unfold ClS
  rw [List.lookup_cons]
  cases hb : n == m with
  | true => cases eq_of_beq hb; exact ⟨c, rfl, hc⟩
  | false => exact h.resolve_left fun q => by rw [q, beq_self_eq_true] at hb; cases hb
theorem closure_go (env : Env) (names : List (Str × NameKind)) : ∀ acc : List (Str × Addr), (∀ x ∈ names, x.2 = .free → ∃ c, env.cells.lookup x.1 = some c) →
    ∃ cl, (forIn names acc fun (x : Str × NameKind) (cs : List (Str × Addr)) => (if x.2 == .free then (do let c ← cellOf env x.1; pure (ForInStep.yield ((x.1, c) :: cs))) else pure (ForInStep.yield cs) : Sem _)) = pure cl ∧ (∀ n, ClS env acc n → ClS env cl n) ∧ ∀ n, (n, NameKind.free) ∈ names → ClS env cl n := by
  induction names with
  | nil => exact fun acc _ => ⟨acc, rfl, fun _ h => h, fun _ h => by cases h⟩
  | cons x r ih =>
    intro acc h
    have h' := fun y hy => h y (List.mem_cons_of_mem x hy)
    rw [List.forIn_cons]
    by_cases hk : x.2 = .free
    · obtain ⟨c, hc⟩ := h x List.mem_cons_self hk
      obtain ⟨cl, h1, h2, h3⟩ := ih ((x.1, c) :: acc) h'
      refine ⟨cl, ?_, fun n q => h2 n (.cons hc (.inr q)), fun n q => (List.mem_cons.mp q).elim (fun q => h2 n (.cons hc (.inl (congrArg Prod.fst q)))) (h3 n)⟩
      rw [if_pos (beq_iff_eq.mpr hk), show cellOf env x.1 = pure c by unfold cellOf; rw [hc]]
      exact h1
    · obtain ⟨cl, h1, h2, h3⟩ := ih acc h'
      refine ⟨cl, ?_, h2, fun n q => (List.mem_cons.mp q).elim (fun q => absurd (congrArg Prod.snd q).symm hk) (h3 n)⟩
      rw [if_neg (fun q => hk (beq_iff_eq.mp q))]
      exact h1
theorem closure_is {env : Env} {sc : Scope} (h : ∀ x ∈ sc.names, x.2 = .free → ∃ c, env.cells.lookup x.1 = some c) : ∃ cl, closureFor sc env = pure cl ∧ ∀ n, (n, NameKind.free) ∈ sc.names → ClS env cl n := by
  obtain ⟨cl, h1, _, h3⟩ := closure_go env sc.names [] h
  refine ⟨cl, ?_, h3⟩
  rw [← h1]
  unfold closureFor
  exact bind_pure (forIn sc.names [] _ : Sem (List (Str × Addr)))

theorem lookup_map {f : Str × NameKind → Str × NameKind} (hf : ∀ x, (f x).1 = x.1) (n : Str) (l : List (Str × NameKind)) : (l.map f).lookup n = (l.lookup n).map fun k => (f (n, k)).2 := by
  induction l with
  | nil => rfl
  | cons x r ih =>
    obtain ⟨m, k⟩ := x
    show List.lookup n (((f (m, k)).1, (f (m, k)).2) :: r.map f) = _
    rw [List.lookup_cons, List.lookup_cons, hf]
    cases hb : n == m with
    | true => cases eq_of_beq hb; rfl
    | false => exact ih
theorem crel1_fst (o : Scope) (x : Str × NameKind) : (crel1 o x).1 = x.1 := by
  unfold crel1; split <;> rfl
theorem crel_lookup (sc o : Scope) (n : Str) : (crelabel sc o).names.lookup n = (sc.names.lookup n).map fun k => (crel1 o (n, k)).2 := lookup_map (crel1_fst o) n sc.names
theorem crel1_cell {o : Scope} {n : Str} {k : NameKind} (h : (crel1 o (n, k)).2 = .cell) : k = .cell ∨ (k = .free ∧ o.names.lookup n = some .cell) := by
  unfold crel1 at h
  split at h
  · rename_i q
    have q := bb q
    exact .inr ⟨eq_of_beq (bb q.1).1, eq_of_beq q.2⟩
  · exact .inl h
theorem crel1_free {o : Scope} {n : Str} (hk : o.kind = .function) (h : o.names.lookup n = some .cell) : (crel1 o (n, .free)).2 = .cell := by
  unfold crel1
  rw [hk, h]; rfl
theorem crel1_local (o : Scope) (n : Str) : (crel1 o (n, .local)).2 = .local := rfl

structure ScOK (sc : Scope) : Prop where
  kind : sc.kind = .function
  nocell : ∀ x ∈ sc.names, x.2 ≠ .cell
  look : ∀ x ∈ sc.names, sc.names.lookup x.1 = some x.2
  nd : ((cnames sc).map (·.1)).Nodup
  dot : ∀ x ∈ sc.names, x.2 = .free → x.1 ≠ (".0" : Str)
theorem scope_parts {sc : Scope} (h : scopeOk sc = true) : ScOK sc :=
  have h1 := bb h
  have h2 := bb h1.1
  have h3 := bb h2.1
  have h4 := fun x hx => bb (List.all_eq_true.mp h3.2 x hx)
  ⟨eq_of_beq h3.1, fun x hx => bne_iff_ne.mp (h4 x hx).1, fun x hx => eq_of_beq (h4 x hx).2, of_decide_eq_true h1.2, fun x hx hf q => by
    have := nt (List.all_eq_true.mp h2.2 x hx)
    rw [hf, q] at this; cases this⟩
theorem cnames_mem {ns : Ns} {sc : Scope} {i : Nat} {n : Str} (h : (cns ns sc).vars[i]? = some n) : ∃ k, (cnames sc)[i]? = some (n, k) ∧ (n, k) ∈ sc.names := by
  obtain ⟨⟨m, k⟩, h1, h2⟩ := Option.map_eq_some_iff.mp (List.getElem?_map.symm.trans h)
  cases h2
  exact ⟨k, h1, (List.mem_filter.mp (List.mem_of_getElem? h1)).1⟩
theorem fv_at {ns : Ns} (l : List (Str × NameKind)) : ∀ {fv : List (Option Nat)}, fvOk ns l fv = true → ∀ {i : Nat} {x : Str × NameKind}, l[i]? = some x → ∃ o, fv[i]? = some o ∧ fvOk1 ns x o = true := by
  induction l with
  | nil => intro fv _ i x hx; cases hx
  | cons y r ih =>
    intro fv h i x hx
    obtain ⟨⟨⟨o, t⟩, rfl⟩, h⟩ := oB_true h
    cases i with
    | zero => cases hx; exact ⟨o, rfl, (bb h).1⟩
    | succ i => exact ih (bb h).2 (i := i) hx
/-- a name of a comprehension: its own, or a cell of the function's -/
theorem fv_kind {ns : Ns} {sc : Scope} {fv : List (Option Nat)} (hfv : fvOk ns (cnames sc) fv = true) {i : Nat} {n : Str} {k : NameKind} (h : (cnames sc)[i]? = some (n, k)) :
    (fv[i]? = some none ∧ k = .local) ∨ ∃ j, fv[i]? = some (some j) ∧ k = .free ∧ ns.vars[j]? = some n ∧ ns.scope.names.lookup n = some .cell := by
  obtain ⟨o, h1, h2⟩ := fv_at _ hfv h
  cases o with
  | none => exact .inl ⟨h1, eq_of_beq h2⟩
  | some j =>
    have h3 := bb h2
    exact .inr ⟨j, h1, eq_of_beq h3.1, eq_of_beq (bb h3.2).1, eq_of_beq (bb h3.2).2⟩
theorem sg_map (f : Option Nat → Slot) : ∀ (fv : List (Option Nat)) (x : Nat), sg (fv.map f) x = (fv[x]?).elim .un f
  | [], _ => rfl
  | _ :: _, 0 => rfl
  | _ :: r, x + 1 => sg_map f r x
theorem frzOf_frz {sl : List Slot} {o : Option Nat} {d : D} (h : frzOf sl o = .frz d) : ∃ j, o = some j ∧ sg sl j = .frz d := by
  cases o with
  | none => cases h
  | some j =>
    refine ⟨j, rfl, ?_⟩
    unfold frzOf at h
    cases hs : sg sl j with
    | frz d' => simp only [hs] at h; exact h
    | _ => simp only [hs] at h; cases h
theorem frzOf_own {sl : List Slot} {o : Option Nat} {l : List D} : frzOf sl o ≠ .own l := fun h => by
  cases o with
  | none => cases h
  | some j =>
    unfold frzOf at h
    cases hs : sg sl j with
    | frz d' => simp only [hs] at h; cases h
    | _ => simp only [hs] at h; cases h
theorem sgm_own {sl : List Slot} {fv : List (Option Nat)} {x : Nat} {l : List D} : sg (fv.map (frzOf sl)) x ≠ .own l := fun h => by
  rw [sg_map] at h
  cases e : fv[x]? with
  | none => rw [e] at h; cases h
  | some o => rw [e] at h; exact frzOf_own h

theorem Ctx.weak {h₀ : Heap} {A : Around} {lvl lvl' : Nat} {l : List Env} {Hd H : HMap} (X : Ctx h₀ lvl A l Hd) (h : lvl' ≤ lvl) (hl : Le Hd H) : Ctx h₀ lvl' A l H :=
  { X.lower h with ff := fun hh ha => X.ff hh fun a o e => ha a o (hl a o e), fd := fun e he L hL => let ⟨o, es, n, h1, h2⟩ := X.fd e he L hL; ⟨o, es, n, hl _ _ h1, h2⟩ }

section
variable {Z : Zt} {A : Around} {G Hd H H0 : HMap} {env : Env} {ns : Ns} {sl : List Slot} {sc : Scope} {fv : List (Option Nat)} {cl : List (Str × Addr)} {Cc : Addr}
theorem EnvOK.kindOf (V : EnvOK Z G Hd env ns sl) (n : Str) : env.kindOf n = ns.scope.names.lookup n := by unfold Env.kindOf; rw [V.scope]
theorem comp_kind (V : EnvOK Z G Hd env ns sl) (n : Str) : (compEnvC sc cl Cc env).kindOf n = (sc.names.lookup n).map fun k => (crel1 ns.scope (n, k)).2 := by
  rw [← crel_lookup, ← V.scope]; rfl
theorem comp_local (V : EnvOK Z G Hd env ns sl) {n : Str} (h : sc.names.lookup n = some .local) : (compEnvC sc cl Cc env).kindOf n = some .local := by
  rw [comp_kind V, h]; rfl
theorem comp_cell (V : EnvOK Z G Hd env ns sl) {n : Str} (h : sc.names.lookup n = some .free) (hk : ns.scope.names.lookup n = some .cell) : (compEnvC sc cl Cc env).kindOf n = some .cell := by
  rw [comp_kind V, h]; exact congrArg some (crel1_free V.kind hk)
/-- a cell of a comprehension is the function's -/
theorem comp_cells (V : EnvOK Z G Hd env ns sl) (s : ScOK sc) (hcl : ∀ n, (n, NameKind.free) ∈ sc.names → ClS env cl n) {n : Str} (h : (compEnvC sc cl Cc env).kindOf n = some .cell) : ∃ c v, cl.lookup n = some c ∧ CellAt Hd c v := by
  rw [comp_kind V] at h
  obtain ⟨k, h1, h2⟩ := Option.map_eq_some_iff.mp h
  have hm := mem_of_lookup h1
  rcases crel1_cell h2 with q | ⟨q, h3⟩
  · exact absurd q (s.nocell _ hm)
  · subst q
    obtain ⟨c, h4, h5⟩ := hcl n hm
    obtain ⟨c', v, h6, h7⟩ := V.cells n ((V.kindOf n).trans h3)
    rw [h5] at h6; cases h6
    exact ⟨c, v, h4, h7⟩
theorem CellAt.mono (l : Le Hd H) {c : Addr} {v : Option Value} (x : CellAt Hd c v) : CellAt H c v := let ⟨o, a, b⟩ := x; ⟨o, l _ _ a, b⟩
/-- the frame of a comprehension -/
theorem comp_frame (V : EnvOK Z G Hd env ns sl) (s : ScOK sc) (hfv : fvOk ns (cnames sc) fv = true) (hcl : ∀ n, (n, NameKind.free) ∈ sc.names → ClS env cl n) (le0 : Le Hd H0) (hle : Le H0 H) (hC : DictAt H Cc) (hp : H0 Cc = none ∧ Z.h₀.get? Cc = none) :
    FrS Z G H0 H (compEnvC sc cl Cc env) (cns ns sc) (fv.map (frzOf sl)) where
  st := {
    scope := by show relabel sc env = crelabel sc ns.scope; rw [← V.scope]; rfl
    kind := s.kind
    glob := V.glob
    blt := V.blt
    nd := s.nd
    kinds := fun n hn => by
      obtain ⟨i, hi⟩ := List.mem_iff_getElem?.mp hn
      obtain ⟨k, h1, h2⟩ := cnames_mem hi
      rcases fv_kind hfv h1 with ⟨_, rfl⟩ | ⟨j, _, rfl, _, q⟩
      · exact .inl (comp_local V (s.look _ h2))
      · exact .inr (comp_cell V (s.look _ h2) q) }
  le := hle
  L := hC
  Lp := hp
  cells := fun n hn => let ⟨c, v, h1, h2⟩ := comp_cells V s hcl hn; ⟨c, v, h1, (h2.mono le0).mono hle⟩
  vars := fun x n hx => by
    obtain ⟨k, h1, h2⟩ := cnames_mem hx
    cases ht : sg (fv.map (frzOf sl)) x with
    | un => trivial
    | own l => exact absurd ht sgm_own
    | frz d =>
      rw [sg_map] at ht
      rcases fv_kind hfv h1 with ⟨q, _⟩ | ⟨j, q, rfl, q2, q3⟩
      · rw [q] at ht; cases ht
      · rw [q] at ht
        obtain ⟨j', e, hj⟩ := frzOf_frz (o := some j) ht
        cases e
        obtain ⟨c, v, k1, k2, k3⟩ := V.cellv j n d q2 hj ((V.kindOf n).trans q3)
        obtain ⟨c', k4, k5⟩ := hcl n h2
        rw [k1] at k5; cases k5
        exact ⟨v, loc_cell (comp_cell V (s.look _ h2) q3) k4 ((k2.mono le0).mono hle), k3⟩
  inj := fun x y l l' n n' a _ h1 => absurd h1 sgm_own
end

/-- what a comprehension's turn does after its item is bound -/
noncomputable def TurnW (M : Model) (A : Around) (R : Result → Shared → Prop) (ifs : List Expr) (elt : Expr) (acc : Value) (env : Env) (J : Shared → Prop) (s : Shared) : Prop :=
  wpAny M A (forIn ifs true fun c r => if r = true then do let ok ← isTrue c env (eval c env); pure (ForInStep.yield ok) else pure (ForInStep.yield r)) (fun ok s₃ =>
    if ok = true then wpAny M A (eval elt env) (fun x s₄ => wpAny M A (call (.builtin "list.append") [acc, x]) (fun _ s₅ => J s₅) (notedBy M A env fun e s' => R (.error e) s') s₄) (notedBy M A env fun e s' => R (.error e) s') s₃
    else J s₃) (notedBy M A env fun e s' => R (.error e) s') s
theorem codeAny_compLoop_own {Z : Zt} {A : Around} {elt target iter : Expr} {ifs : List Expr} {scope : Scope} {pos : Pos} {it acc : Value} {env : Env} {R : Result → Shared → Prop} (I : Nat → Shared → Prop)
    (turn : ∀ n s, I n s → wpAny Z.M A (pyNext it) (fun r s₁ => match r with
      | none => R (.ok .next) s₁
      | some v => wpAny Z.M A (letOwnedTupleGo target it v) (fun _ s₁ => wpAny Z.M A (assign target env v) (fun _ s₂ => TurnW Z.M A R ifs elt acc env (fun s => ∃ m, m < n ∧ I m s) s₂) (notedBy Z.M A env fun e s' => R (.error e) s') s₁)
            (notedBy Z.M A env fun e s' => R (.error e) s') s₁) (notedBy Z.M A env fun e s' => R (.error e) s') s)
    (n : Nat) {s : Shared} (h : I n s) :
    codeAny Z.M A (.compLoop (.ListComp elt [⟨target, iter, ifs, 0⟩] scope pos) 0 it acc env) R s := by
  refine codeAny_loop rfl I (fun n s hI => ?_) n h
  show wpAny _ A ((compTurn (.ListComp elt [⟨target, iter, ifs, 0⟩] scope pos) 0 it acc env).onRaise (fun x => do noteFrame x env; theTreesLotGoes x)) _ _ s
  refine wpAny_noted ?_
  rw [compTurn_list]
  refine wpAny_bind (wpAny_standAt (wpAny_bind (wpAny_mono (turn n s hI) (fun r s₁ h₁ => ?_) fun _ _ h' => h')))
  cases r with
  | none => exact wpAny_pure h₁
  | some v =>
    refine wpAny_bind (wpAny_mono h₁ (fun _ s₁ h₁ => ?_) fun _ _ h' => h')
    refine wpAny_bind (wpAny_mono h₁ (fun _ s₂ h₂ => wpAny_bind (wpAny_mono h₂ (fun ok s₃ h₃ => ?_) fun _ _ h' => h')) fun _ _ h' => h')
    cases ok with
    | false => exact wpAny_pure ⟨rfl, h₃⟩
    | true =>
      exact wpAny_bind (wpAny_bind (wpAny_mono h₃ (fun x s₄ h₄ => wpAny_bind (wpAny_mono h₄ (fun _ s₅ h₅ => wpAny_pure (wpAny_pure ⟨rfl, h₅⟩)) fun _ _ h' => h')) fun _ _ h' => h'))
end Mini
end
section -- P19
namespace Mini
open PySem PySem.W PyProof.Rows

noncomputable def lobj (items : Array Value) (n : Nat) : Obj := { cls := .type "list", dict := none, data := .seq items n, slots := #[] }
theorem lobj_nd {items : Array Value} {k : Nat} (es : Array DictEntry) (n : Nat) : (lobj items k).data ≠ .dict es n := fun e => by cases e

theorem setAll_other (tg : List Nat) : ∀ (ds : List D) (sl : List Slot) {x : Nat}, x ∉ tg → sg (setAll tg ds sl) x = sg sl x := by
  induction tg with
  | nil => exact fun _ _ _ _ => rfl
  | cons y ys ih =>
    intro ds sl x h
    cases ds with
    | nil => rfl
    | cons d ds => exact (ih ds _ fun q => h (List.mem_cons_of_mem _ q)).trans (sg_set sl y (.frz d) x fun q => h (q ▸ List.mem_cons_self))
theorem bindW_other {tg : List Nat} {isT : Bool} {d : D} {sl : List Slot} {K : List Slot → Prop} (h : bindW tg isT d sl K) : bindW tg isT d sl fun s => K s ∧ ∀ x, x ∉ tg → sg s x = sg sl x := by
  cases isT with
  | false =>
    rcases tg with _ | ⟨x, _ | ⟨_, _⟩⟩
    · exact h
    · exact ⟨h, fun y hy => sg_set sl x (.frz d) y fun q => hy (q ▸ List.mem_cons_self)⟩
    · exact h
  | true =>
    cases d with
    | tup ds => exact ⟨h.1, h.2, fun x hx => setAll_other tg ds sl hx⟩
    | _ => exact h
/-- what is left of a row -/
noncomputable def Row (ds : List D) (i : Nat) (r : List D) : Prop := ∃ pre, ds = pre ++ r ∧ pre.length = i
theorem Row.zero (ds : List D) : Row ds 0 ds := ⟨[], rfl, rfl⟩
theorem Row.nil {ds : List D} {i : Nat} (h : Row ds i []) : i = ds.length := let ⟨pre, e, hl⟩ := h; by rw [e, List.append_nil]; exact hl.symm
theorem Row.cons {ds r : List D} {i : Nat} {d : D} (h : Row ds i (d :: r)) : ds[i]? = some d ∧ Row ds (i + 1) r := by
  obtain ⟨pre, e, rfl⟩ := h
  refine ⟨by rw [e, List.getElem?_append_right (Nat.le_refl _), Nat.sub_self]; rfl, pre ++ [d], by rw [e, List.append_assoc]; rfl, List.length_append⟩
theorem Row.le {ds r : List D} {i : Nat} (h : Row ds i r) : i ≤ ds.length := let ⟨pre, e, hl⟩ := h; by rw [e, List.length_append, hl]; exact Nat.le_add_right _ _

/-- a comprehension that runs -/
structure Cm (Z : Zt) where
  F : Fm Z
  sc : Scope
  tg : List Nat
  isT : Bool
  elt : Ex
  cond : Ex
  t : Expr
  e' : Expr
  ifs : List Expr
  cenv : Env
  base : List Slot
  I : Addr
  D0 : Addr
  fp : List Addr
  wr : List Addr
  St : Nat → Heap → Prop
  G1 : HMap
  ds : List D
  s2 : Shared
  K : List D → Pool → Prop

section
variable {Z : Zt} {G Hd H : HMap} {p : Pool} {s : Shared} {env : Env} {ns : Ns} {sl : List Slot}
theorem FrS.forget {sl1 : List Slot} (F : FrS Z G Hd H env ns sl1) (h : ∀ x n, ns.vars[x]? = some n → sg sl x = .un ∨ sg sl1 x = sg sl x) : FrS Z G Hd H env ns sl :=
  { F with
    vars := fun x n hn => (h x n hn).elim (fun q => by rw [q]; trivial) fun q => q ▸ F.vars x n hn
    inj := fun x y l l' n n' a h1 h2 h3 h4 h5 => F.inj x y l l' n n' a h1 ((h x n h4).elim (fun q => by rw [q] at h2; cases h2) fun q => q.trans h2) ((h y n' h5).elim (fun q => by rw [q] at h3; cases h3) fun q => q.trans h3) h4 h5 }

variable (c : Cm Z)
noncomputable abbrev Cm.cn : Ns := cns c.F.ns c.sc
noncomputable def Cm.W (r acc : List D) (p : Pool) : Prop :=
  compW (fun s q K => ev Z.C c.cond s q (fun _ d q => asB d fun b => K b q) (fun _ => False)) (fun s q K => ev Z.C c.elt s q (fun _ d q => K d q) (fun _ => False)) c.tg c.isT c.base r acc p c.K
structure Cm.OK : Prop where
  I1 : Snd Z c.elt
  I2 : Snd Z c.cond
  htg : tgOk c.cn c.tg c.isT c.t = true
  hloc : ∀ x ∈ c.tg, ∀ n, c.cn.vars[x]? = some n → c.cenv.kindOf n = some .local
  hun : ∀ x ∈ c.tg, sg c.base x = .un
  h1 : ckE c.cn c.elt c.e' = true
  h2 : (c.ifs = [] ∧ ckE c.cn c.cond (.Constant (.bool true) 0 default) = true) ∨ ∃ x, c.ifs = [x] ∧ ckE c.cn c.cond x = true
  W : Wk Z.prog Z.w Z.h₀ Z.P c.F.A c.isT c.G1 c.I c.fp c.wr c.ds c.St
  hD : c.F.Hd c.D0 = none
  hDb : Z.h₀.get? c.D0 = none
  hl : c.ds.length ≤ lim
/-- where it stands between two turns -/
structure Cm.At (i : Nat) (r acc : List D) (G : HMap) (p : Pool) (H : HMap) (items : Array Value) (k : Nat) (s : Shared) : Prop where
  row : Row c.ds i r
  len : acc.length ≤ i
  le : Le c.G1 G
  sm : Sm c.s2 s
  S : StOK Z.h₀ Z.P G H p s
  F : FrS Z G (addG c.F.Hd c.D0 (lobj items k)) H c.cenv c.cn c.base
  rep : VReps Z.P G items.toList acc
  B : Stand Z c.St c.fp c.wr i G H p s
inductive Cm.Inv (n : Nat) (s : Shared) : Prop
  | mk (i : Nat) (r acc : List D) (G : HMap) (p : Pool) (H : HMap) (items : Array Value) (k : Nat) : n = r.length → c.At i r acc G p H items k s → c.W r acc p → Cm.Inv n s
/-- where it stands in a turn, the walk's own objects held aside -/
structure Cm.Mid (i : Nat) (r acc : List D) (G H K : HMap) (sl : List Slot) (items : Array Value) (k : Nat) (s : Shared) : Prop where
  row : Row c.ds (i + 1) r
  len : acc.length ≤ i
  le : Le c.G1 G
  sm : Sm c.s2 s
  V : EnvOK Z G H c.cenv c.cn sl
  F : FrS Z G (addG c.F.Hd c.D0 (lobj items k)) (dropM H K) c.cenv c.cn c.base
  rep : VReps Z.P G items.toList acc
  hD4 : H c.D0 = some (lobj items k)
  KD : K c.D0 = none
  lK : Le K H
  X : Ctx Z.h₀ 0 c.F.A c.F.l H
  back : ∀ G2 H2 p2 s2, StOK Z.h₀ Z.P G2 H2 p2 s2 → Le G G2 → Le K H2 → Stand Z c.St c.fp c.wr (i + 1) G2 (dropM H2 K) p2 s2

variable {c} {i : Nat} {r acc : List D} {K : HMap} {items : Array Value} {k : Nat}
/-- the end of a turn without an item -/
theorem Cm.Mid.fin0 {G2 : HMap} {p2 : Pool} {s2 : Shared} (m : c.Mid i r acc G H K sl items k s) (n : Nxt Z.h₀ Z.P G H s G2 p2 s2) (h : c.W r acc p2) : c.Inv r.length s2 :=
  .mk (i + 1) r acc G2 p2 (dropM H K) items k rfl ⟨m.row, Nat.le_succ_of_le m.len, m.le.trans n.le, m.sm.trans n.sm, n.st.weak (dropM_le _ _), m.F.monoG n.le, m.rep.mono n.le, m.back _ _ _ _ n.st n.le m.lK⟩ h
theorem sizeLine_lim : lim ≤ sizeLine := by decide
/-- and with one -/
theorem Cm.Mid.fin1 {G2 : HMap} {p2 : Pool} {s2 : Shared} {v : Value} {d : D} {J : Shared → Prop} {E : Value → Shared → Prop} (O : c.OK) (m : c.Mid i r acc G H K sl items k s) (n : Nxt Z.h₀ Z.P G H s G2 p2 s2) (hv : VRep Z.P G2 v d) (h : c.W r (acc ++ [d]) p2)
    (hJ : ∀ s, c.Inv r.length s → J s) : wpAny Z.M c.F.A (call (.builtin "list.append") [.ref c.D0, v]) (fun _ s => J s) E s2 := by
  have hpl : s2.heap.PlainList c.D0 items := ⟨k, n.st.agrH.exact m.hD4 lobj_nd⟩
  refine wpAny_list_append_plain hpl (fun h' hl' hs' => ?_) (by rw [size_of m.rep]; exact Nat.le_trans m.len (Nat.le_trans (Nat.le_of_succ_le m.row.le) (Nat.le_trans O.hl sizeLine_lim)))
  obtain ⟨k1, hk1⟩ := hl'
  have S6 := n.st.turn (a := c.D0) (o' := lobj (items.push v) k1) (h' := h') (t := s2.toks) m.hD4 O.hDb hs' hk1
  have kD : ∀ {b : Addr} {o : Obj}, K b = some o → b ≠ c.D0 := fun e q => by rw [q, m.KD] at e; cases e
  refine hJ _ (.mk (i + 1) r (acc ++ [d]) G2 p2 (dropM (addG H c.D0 (lobj (items.push v) k1)) K) (items.push v) k1 rfl ⟨m.row, by rw [List.length_append]; exact Nat.succ_le_succ m.len, m.le.trans n.le, m.sm.trans (n.sm.trans (.heap ..)), S6.weak (dropM_le _ _), ?_, ?_, m.back _ _ _ _ S6 n.le fun b o e => (addG_ne (kD e)).trans (m.lK b o e)⟩ h)
  · exact (m.F.monoG n.le).swap (a := c.D0) addG_self (fun v e => by cases e) (fun b hb => (addG_ne hb).trans (addG_ne hb).symm) (fun b hb => congrArg (fun x => (K b).elim x fun _ => none) (addG_ne hb)) (by rw [dropM_not m.KD, addG_self, addG_self])
  · rw [Array.toList_push]
    exact (m.rep.mono n.le).append (.one hv)
noncomputable def Cm.Mid.fm (m : c.Mid i r acc G H K sl items k s) : Fm Z := ⟨c.cn, c.F.A, c.F.l, c.cenv, sl, H, m.X⟩
theorem Cm.Mid.item {G2 : HMap} {p2 : Pool} {s2 : Shared} {J : Shared → Prop} {E : Value → Shared → Prop} (O : c.OK) (m : c.Mid i r acc G H K sl items k s) (n : Nxt Z.h₀ Z.P G H s G2 p2 s2) (h : ev Z.C c.elt sl p2 (fun _ d q => c.W r (acc ++ [d]) q) (fun _ => False))
    (hJ : ∀ s, c.Inv r.length s → J s) : wpAny Z.M c.F.A (eval c.e' c.cenv) (fun x s₄ => wpAny Z.M c.F.A (call (.builtin "list.append") [.ref c.D0, x]) (fun _ s₅ => J s₅) E s₄) E s2 :=
  O.I1.d (F := m.fm) O.h1 h ⟨m.V.mono n.le, n.st⟩ (fun _ _ _ q _ => q.elim) fun _ d q v G3 s3 h n3 hv => m.fin1 O (n.trans n3) hv h hJ
theorem Cm.Mid.turn {J : Shared → Prop} {R : Result → Shared → Prop} (O : c.OK) (m : c.Mid i r acc G H K sl items k s) (S : StOK Z.h₀ Z.P G H p s)
    (h : ev Z.C c.cond sl p (fun _ d q => asB d fun b => brW b (ev Z.C c.elt sl q (fun _ d q => c.W r (acc ++ [d]) q) (fun _ => False)) (c.W r acc q)) (fun _ => False))
    (hJ : ∀ s, c.Inv r.length s → J s) : TurnW Z.M c.F.A R c.ifs c.e' (.ref c.D0) c.cenv J s := by
  unfold TurnW
  rcases O.h2 with ⟨hi, hc⟩ | ⟨x, hi, hc⟩
  · rw [hi]
    refine wpAny_tests_nil ?_
    rw [if_pos rfl]
    rw [ck_true hc] at h
    exact m.item O S.nxt (h.1 rfl) hJ
  · rw [hi]
    refine wpAny_tests_one (O.I2.t m.fm hc h ⟨m.V, S⟩ (fun b q G2 s2 h n => ?_) fun _ _ _ q _ => q.elim)
    cases b with
    | true => rw [if_pos rfl]; exact m.item O n (h.1 rfl) hJ
    | false => rw [if_neg (by decide)]; exact hJ _ (m.fin0 n (h.2 rfl))

/-- when it is through -/
structure CEnd (Z : Zt) (Hd G1 : HMap) (s2 : Shared) (D0 Cc : Addr) (tot : List D) (q : Pool) (G : HMap) (oC : Obj) (s : Shared) : Prop where
  n : Nxt Z.h₀ Z.P G1 Hd s2 G q s
  S : StOK Z.h₀ Z.P G (addG Hd Cc oC) q s
  L : NewL Z.h₀ Z.P G (addG Hd Cc oC) q s.heap D0 tot
  d : ∃ es ep, oC.data = .dict es ep ∧ StrKeys es
  ne : D0 ≠ Cc
  hC : Hd Cc = none
  hb : Z.h₀.get? Cc = none
theorem Cm.At.fin {R : Result → Shared → Prop} {E : Value → Shared → Prop} (O : c.OK) (a : c.At i [] acc G p H items k s) (h : ∀ G' oC s', CEnd Z c.F.Hd c.G1 c.s2 c.D0 c.cenv.locals acc p G' oC s' → R (.ok .next) s') :
    wpAny Z.M c.F.A (pyNext (.ref c.I)) (fun r s₁ => match r with | none => R (.ok .next) s₁ | some _ => False) E s := by
  have B := a.B
  rw [a.row.nil] at B
  refine O.W.done s G H p _ _ a.S B.wr B.st fun s' n => ?_
  obtain ⟨oC, es, ep, hC, hd⟩ := a.F.L
  have hDH : H c.D0 = some (lobj items k) := a.F.le _ _ addG_self
  have ne : c.D0 ≠ c.cenv.locals := fun q => by have := a.F.Lp.1; rw [← q, addG_self] at this; cases this
  have hCn : c.F.Hd c.cenv.locals = none := (addG_ne ne.symm).symm.trans a.F.Lp.1
  have lw : Le (addG c.F.Hd c.cenv.locals oC) H := fun b o e => (addG_of e).elim (fun q => by rw [q.1, ← q.2]; exact hC) fun q => a.F.le b o ((addG_ne fun w => by rw [w, O.hD] at q; cases q.2).trans q.2)
  exact h G oC s' ⟨⟨a.le.trans n.le, n.st.weak ((addG_le hCn).trans lw), a.sm.trans n.sm⟩, n.st.weak lw, ⟨n.st.notG hDH, (addG_ne ne).trans O.hD, O.hDb, n.st.notP hDH, items, k, n.st.agrH.exact hDH lobj_nd, a.rep⟩, ⟨es, ep, hd⟩, ne, hCn, a.F.Lp.2⟩
/-- a turn -/
theorem Cm.At.turn {d : D} {R : Result → Shared → Prop} {J : Shared → Prop} {E : Value → Shared → Prop} (O : c.OK) (a : c.At i (d :: r) acc G p H items k s) (h : c.W (d :: r) acc p) (hJ : ∀ s, c.Inv r.length s → J s) :
    wpAny Z.M c.F.A (pyNext (.ref c.I)) (fun x s1 => ∃ v, x = some v ∧ wpAny Z.M c.F.A (letOwnedTupleGo c.t (.ref c.I) v) (fun _ s₁ => wpAny Z.M c.F.A (assign c.t c.cenv v) (fun _ s₂ => TurnW Z.M c.F.A R c.ifs c.e' (.ref c.D0) c.cenv J s₂) E s₁) E s1) E s := by
  refine O.W.next a.row.cons.1 (bindT_TgtOK O.htg) a.le a.S a.B fun v G3 s3 K n hv dis S3 back => ?_
  have hb : bindW c.tg c.isT d c.base fun sl => ev Z.C c.cond sl p (fun _ d q => asB d fun b => brW b (ev Z.C c.elt sl q (fun _ d q => c.W r (acc ++ [d]) q) (fun _ => False)) (c.W r acc q)) (fun _ => False) := h
  refine assign_tg c.F.X.handled O.htg hv (bindW_other hb) ((a.F.monoG n.le).addM dis) S3 (fun x hx n hn => .inl (O.hloc x hx n hn)) fun s4 H4 sl1 hs sm4 S4 F4 => ?_
  have hKD : K c.D0 = none := dis.of (a.F.le _ _ addG_self)
  have leHd : Le c.F.Hd H4 := (addG_le O.hD).trans ((addM_left (dis.weak a.F.le)).trans F4.le)
  have m : c.Mid i r acc G3 H4 K sl1 items k s4 := ⟨a.row.cons.2, a.len, a.le.trans n.le, a.sm.trans (n.sm.trans sm4), F4.envOK, (FrS.dropM a.F dis F4).forget fun x _ _ => (Decidable.em (x ∈ c.tg)).imp (O.hun x) (hs.2 x), a.rep.mono n.le,
    F4.le _ _ ((addM_not hKD).trans addG_self), hKD, (addM_right _ K).trans F4.le, c.F.X.weak (Nat.zero_le _) leHd, back⟩
  exact m.turn O S4 hs.1 hJ
/-- the loop of a comprehension -/
theorem comp_loop {i' : Expr} {pos : Pos} {R : Result → Shared → Prop} (O : c.OK) (h : ∀ acc q G oC s, c.K acc q → CEnd Z c.F.Hd c.G1 c.s2 c.D0 c.cenv.locals acc q G oC s → R (.ok .next) s) {n : Nat} {s : Shared} (hI : c.Inv n s) :
    codeAny Z.M c.F.A (.compLoop (.ListComp c.e' [⟨c.t, i', c.ifs, 0⟩] c.sc pos) 0 (.ref c.I) (.ref c.D0) c.cenv) R s := by
  refine codeAny_compLoop_own c.Inv (fun n s hI => ?_) n hI
  obtain ⟨i, r, acc, G, p, H, items, k, rfl, a, hw⟩ := hI
  cases r with
  | nil => exact wpAny_mono (a.fin O fun G' oC s' e => h acc p G' oC s' hw e) (fun x s1 q => by cases x with | none => exact q | some _ => exact q.elim) fun _ _ q => q
  | cons d r =>
    refine wpAny_mono (a.turn (R := R) (J := fun s => ∃ m, m < (d :: r).length ∧ c.Inv m s) O hw fun s q => ⟨r.length, Nat.lt_succ_self _, q⟩) ?_ fun _ _ q => q
    rintro x s1 ⟨v, rfl, q⟩
    exact q
end
end Mini
end
section -- P20
namespace Mini
open PySem PySem.W PyProof.Rows

section
variable {Z : Zt} {G Hd H : HMap} {p : Pool} {s : Shared} {env : Env} {ns : Ns}
theorem foldNot {x : Ex} {i : Expr} (h : ckI ns x i = true) (v : Value) : foldedSetIterable i env v = pure v := by
  cases i <;> first | rfl | skip
  rw [ck_set] at h; cases h
/-- a thing that stands is held -/
theorem StOK.hold {a : Addr} {o : Obj} (S : StOK Z.h₀ Z.P G Hd p s) (ho : s.heap.get? a = some o) (hg : G a = none) (hp : p = none ∨ a ≠ Z.P) : StOK Z.h₀ Z.P G (addG Hd a o) p s where
  agrG := S.agrG
  agrH := fun b ob e => (addG_of e).elim (fun q => .inl (by rw [q.1, ← q.2]; exact ho)) fun q => S.agrH b ob q.2
  sep := fun b ob e => (addG_ne fun q => by rw [q, hg] at e; cases e).trans (S.sep b ob e)
  base := S.base
  pool := fun q e => let ⟨h1, h2, h3, h4⟩ := S.pool q e; ⟨h1, h2, (addG_ne fun w => hp.resolve_left (by rw [e]; exact nofun) w.symm).trans h3, h4⟩

section
variable {tg : List Nat} {isT : Bool} {fv : List (Option Nat)} {elt it cond : Ex} {e' t i : Expr} {ifs : List Expr} {sc : Scope}
theorem CmK.own (K : CmK ns tg isT fv elt it cond e' t i ifs sc) {x : Nat} (hx : x ∈ tg) : ∃ n, (cnames sc)[x]? = some (n, .local) := by
  have h := List.all_eq_true.mp K.hloc x hx
  obtain ⟨⟨n, k⟩, h1, h2⟩ := Option.map_eq_some_iff.mp (eq_of_beq h)
  cases h2
  exact ⟨n, h1⟩
theorem CmK.un (K : CmK ns tg isT fv elt it cond e' t i ifs sc) (sl : List Slot) {x : Nat} (hx : x ∈ tg) : sg (fv.map (frzOf sl)) x = .un := by
  obtain ⟨n, h⟩ := K.own hx
  rcases fv_kind K.hfv h with ⟨q, _⟩ | ⟨_, _, q, _⟩
  · rw [sg_map, q]; rfl
  · cases q
theorem CmK.loc (K : CmK ns tg isT fv elt it cond e' t i ifs sc) {sl : List Slot} (V : EnvOK Z G Hd env ns sl) {cl : List (Str × Addr)} {Cc : Addr} {x : Nat} (hx : x ∈ tg) {n : Str} (hn : (cns ns sc).vars[x]? = some n) : (compEnvC sc cl Cc env).kindOf n = some .local := by
  obtain ⟨k, q1, q2⟩ := cnames_mem hn
  obtain ⟨m, h⟩ := K.own hx
  rw [h] at q1; cases q1
  exact comp_local V ((scope_parts K.hsc).look _ q2)
theorem CmK.free (K : CmK ns tg isT fv elt it cond e' t i ifs sc) {sl : List Slot} (V : EnvOK Z G Hd env ns sl) {x : Str × NameKind} (hx : x ∈ sc.names) (hf : x.2 = .free) : ∃ c, env.cells.lookup x.1 = some c := by
  have hm : x ∈ cnames sc := List.mem_filter.mpr ⟨hx, bne_iff_ne.mpr ((scope_parts K.hsc).dot x hx hf)⟩
  obtain ⟨j, hj⟩ := List.mem_iff_getElem?.mp hm
  rcases fv_kind K.hfv (n := x.1) (k := x.2) hj with ⟨_, q⟩ | ⟨_, _, _, _, q⟩
  · rw [hf] at q; cases q
  · obtain ⟨c, _, h, _⟩ := V.cells x.1 ((V.kindOf _).trans q)
    exact ⟨c, h⟩

/-- where a comprehension begins -/
theorem comp_start {pos pos' : Pos} {use : Option (Value → Sem Unit)} {Q E : Value → Shared → Prop} {F : Fm Z} (I1 : Snd Z elt) (I2 : Snd Z cond) (K : CmK F.ns tg isT fv elt it cond e' t i ifs sc) {Φ : List D → Pool → Prop} {l : List D} {itv : Value} {cl : List (Str × Addr)} (hl : l.length ≤ lim)
    (hcl : ∀ n, (n, NameKind.free) ∈ sc.names → ClS F.env cl n)
    (h : compW (fun s q K => Mini.ev Z.C cond s q (fun _ d q => asB d fun b => K b q) (fun _ => False)) (fun s q K => Mini.ev Z.C elt s q (fun _ d q => K d q) (fun _ => False)) tg isT (fv.map (frzOf F.sl)) l [] p Φ)
    (o : F.On G p s) (hw : Walked Z F.A isT G F.Hd p s l itv) (hfin : ∀ tot q D0 Cc G' oC s', Φ tot q → CEnd Z F.Hd G s D0 Cc tot q G' oC s' → compPost Z.M F.A E use Q (.ref D0) Cc (.ok .next) s') :
    wpAny Z.M F.A (newList []) (fun acc s₃ => wpAny Z.M F.A (newFunctionEnv sc F.env.globals cl [] F.env.qual none .none (some F.env)) (fun cenv s₄ =>
        codeAny Z.M F.A (.compStart (.ListComp e' [⟨t, i, ifs, 0⟩] sc pos) 0 itv acc { cenv with scope := relabel sc F.env }) (compPost Z.M F.A E use Q acc cenv.locals) s₄) E s₃) E s := by
  obtain ⟨W, st0, W0, hfp⟩ := hw
  rename_i I fp wr St
  have sp := scope_parts K.hsc
  have n3 := o.S.newL (items := #[]) (l := []) .nil
  refine wpAny_newList ?_
  refine wpAny_newFunctionEnv sp.nocell (fun y hy => by cases hy) (fun h₁ hns₁ hsb₁ => ?_) sp.kind
  have f := n3.1.st.fresh (a := (s.heap.push { cls := .type "list", data := .seq #[] }).objs.size) (Nat.le_refl _)
  obtain ⟨oC, es, ep, hC, hCd, hCk, _⟩ := id hns₁
  have kp3 : ∀ a o, (s.heap.push { cls := .type "list", data := .seq #[] }).get? a = some o → h₁.get? a = some o := fun a o e =>
    (hsb₁.2 a (fun q => by rw [q] at e; exact absurd (e.symm.trans f.h) nofun)).trans (Heap.get?_push_of_some _ e)
  have n4 := n3.1.st.nxtK (h := h₁) (t := s.toks + ([] : List (Str × Value)).length) kp3
  have hD0 : h₁.get? s.heap.objs.size = some (lobj #[] 0) := kp3 _ _ (Heap.get?_push_size _ rfl)
  have S6 := (n4.st.hold hD0 n3.2.g n3.2.p).hold hC f.g f.p
  have ne : (s.heap.push { cls := .type "list", data := .seq #[] }).objs.size ≠ s.heap.objs.size := by
    rw [Heap.size_push]; exact Nat.succ_ne_self _
  have fC : s.heap.get? (s.heap.push { cls := .type "list", data := .seq #[] }).objs.size = none := get?_fresh (by rw [Heap.size_push]; exact Nat.le_succ _)
  have off : ∀ b, NotD s.heap b → addG (addG F.Hd s.heap.objs.size (lobj #[] 0)) (s.heap.push { cls := .type "list", data := .seq #[] }).objs.size oC b = F.Hd b := fun b hb => by
    obtain ⟨o, ho, _⟩ := hb
    exact (addG_ne fun q => by rw [q, fC] at ho; cases ho).trans (addG_ne fun q => by rw [q, get?_fresh (Nat.le_refl _)] at ho; cases ho)
  have hH0C : addG F.Hd s.heap.objs.size (lobj #[] 0) (s.heap.push { cls := .type "list", data := .seq #[] }).objs.size = none := (addG_ne ne).trans f.hd
  have fr := comp_frame o.V sp K.hfv hcl (Cc := (s.heap.push { cls := .type "list", data := .seq #[] }).objs.size) (addG_le n3.2.hd) (addG_le hH0C) ⟨oC, es, ep, addG_self, hCd, hCk⟩ ⟨hH0C, f.b⟩
  let c : Cm Z := { F := F, sc := sc, tg := tg, isT := isT, elt := elt, cond := cond, t := t, e' := e', ifs := ifs, cenv := compEnvC sc cl (s.heap.push { cls := .type "list", data := .seq #[] }).objs.size F.env, base := fv.map (frzOf F.sl), I := I, D0 := s.heap.objs.size, fp := fp, wr := wr, St := St, G1 := G, ds := l, s2 := s, K := Φ }
  have B : Stand Z St fp wr 0 G (addG (addG F.Hd s.heap.objs.size (lobj #[] 0)) (s.heap.push { cls := .type "list", data := .seq #[] }).objs.size oC) p { s with heap := h₁, toks := s.toks + ([] : List (Str × Value)).length } :=
    ⟨W.frame _ _ _ st0 fun b _ o e => kp3 b o (Heap.get?_push_of_some _ e), fun b hb => { W0 b hb with hd := (off b (W.there _ _ st0 b (W.sub b hb))).trans (W0 b hb).hd }, fun b hb => ⟨(off b (W.there _ _ st0 b hb)).trans (hfp b hb).1, (hfp b hb).2⟩⟩
  have loop := comp_loop (c := c) (i' := i) (pos := pos) (R := compPost Z.M F.A E use Q (.ref s.heap.objs.size) (s.heap.push { cls := .type "list", data := .seq #[] }).objs.size)
    ⟨I1, I2, K.htg, fun x hx n hn => K.loc o.V hx hn, fun x hx => K.un F.sl hx, K.helt, K.hifs, W, n3.2.hd, n3.2.b, hl⟩ (fun acc q G' oC s' hk e => hfin acc q _ _ G' oC s' hk e)
    (.mk 0 l [] G p _ #[] 0 rfl ⟨.zero l, Nat.le_refl _, .refl _, .mk .., S6, fr, .nil, B⟩ h)
  exact codeAny_compStart_list loop (W.self 0 _ _ _ B.st loop)
theorem CEnd.before {G1 : HMap} {D0 Cc : Addr} {tot : List D} {q p1 : Pool} {G' : HMap} {oC : Obj} {s1 s' : Shared} (n : Nxt Z.h₀ Z.P G Hd s G1 p1 s1) (e : CEnd Z Hd G1 s1 D0 Cc tot q G' oC s') : CEnd Z Hd G s D0 Cc tot q G' oC s' := { e with n := n.trans e.n }
theorem comp_core {pos pos' : Pos} {use : Option (Value → Sem Unit)} {Q E : Value → Shared → Prop} {F : Fm Z} (I1 : Snd Z elt) (I2 : Snd Z cond) (I3 : ISnd Z it) (K : CmK F.ns tg isT fv elt it cond e' t i ifs sc) {Φ : Bool → D → Pool → Prop} {ε : Pool → Prop}
    (h : Mini.ev Z.C (.comp tg isT fv elt it cond) F.sl p Φ ε) (o : F.On G p s) (hx : F.Xc G s ε E) (hfin : ∀ tot q D0 Cc G' oC s', Φ true (.list tot) q → CEnd Z F.Hd G s D0 Cc tot q G' oC s' → compPost Z.M F.A E use Q (.ref D0) Cc (.ok .next) s') :
    wpAny Z.M F.A (comprehension (.ListComp e' [⟨t, i, ifs, 0⟩] sc pos) sc F.env pos' (newList []) false (eval i F.env) use) Q E s := by
  have sp := scope_parts K.hsc
  obtain ⟨cl, hc1, hc2⟩ := closure_is (env := F.env) (sc := sc) fun x hx hf => K.free o.V hx hf
  exact wpAny_comprehension_free (g := ⟨t, i, ifs, 0⟩) (gs := []) rfl (foldNot K.hit) hc1 sp.kind (fun x hx hl => (sp.look x hx).trans (congrArg some hl))
    (I3 F K.hit K.hok h o (fun l q itv G1 s1 h n hw => comp_start I1 I2 K (pos' := pos') h.1 hc2 h.2 (o.next n) hw fun tot q D0 Cc G' oC s' h e => hfin tot q D0 Cc G' oC s' h (e.before n)) hx)
/-- after the frame of a comprehension is let go -/
theorem CEnd.done {D0 Cc : Addr} {tot : List D} {q : Pool} {G' : HMap} {oC : Obj} {s' : Shared} {h' : Heap} (e : CEnd Z Hd G s D0 Cc tot q G' oC s') (hs : Heap.SameBut Cc s'.heap h') : Nxt Z.h₀ Z.P G Hd s G' q { s' with heap := h' } ∧ NewL Z.h₀ Z.P G' Hd q h' D0 tot :=
  ⟨e.n.trans (e.n.st.nxtBut (wr := [Cc]) (t := s'.toks) (allC ⟨e.S.notG addG_self, e.hC, e.hb, e.S.notP addG_self⟩ allN) fun b o hm h => (hs.2 b fun q => hm (q ▸ List.mem_cons_self)).trans h),
    { e.L with hd := (addG_ne e.ne).symm.trans e.L.hd, o := let ⟨items, n, ho, hr⟩ := e.L.o; ⟨items, n, (hs.2 D0 e.ne).trans ho, hr⟩ }⟩
theorem CEnd.nsAt {D0 Cc : Addr} {tot : List D} {q : Pool} {G' : HMap} {oC : Obj} {s' : Shared} (e : CEnd Z Hd G s D0 Cc tot q G' oC s') {sx : Shared} (S : Agr (addG Hd Cc oC) sx.heap) : ∃ m, sx.heap.Ns Cc m :=
  let ⟨es, ep, hd, hk⟩ := e.d
  let ⟨_, hg⟩ := S.get (addG_self (G := Hd) (a := Cc) (o := oC))
  ⟨_, _, es, ep, hg, hd, hk, fun _ => rfl⟩
theorem snd_comp (I1 : Snd Z elt) (I2 : Snd Z cond) (I3 : ISnd Z it) : Snd Z (.comp tg isT fv elt it cond) := .plain rfl
  (fun F e hc Φ ε Q E G p s h o k hx => ck_comp hc fun e' t i ifs sc pos K => by
    rw [eval_ListComp]
    exact comp_core (use := none) I1 I2 I3 K h o hx fun tot q D0 Cc G' oC s' h e => (e.nsAt e.S.agrH).elim fun m hm => ⟨m, hm, fun h' hs => k _ _ _ _ _ _ h (e.done hs).1 (.own (e.done hs).2)⟩) fun hc env => ck_comp hc fun _ _ _ _ _ _ _ => rfl
end
end
end Mini
end
section -- P8t
namespace Mini
open PySem PySem.W PyProof.Rows

/-! ## the decision tree of list.sort -/
noncomputable def wpT {α : Type} (n : Nat) (lt : Nat → Nat → Bool) : KasT α → (α → Prop) → Prop
  | .ret a, Q => Q a
  | .ask i j k, Q => (i < n ∧ j < n) ∧ wpT n lt (k (lt i j)) Q
theorem wpT_bind {α β : Type} {n : Nat} {lt : Nat → Nat → Bool} {f : α → KasT β} {Q : β → Prop} (t : KasT α) : wpT n lt t (fun a => wpT n lt (f a) Q) → wpT n lt (t.bind f) Q := by
  induction t with
  | ret a => exact id
  | ask i j k ih => exact fun h => ⟨h.1, ih _ h.2⟩
theorem kasWp_run {α : Type} {n : Nat} {lt : Nat → Nat → Bool} {cmp : Nat → Nat → (Bool → Shared → Prop) → Shared → Prop} {P : α → Prop} {Q : α → Shared → Prop} {s : Shared} (hc : ∀ i j (C : Bool → Shared → Prop), i < n → j < n → C (lt i j) s → cmp i j C s) (hq : ∀ a, P a → Q a s)
    (t : KasT α) : wpT n lt t P → t.kasWp cmp Q s := by
  induction t with
  | ret a => exact hq a
  | ask i j k ih => exact fun h => hc i j _ h.1.1 h.1.2 (ih _ h.2)

/-- a strict order on the places below N -/
structure Ord (N : Nat) (L : Nat → Nat → Prop) (lt : Nat → Nat → Bool) : Prop where
  tr : ∀ a b c, L a b → L b c → L a c
  yes : ∀ a b, lt a b = true → L a b
  no : ∀ a b, lt a b = false → L b a
  str : ∀ a b, a < N → b < N → a ≠ b → L a b → lt a b = true
/-- places k .. are in order -/
noncomputable def up (L : Nat → Nat → Prop) (p : Array Nat) (k : Nat) : Prop := ∀ i, i < k → L (p.getD i 0) (p.getD (i + 1) 0)
noncomputable def dn (L : Nat → Nat → Prop) (p : Array Nat) (k : Nat) : Prop := ∀ i, i < k → L (p.getD (i + 1) 0) (p.getD i 0)
noncomputable def low (N : Nat) (p : Array Nat) : Prop := ∀ k, k < p.size → p.getD k 0 < N
section
variable {N : Nat} {L : Nat → Nat → Prop} {lt : Nat → Nat → Bool}
theorem lt_or {i k : Nat} (h : i < k + 1) : i < k ∨ i = k := Nat.lt_or_eq_of_le (Nat.le_of_lt_succ h)
theorem up.snoc {p : Array Nat} {k : Nat} (h : up L p k) (hl : L (p.getD k 0) (p.getD (k + 1) 0)) : up L p (k + 1) := fun i hi => (lt_or hi).elim (h i) fun q => q ▸ hl
theorem dn.snoc {p : Array Nat} {k : Nat} (h : dn L p k) (hl : L (p.getD (k + 1) 0) (p.getD k 0)) : dn L p (k + 1) := fun i hi => (lt_or hi).elim (h i) fun q => q ▸ hl
theorem up.far (O : Ord N L lt) {p : Array Nat} {k : Nat} (h : up L p k) {i : Nat} : ∀ {j : Nat}, i < j → j ≤ k → L (p.getD i 0) (p.getD j 0)
  | j + 1, hj, hk => (lt_or hj).elim (fun q => O.tr _ _ _ (h.far O q (Nat.le_of_succ_le hk)) (h j hk)) fun q => q ▸ h j hk

theorem asc_ok (O : Ord N L lt) {p : Array Nat} (ha : low N p) {e : Nat} {Q : Nat → Prop} (he : e < p.size) : ∀ f k : Nat, k + f = e → up L p k → (∀ m, k ≤ m → m ≤ e → up L p m → (m < e → lt (p.getD (m + 1) 0) (p.getD m 0) = true) → Q (m + 1)) → wpT N lt (kas_asc p f (k + 1)) Q
  | 0, k, hk, hu, h => h k (Nat.le_refl _) (Nat.le_of_eq hk) hu fun q => absurd (hk ▸ q) (Nat.lt_irrefl _)
  | f + 1, k, hk, hu, h => by
    have lt1 : k + 1 ≤ e := hk ▸ Nat.add_le_add_left (Nat.le_add_left 1 f) k
    refine ⟨⟨ha _ (Nat.lt_of_le_of_lt lt1 he), ha k (Nat.lt_of_le_of_lt (Nat.le_of_succ_le lt1) he)⟩, ?_⟩
    show wpT N lt (if lt (p.getD (k + 1) 0) (p.getD k 0) = true then _ else _) Q
    cases hc : lt (p.getD (k + 1) 0) (p.getD k 0) with
    | true => exact h k (Nat.le_refl _) (Nat.le_of_succ_le lt1) hu fun _ => hc
    | false => exact asc_ok O ha he f (k + 1) ((Nat.succ_add k f).trans hk) (hu.snoc (O.no _ _ hc)) fun m h1 h2 => h m (Nat.le_of_succ_le h1) h2
theorem desc_ok (O : Ord N L lt) {p : Array Nat} (hp : ∀ k, k < N → p.getD k 0 = k) {e : Nat} {Q : Array Nat × Nat × Nat → Prop} (he : e < N) : ∀ f k : Nat, k + f = e → dn L p k → (∀ m, k ≤ m → m ≤ e → dn L p m → Q (p, m + 1, 0)) → wpT N lt (kas_desc f p (k + 1) 0) Q
  | 0, k, hk, hu, h => h k (Nat.le_refl _) (Nat.le_of_eq hk) hu
  | f + 1, k, hk, hu, h => by
    have lt1 : k + 1 ≤ e := hk ▸ Nat.add_le_add_left (Nat.le_add_left 1 f) k
    have h1 : k + 1 < N := Nat.lt_of_le_of_lt lt1 he
    have h2 : k < N := Nat.lt_of_succ_lt h1
    have e1 := hp _ h1
    have e2 := hp _ h2
    refine ⟨⟨e1.symm ▸ h1, e2.symm ▸ h2⟩, ?_⟩
    show wpT N lt (if lt (p.getD (k + 1) 0) (p.getD k 0) = true then _ else _) Q
    cases hc : lt (p.getD (k + 1) 0) (p.getD k 0) with
    | true => exact desc_ok O hp he f (k + 1) ((Nat.succ_add k f).trans hk) (hu.snoc (O.yes _ _ hc)) fun m h1 h2 => h m (Nat.le_of_succ_le h1) h2
    | false =>
      refine ⟨⟨e2.symm ▸ h2, e1.symm ▸ h1⟩, ?_⟩
      show wpT N lt (if lt (p.getD k 0) (p.getD (k + 1) 0) = true then _ else _) Q
      rw [O.str _ _ (e2.symm ▸ h2) (e1.symm ▸ h1) (by rw [e1, e2]; exact Nat.ne_of_lt (Nat.lt_succ_self k)) (O.no _ _ hc)]
      exact h k (Nat.le_refl _) (Nat.le_of_succ_le lt1) hu
theorem getD_get (p : Array Nat) (k : Nat) : p.getD k 0 = (p[k]?).getD 0 := Array.getD_eq_getD_getElem? ..
theorem rev_size (p : Array Nat) (i j : Nat) : (kas_rev p i j).size = p.size := mirror_size _ _ _ _
theorem rev_perm (p : Array Nat) (i j : Nat) : (kas_rev p i j).Perm p := mirror_perm _ _ _ _
theorem low.of_perm {p q : Array Nat} (h : low N p) (hp : q.Perm p) : low N q := by
  intro k hk
  rw [getD_get, Array.getElem?_eq_getElem hk]
  obtain ⟨i, hi, he⟩ := Array.mem_iff_getElem.mp (hp.mem_iff.mp (Array.getElem_mem hk))
  have := h i hi
  rw [getD_get, Array.getElem?_eq_getElem hi] at this
  exact he ▸ this
theorem rev_get {p : Array Nat} {m i : Nat} (hm : m < p.size) (hi : i ≤ m) : (kas_rev p 0 (m + 1)).getD i 0 = p.getD (m - i) 0 := by
  rw [getD_get, getD_get]
  unfold kas_rev
  rw [getElem?_mirror_all hm i, if_pos ⟨Nat.zero_le _, Nat.lt_succ_of_le hi⟩, Nat.zero_add]
  rfl
theorem up_rev {p : Array Nat} {m : Nat} (hm : m < p.size) (h : dn L p m) : up L (kas_rev p 0 (m + 1)) m := fun i hi => by
  have e : m - (i + 1) + 1 = m - i := by rw [← Nat.sub_sub]; exact Nat.sub_add_cancel (Nat.sub_pos_of_lt hi)
  rw [rev_get hm (Nat.le_of_lt hi), rev_get hm hi, ← e]
  exact h _ (Nat.sub_lt (Nat.lt_of_le_of_lt (Nat.zero_le i) hi) (Nat.succ_pos i))

/-- a permutation whose first k + 1 places are in order -/
noncomputable def Srt (L : Nat → Nat → Prop) (p₀ : Array Nat) (k : Nat) (p : Array Nat) : Prop := p.Perm p₀ ∧ up L p k
theorem count_ok (O : Ord (e + 1) L lt) {p : Array Nat} (hs : p.size = e + 1) (hp : ∀ k, k < e + 1 → p.getD k 0 = k) {Q : Nat × Array Nat → Prop} (h : ∀ m q, m ≤ e → Srt L p m q → Q (m + 1, q)) : wpT (e + 1) lt (kas_count (e + 1) p) Q := by
  have ha : low (e + 1) p := fun k hk => by rw [hp k (hs ▸ hk)]; exact hs ▸ hk
  have hse : e < p.size := by rw [hs]; exact Nat.lt_succ_self e
  refine wpT_bind _ (asc_ok O ha hse e 0 (Nat.zero_add e) (fun i hi => absurd hi (Nat.not_lt_zero i)) fun m _ h2 h3 h4 => ?_)
  by_cases hme : m = e
  · rw [if_pos (beq_iff_eq.mpr (congrArg (· + 1) hme))]
    exact h m p h2 ⟨.refl _, h3⟩
  · rw [if_neg fun q => hme (Nat.succ.inj (beq_iff_eq.mp q))]
    have hlt := Nat.lt_of_le_of_ne h2 hme
    have h4 := h4 hlt
    cases m with
    | succ m =>
      rw [if_pos (Nat.succ_lt_succ (Nat.succ_pos m))]
      have e0 := hp 0 (Nat.succ_pos e)
      have e1 := hp (m + 1) (Nat.lt_succ_of_le h2)
      refine ⟨⟨e0.symm ▸ Nat.succ_pos e, e1.symm ▸ Nat.lt_succ_of_le h2⟩, ?_⟩
      show wpT (e + 1) lt (if lt (p.getD 0 0) (p.getD (m + 1) 0) = true then _ else _) Q
      rw [O.str _ _ (e0.symm ▸ Nat.succ_pos e) (e1.symm ▸ Nat.lt_succ_of_le h2) (by rw [e0, e1]; exact (Nat.succ_ne_zero m).symm) (h3.far O (Nat.succ_pos m) (Nat.le_refl _))]
      exact h (m + 1) p h2 ⟨.refl _, h3⟩
    | zero =>
      rw [if_neg (Nat.lt_irrefl 1)]
      refine wpT_bind _ (desc_ok O hp (Nat.lt_succ_self e) (e + 1 - (1 + 1)) 1 (by rw [Nat.add_sub_add_right, Nat.add_sub_cancel' hlt]) (dn.snoc (fun i hi => absurd hi (Nat.not_lt_zero i)) (O.yes _ _ h4)) fun m h1 h2 h3 => ?_)
      refine wpT_bind _ (asc_ok O (ha.of_perm (rev_perm p 0 (m + 1))) (by rw [rev_size]; exact hse) (e + 1 - (m + 1)) m (by rw [Nat.add_sub_add_right, Nat.add_sub_cancel' h2]) (up_rev (Nat.lt_of_le_of_lt h2 hse) h3) fun m' h1' h2' h3' _ => ?_)
      exact h m' _ h2' ⟨rev_perm .., h3'⟩

theorem place_ok (O : Ord N L lt) {p : Array Nat} (ha : low N p) {k : Nat} (hk : k < p.size) {Q : Nat → Prop} (h : ∀ l, l ≤ k → (∀ i, i + 1 = l → L (p.getD i 0) (p.getD k 0)) → (l < k → L (p.getD k 0) (p.getD l 0)) → Q l) :
    ∀ f l r : Nat, r ≤ l + f → l ≤ r → r ≤ k → (∀ i, i + 1 = l → L (p.getD i 0) (p.getD k 0)) → (r < k → L (p.getD k 0) (p.getD r 0)) → wpT N lt (kas_place p k f l r) Q
  | 0, l, r, hf, hl, hr, h1, h2 => by
    cases Nat.le_antisymm hf hl
    exact h _ hr h1 h2
  | f + 1, l, r, hf, hl, hr, h1, h2 => by
    unfold kas_place
    by_cases hge : l ≥ r
    · rw [if_pos hge]
      cases Nat.le_antisymm hge hl
      exact h _ hr h1 h2
    · rw [if_neg hge]
      have hm : (l + r) / 2 < r := by omega
      have hm2 : l ≤ (l + r) / 2 := by omega
      have hmk : (l + r) / 2 < k := Nat.lt_of_lt_of_le hm hr
      refine ⟨⟨ha k hk, ha _ (Nat.lt_trans hmk hk)⟩, ?_⟩
      cases hc : lt (p.getD k 0) (p.getD ((l + r) / 2) 0) with
      | true => exact place_ok O ha hk h f l _ (by omega) hm2 (Nat.le_of_lt hmk) h1 fun _ => O.yes _ _ hc
      | false => exact place_ok O ha hk h f _ r (by omega) hm hr (fun i hi => by cases hi; exact O.no _ _ hc) h2
theorem bub_get {p : Array Nat} {k l : Nat} (hk : k < p.size) (hl : l ≤ k) (i : Nat) : (bubble p k (k - l)).getD i 0 = if i = l then p.getD k 0 else if l < i ∧ i ≤ k then p.getD (i - 1) 0 else p.getD i 0 := by
  rw [getD_get, getElem?_bubble hk (k - l) (Nat.sub_le _ _) i, Nat.sub_sub_self hl]
  by_cases q : i = l
  · rw [if_pos q, if_pos q]; exact (getD_get p k).symm
  · rw [if_neg q, if_neg q]
    by_cases w : l < i ∧ i ≤ k
    · rw [if_pos w, if_pos w]; exact (getD_get p _).symm
    · rw [if_neg w, if_neg w]; exact (getD_get p i).symm
theorem up_bub {p : Array Nat} {k l : Nat} (hk : k + 1 < p.size) (hl : l ≤ k + 1) (h : up L p k) (h1 : ∀ i, i + 1 = l → L (p.getD i 0) (p.getD (k + 1) 0)) (h2 : l < k + 1 → L (p.getD (k + 1) 0) (p.getD l 0)) : up L (bubble p (k + 1) (k + 1 - l)) (k + 1) := fun i hi => by
  rw [bub_get hk hl, bub_get hk hl]
  rcases Nat.lt_trichotomy i l with q | q | q
  · rw [if_neg (Nat.ne_of_lt q), if_neg fun w => Nat.lt_asymm w.1 q]
    by_cases e : i + 1 = l
    · rw [if_pos e]; exact h1 i e
    · rw [if_neg e, if_neg fun w => Nat.lt_irrefl _ (Nat.lt_of_le_of_lt q w.1)]
      exact h i (Nat.lt_of_succ_lt_succ (Nat.lt_of_lt_of_le (Nat.lt_of_le_of_ne q e) hl))
  · rw [if_pos q, if_neg fun w => Nat.succ_ne_self l ((congrArg (· + 1) q).symm.trans w), if_pos ⟨Nat.lt_succ_of_le (Nat.le_of_eq q.symm), hi⟩]
    exact q ▸ h2 (q ▸ hi)
  · rw [if_neg (Nat.ne_of_gt q), if_pos ⟨q, Nat.le_of_lt hi⟩, if_neg (Nat.ne_of_gt (Nat.lt_succ_of_lt q)), if_pos ⟨Nat.lt_succ_of_lt q, hi⟩]
    cases i with
    | zero => exact absurd q (Nat.not_lt_zero _)
    | succ i => exact h i (Nat.lt_of_succ_lt_succ hi)
theorem bin_ok (O : Ord N L lt) {e : Nat} {p₀ : Array Nat} (ha : low N p₀) (hs : p₀.size = e + 1) {Q : Array Nat → Prop} (h : ∀ q, Srt L p₀ e q → Q q) : ∀ (f k : Nat) (p : Array Nat), k + f = e → Srt L p₀ k p → wpT N lt (kas_bin f p (k + 1)) Q
  | 0, k, p, hk, hp => h p (by cases hk; exact hp)
  | f + 1, k, p, hk, hp => by
    have lt1 : k + 1 < p.size := by rw [hp.1.size_eq, hs, ← hk]; exact Nat.succ_lt_succ (Nat.lt_add_of_pos_right (Nat.succ_pos f))
    refine wpT_bind _ (place_ok O (ha.of_perm hp.1) lt1 (fun l h1 h2 h3 => ?_) (k + 1) 0 (k + 1) (Nat.le_add_left _ _) (Nat.zero_le _) (Nat.le_refl _) (fun i hi => by cases hi) fun q => absurd q (Nat.lt_irrefl _))
    exact bin_ok O ha hs h f (k + 1) _ ((Nat.succ_add k f).trans hk) ⟨(bubble_perm ..).trans hp.1, up_bub lt1 h1 hp.2 h2 h3⟩
theorem range_get {n k : Nat} (h : k < n) : (List.range n).toArray.getD k 0 = k := by
  rw [getD_get, List.getElem?_toArray, List.getElem?_range h]; rfl
theorem sort_ok {e : Nat} (O : Ord (e + 1) L lt) : wpT (e + 1) lt (kas_sort (e + 1)) (Srt L (List.range (e + 1)).toArray e) := by
  have hs : (List.range (e + 1)).toArray.size = e + 1 := by rw [List.size_toArray, List.length_range]
  have ha : low (e + 1) (List.range (e + 1)).toArray := fun k hk => by rw [range_get (hs ▸ hk)]; exact hs ▸ hk
  refine wpT_bind _ (count_ok O hs (fun k => range_get) fun m q hm hq => ?_)
  by_cases hlt : m + 1 < e + 1
  · rw [if_pos hlt]
    have e1 : max (m + 1) 1 = m + 1 := Nat.max_eq_left (Nat.succ_pos m)
    show wpT (e + 1) lt (kas_bin (e + 1 - max (m + 1) 1) q (max (m + 1) 1)) _
    rw [e1, Nat.add_sub_add_right]
    exact bin_ok O ha hs (fun _ => id) (e - m) m q (Nat.add_sub_cancel' hm) hq
  · rw [if_neg hlt]
    have : m = e := Nat.le_antisymm hm (Nat.le_of_lt_succ (Nat.lt_of_not_le fun w => hlt (Nat.succ_le_succ w)))
    exact this ▸ hq
end
end Mini
end
section -- P8s
namespace Mini
open PySem PySem.W PyProof.Rows
section
variable {α : Type} {le : α → α → Bool}
theorem ins_perm (le : α → α → Bool) (x : α) (l : List α) : (ins le x l).Perm (x :: l) := by
  induction l with
  | nil => exact .refl _
  | cons y r ih =>
    unfold ins
    split
    · exact .refl _
    · exact (ih.cons y).trans (.swap ..)
theorem isort_perm (le : α → α → Bool) (l : List α) : (isort le l).Perm l := by
  induction l with
  | nil => exact .refl _
  | cons x r ih => exact (ins_perm le x _).trans (ih.cons x)
noncomputable abbrev Inc (le : α → α → Bool) (l : List α) : Prop := l.Pairwise fun a b => le a b = true
/-- a total order -/
structure Tot (le : α → α → Bool) : Prop where
  tot : ∀ a b, le a b = true ∨ le b a = true
  tr : ∀ a b c, le a b = true → le b c = true → le a c = true
  anti : ∀ a b, le a b = true → le b a = true → a = b
theorem ins_sorted (T : Tot le) (x : α) {l : List α} (h : Inc le l) : Inc le (ins le x l) := by
  induction l with
  | nil => exact List.pairwise_singleton ..
  | cons y r ih =>
    obtain ⟨h1, h2⟩ := List.pairwise_cons.mp h
    unfold ins
    cases hxy : le x y with
    | true => exact List.pairwise_cons.mpr ⟨List.forall_mem_cons.mpr ⟨hxy, fun z hz => T.tr _ _ _ hxy (h1 z hz)⟩, h⟩
    | false => exact List.pairwise_cons.mpr ⟨fun z hz => (List.mem_cons.mp ((ins_perm le x r).mem_iff.mp hz)).elim (fun q => q ▸ (T.tot x y).resolve_left (by rw [hxy]; exact nofun)) (h1 z), ih h2⟩
theorem isort_sorted (T : Tot le) (l : List α) : Inc le (isort le l) := by
  induction l with
  | nil => exact .nil
  | cons x r ih => exact ins_sorted T x ih
theorem isort_eq (T : Tot le) {l m : List α} (hp : m.Perm l) (h : Inc le m) : m = isort le l := (hp.trans (isort_perm le l).symm).eq_of_pairwise (fun a b _ _ => T.anti a b) h (isort_sorted T l)
end
theorem leI_iff {a b : Int} : leI a b = true ↔ a ≤ b := decide_eq_true_iff
theorem totI : Tot leI where
  tot a b := (Int.le_total a b).imp leI_iff.mpr leI_iff.mpr
  tr _ _ _ h1 h2 := leI_iff.mpr (Int.le_trans (leI_iff.mp h1) (leI_iff.mp h2))
  anti _ _ h1 h2 := Int.le_antisymm (leI_iff.mp h1) (leI_iff.mp h2)
theorem leP_iff {a b : Int × Int} : leP a b = true ↔ a.1 < b.1 ∨ (a.1 = b.1 ∧ a.2 ≤ b.2) := by
  unfold leP
  rw [Bool.or_eq_true, Bool.and_eq_true, decide_eq_true_iff, decide_eq_true_iff, beq_iff_eq]
theorem totP : Tot leP where
  tot a b := (Int.lt_trichotomy a.1 b.1).elim (fun h => .inl (leP_iff.mpr (.inl h))) fun h => h.elim (fun h => (Int.le_total a.2 b.2).imp (fun w => leP_iff.mpr (.inr ⟨h, w⟩)) fun w => leP_iff.mpr (.inr ⟨h.symm, w⟩)) fun h => .inr (leP_iff.mpr (.inl h))
  tr a b c h1 h2 := leP_iff.mpr ((leP_iff.mp h1).elim (fun h => .inl ((leP_iff.mp h2).elim (Int.lt_trans h) fun w => w.1 ▸ h)) fun h => (leP_iff.mp h2).elim (fun w => .inl (h.1 ▸ w)) fun w => .inr ⟨h.1.trans w.1, Int.le_trans h.2 w.2⟩)
  anti a b h1 h2 := (leP_iff.mp h1).elim (fun h => (leP_iff.mp h2).elim (fun w => absurd (Int.lt_trans h w) (Int.lt_irrefl _)) fun w => absurd (w.1 ▸ h) (Int.lt_irrefl _)) fun h => (leP_iff.mp h2).elim (fun w => absurd (h.1 ▸ w) (Int.lt_irrefl _)) fun w => Prod.ext h.1 (Int.le_antisymm h.2 w.2)

/-- what list.sort may leave -/
noncomputable def OutOf (R : Array Nat → Prop) (vs out : List Value) : Prop := (vs.length < 2 ∧ out = vs) ∨ ∃ p, R p ∧ out = p.toList.map fun i => vs.getD i Value.none
section
variable {prog : Program} {w : World} {A : Around} {E : Value → Shared → Prop} {s : Shared}
theorem len_sl {vs : List Value} {k : Nat} (h64 : vs.length < 64) (hk : 64 ≤ k) : vs.toArray.size ≤ k := by
  rw [List.size_toArray]; exact Nat.le_of_lt (Nat.lt_of_lt_of_le h64 hk)
theorem list_sort_gen {a : Addr} {vs : List Value} {n : Nat} {κ : SortKind} {lt : Nat → Nat → Bool} {R : Array Nat → Prop} {P : PySem.Fin → Shared → Prop} (ho : s.heap.get? a = some (seqObj "list" vs.toArray n)) (h64 : vs.length < 64)
    (hk : 2 ≤ vs.length → ∀ (s' : Shared) (Q : SortKind → Shared → Prop), (∀ b o, b ≠ a → s.heap.get? b = some o → s'.heap.get? b = some o) → Q κ s' → wpAny (model prog w) A (keyKind' vs.toArray) Q E s')
    (hlt : ∀ (i j : Nat) (s' : Shared) (C : Bool → Shared → Prop), i < vs.length → j < vs.length → (∀ b o, b ≠ a → s.heap.get? b = some o → s'.heap.get? b = some o) → C (lt i j) s' → wpAny (model prog w) A (keyLt' κ (vs.getD i Value.none) (vs.getD j Value.none)) C (fun _ _ => False) s')
    (hT : 2 ≤ vs.length → wpT vs.length lt (kas_sort vs.length) R) (h : ∀ out, OutOf R vs out → P (.done (.ret .none)) { s with heap := sortedHeap s.heap a vs out.toArray }) :
    wpAny (model prog w) A (Builtin.«list.sort» ⟨[.ref a], []⟩) P E s := by
  rw [list_sort_plain]
  have ha : a < s.heap.objs.size := Heap.lt_size ho
  refine wpAny_bind (listItems_at ho rfl ?_)
  refine wpAny_bind (listUpdate_at ho rfl ?_)
  obtain ⟨e1, ho1⟩ : ∃ e1, (s.heap.update a (Obj.mapSeq fun _ => #[])).get? a = some (seqObj "list" #[] e1) := ⟨_, get?_update_seq ho (fun _ => #[])⟩
  refine wpAny_bind (seqEpoch_at ho1 rfl ?_)
  refine wpAny_bind (wpAny_newTuple ?_ (len_sl h64 (by decide)))
  refine wpAny_bind (wpAny_newList ?_)
  refine wpAny_holding ?_
  have ho6 : (((s.heap.update a (Obj.mapSeq fun _ => #[])).push (seqObj "tuple" vs.toArray 0)).push (seqObj "list" #[] 0)).get? a = some (seqObj "list" #[] e1) := Heap.get?_push_of_some _ (Heap.get?_push_of_some _ ho1)
  have keep : ∀ b o, b ≠ a → s.heap.get? b = some o → (((s.heap.update a (Obj.mapSeq fun _ => #[])).push (seqObj "tuple" vs.toArray 0)).push (seqObj "list" #[] 0)).get? b = some o := fun b o hb e =>
    Heap.get?_push_of_some _ (Heap.get?_push_of_some _ ((Heap.get?_update_other _ _ (Ne.symm hb)).trans e))
  have e64 : vs.toArray.size = vs.length := List.size_toArray ..
  by_cases h2 : vs.toArray.size < 2
  · rw [if_pos h2, if_pos h2]
    refine wpAny_bind (wpAny_pure ?_)
    dsimp only
    rw [StateT.run_pure]
    refine wpAny_bind (wpAny_pure ?_)
    refine wpAny_bind (seqEpoch_at ho6 rfl ?_)
    have hz : ((arrOf (SortSt.mk' general' (vs.toArray.zip vs.toArray) #[] 7 none)).map (·.2)) = vs.toArray := by
      apply Array.ext'
      show ((vs.toArray.zip vs.toArray).map (·.2)).toList = vs
      rw [Array.toList_map, Array.toList_zip, List.map_snd_zip (Nat.le_refl _)]
    rw [hz]
    refine wpAny_bind (listUpdate_at ho6 rfl ?_ (hsz2 := len_sl h64 (by decide)))
    rw [bne_self_eq_false]
    exact wpAny_pure (h vs (.inl ⟨e64 ▸ h2, rfl⟩))
  · rw [if_neg h2, if_neg h2]
    have h2 := Nat.le_of_not_lt (e64 ▸ h2)
    refine wpAny_bind (hk h2 _ _ keep ?_)
    refine wpAny_bind (wpAny_mono (kat_run (prog := prog) (w := w) (A := A) (E := E) (s := { s with heap := ((s.heap.update a (Obj.mapSeq fun _ => #[])).push (seqObj "tuple" vs.toArray 0)).push (seqObj "list" #[] 0) }) (κ := κ) (ks := vs) (vs := vs)
      (Q := fun st' s' => (∃ p, p.size = vs.length ∧ R p ∧ (arrOf st').map (·.2) = (p.toList.map fun i => vs.getD i Value.none).toArray) ∧ failedOf st' = none ∧ s' = { s with heap := ((s.heap.update a (Obj.mapSeq fun _ => #[])).push (seqObj "tuple" vs.toArray 0)).push (seqObj "list" #[] 0) })
      (G := fun p s' => R p ∧ s' = { s with heap := ((s.heap.update a (Obj.mapSeq fun _ => #[])).push (seqObj "tuple" vs.toArray 0)).push (seqObj "list" #[] 0) }) rfl h2 h64
      (fun p st' s' hp har hf hr => ⟨⟨p, hp, hr.1, kat_snds rfl har⟩, hf, hr.2⟩)
      (kasWp_run (fun i j C hi hj hC => hlt i j _ C hi hj keep hC) (fun p hp => ⟨hp, rfl⟩) _ (hT h2))) ?_ fun _ _ e => e)
    rintro ⟨⟨⟩, st'⟩ s' ⟨⟨p, hp, hR, hout⟩, hf, rfl⟩
    refine wpAny_bind (seqEpoch_at ho6 rfl ?_)
    rw [hout]
    refine wpAny_bind (listUpdate_at ho6 rfl ?_ (hsz2 := len_sl (by rw [List.length_map, Array.length_toList, hp]; exact h64) (by decide)))
    rw [hf, bne_self_eq_false]
    exact wpAny_pure (h _ (.inr ⟨p, hR, rfl⟩))

theorem sorted_gen {l : Addr} {vs : List Value} {κ : SortKind} {lt : Nat → Nat → Bool} {R : Array Nat → Prop} {Q : Value → Shared → Prop} (hl : s.heap.IsList l vs.toArray) (h64 : vs.length < 64)
    (hk : 2 ≤ vs.length → ∀ (A : Around) (E : Value → Shared → Prop) (s' : Shared) (Q : SortKind → Shared → Prop), (∀ b o, s.heap.get? b = some o → s'.heap.get? b = some o) → Q κ s' → wpAny (model prog w) A (keyKind' vs.toArray) Q E s')
    (hlt : ∀ (A : Around) (i j : Nat) (s' : Shared) (C : Bool → Shared → Prop), i < vs.length → j < vs.length → (∀ b o, s.heap.get? b = some o → s'.heap.get? b = some o) → C (lt i j) s' → wpAny (model prog w) A (keyLt' κ (vs.getD i Value.none) (vs.getD j Value.none)) C (fun _ _ => False) s')
    (hT : 2 ≤ vs.length → wpT vs.length lt (kas_sort vs.length) R) (h : ∀ out, OutOf R vs out → Q (.ref (s.heap.objs.size + 1)) { s with heap := sortedAll s.heap vs out.toArray }) :
    wpAny (model prog w) A (call (.builtin "sorted") [.ref l]) Q E s := by
  refine Calls.call_function_entry kind_sorted plain_sorted entry_sorted (args_sorted1 _) ?_
  unfold Builtin.«sorted»
  refine wpAny_bind (m := checkCount "sorted" 1 1 _) (wpAny_pure ?_)
  refine wpAny_bind (collect_list hl ?_)
  refine wpAny_bind (wpAny_newList ?_)
  have hsz : ((s.heap.push (seqObj "list" #[] 0)).update s.heap.objs.size (Obj.mapSeq (· ++ vs.toArray))).objs.size = s.heap.objs.size + 1 := by
    rw [Heap.size_update, size_push']
  have hoL : (((s.heap.push (seqObj "list" #[] 0)).update s.heap.objs.size (Obj.mapSeq (· ++ vs.toArray))).push (seqObj "list" vs.toArray 0)).get? (s.heap.objs.size + 1) = some (seqObj "list" vs.toArray 0) := by
    rw [← hsz]; exact Heap.get?_push_size _ rfl
  have old : ∀ {b o}, s.heap.get? b = some o → b ≠ s.heap.objs.size + 1 := fun e q => Nat.lt_irrefl _ (Nat.lt_trans (Nat.lt_succ_self _) (q ▸ Heap.lt_size e))
  have keep : ∀ b o, s.heap.get? b = some o → (((s.heap.push (seqObj "list" #[] 0)).update s.heap.objs.size (Obj.mapSeq (· ++ vs.toArray))).push (seqObj "list" vs.toArray 0)).get? b = some o := fun b o e =>
    Heap.get?_push_of_some _ ((Heap.get?_update_other _ _ (fun hb => Nat.lt_irrefl _ (hb ▸ Heap.lt_size e))).trans (Heap.get?_push_of_some _ e))
  show wpAny _ _ _ _ _ { s with heap := ((s.heap.push (seqObj "list" #[] 0)).update s.heap.objs.size (Obj.mapSeq (· ++ vs.toArray))).push (seqObj "list" vs.toArray 0) }
  rw [hsz]
  exact wpAny_bind (wpAny_holding (wpAny_call_entry slot_list_sort ⟨_, hoL, rfl⟩ entry_list_sort (list_sort_gen (κ := κ) (lt := lt) hoL h64 (fun h2 s' Q hh => hk h2 _ _ s' Q fun b o e => hh b o (old e) (keep b o e)) (fun i j s' C hi hj hh => hlt _ i j s' C hi hj fun b o e => hh b o (old e) (keep b o e)) hT
    fun out ho => ⟨_, rfl, wpAny_pure ⟨_, rfl, h out ho⟩⟩) (args_list_sort _)))

inductive PairAt (h : Heap) (v : Value) (q : Int × Int) : Prop
  | mk (a : Addr) (o : Obj) (t u : Tok) (n : Nat) : v = .ref a → h.get? a = some o → o.cls = .type "tuple" → o.data = .seq #[.int q.1 t, .int q.2 u] n → PairAt h v q
theorem pair_at {P : Addr} {G : HMap} {h : Heap} (ag : AgrG G h) {v : Value} {q : Int × Int} (hv : VRep P G v (pairD q)) : PairAt h v q :=
  hv.tupE (m := fun v => PairAt h v q) fun a items g r => g.rec fun o n h1 h2 h3 => by
    obtain ⟨il⟩ := items
    exact VReps.consE (m := fun l => o.data = .seq ⟨l⟩ n → PairAt h (.ref a) q) r (fun v l h4 h5 => h4.intE fun t => h5.consE fun v l h6 h7 => h6.intE fun u => h7.nilE fun h3 => .mk a o t u n rfl (ag _ _ h1) h2 h3) h3
theorem int_beq {a b : Int} : (a == b) = true ↔ a = b := beq_iff_eq
theorem pair_lt {x y : Value} {q r : Int × Int} {C : Bool → Shared → Prop} (hx : PairAt s.heap x q) (hy : PairAt s.heap y r) (h : C (!leP r q) s) : wpAny (model prog w) A (keyLt' (tuples' true) x y) C E s := by
  obtain ⟨a, o, t, u, n, rfl, h1, _, h3⟩ := hx
  obtain ⟨a', o', t', u', n', rfl, h1', _, h3'⟩ := hy
  refine kat_lt h1 h3 h1' h3' ?_
  show KatLex prog w A true false C [(Value.int q.1 t, Value.int r.1 t'), (Value.int q.2 u, Value.int r.2 u')] 0 s
  have fin : ∀ {c : Bool}, (!leP r q) = c → C c s := fun e => e ▸ h
  have yes : leP r q = true → (!leP r q) = false := fun e => by rw [e]; rfl
  have no : ¬ leP r q = true → (!leP r q) = true := fun e => by rw [eq_false_of_ne_true e]; rfl
  refine kat_cons (wpAny_eqBool_int (kat_go (fun e => kat_yes ?_) (fun e => kat_no ?_)))
  · have e1 : q.1 = r.1 := int_beq.mp e
    refine kat_cons (wpAny_eqBool_int (kat_go (fun e2 => kat_yes (kat_nil (fin (yes (leP_iff.mpr (.inr ⟨e1.symm, Int.le_of_eq (int_beq.mp e2).symm⟩)))))) fun e2 => kat_no (kat_one _ _ (wpAny_lt_int (fin ?_)))))
    by_cases hq : q.2 < r.2
    · rw [decide_eq_true hq]; exact no fun w => (leP_iff.mp w).elim (fun w => Int.lt_irrefl _ (e1 ▸ w)) fun w => Int.lt_irrefl _ (Int.lt_of_lt_of_le hq w.2)
    · rw [decide_eq_false hq]; exact yes (leP_iff.mpr (.inr ⟨e1.symm, Int.not_lt.mp hq⟩))
  · have e1 : q.1 ≠ r.1 := fun w => by rw [int_beq.mpr w] at e; cases e
    refine oneLt_int (fin ?_)
    by_cases hq : q.1 < r.1
    · rw [decide_eq_true hq]; exact no fun w => (leP_iff.mp w).elim (fun w => Int.lt_irrefl _ (Int.lt_trans hq w)) fun w => e1 w.1.symm
    · rw [decide_eq_false hq]; exact yes (leP_iff.mpr (.inl (Int.lt_iff_le_and_ne.mpr ⟨Int.not_lt.mp hq, e1.symm⟩)))
theorem pair_tups {P : Addr} {G : HMap} {h : Heap} (ag : AgrG G h) : ∀ {qs : List (Int × Int)} {vs : List Value}, VReps P G vs (qs.map pairD) → ∃ fs : List Value, KatTups h vs fs ∧ fs.length = qs.length ∧ ∀ v ∈ fs, ∃ i t, v = Value.int i t
  | [], _, hv => VReps.nilE hv ⟨[], .nil, rfl, allN⟩
  | q :: qs, _, hv => VReps.consE hv fun v vs h1 h2 => by
    obtain ⟨a, o, t, u, n, rfl, g1, g2, g3⟩ := pair_at ag h1
    obtain ⟨fs, f1, f2, f3⟩ := pair_tups ag h2
    exact ⟨.int q.1 t :: fs, .cons g1 g2 g3 rfl f1, congrArg (· + 1) f2, allC ⟨_, _, rfl⟩ f3⟩
theorem pair_kind {P : Addr} {G : HMap} {vs : List Value} {qs : List (Int × Int)} {Q : SortKind → Shared → Prop} (ag : AgrG G s.heap) (hv : VReps P G vs (qs.map pairD)) (h2 : 0 < qs.length) (h : Q (tuples' true) s) : wpAny (model prog w) A (keyKind' vs.toArray) Q E s := by
  obtain ⟨fs, f1, f2, f3⟩ := pair_tups ag hv
  exact kat_kind (T := .type "int") f1 (f2 ▸ h2) (fun v hv => let ⟨i, t, e⟩ := f3 v hv; e ▸ Looks.of_pure rfl) (by decide) h
end

noncomputable def ltP (qs : List (Int × Int)) (i j : Nat) : Bool := !leP (qs.getD j (0, 0)) (qs.getD i (0, 0))
noncomputable def leA (qs : List (Int × Int)) (i j : Nat) : Prop := leP (qs.getD i (0, 0)) (qs.getD j (0, 0)) = true
theorem getD_at {α : Type} {l : List α} {i : Nat} (h : i < l.length) (d : α) : l.getD i d = l[i] := by rw [List.getD_eq_getElem?_getD, List.getElem?_eq_getElem h]; rfl
theorem ordP {qs : List (Int × Int)} (hn : qs.Nodup) : Ord qs.length (leA qs) (ltP qs) where
  tr a b c := totP.tr _ _ _
  yes a b h := (totP.tot _ _).resolve_right fun w => by unfold ltP at h; rw [w] at h; cases h
  no a b h := by
    unfold ltP at h
    cases w : leP (qs.getD b (0, 0)) (qs.getD a (0, 0)) with
    | true => exact w
    | false => rw [w] at h; cases h
  str a b ha hb hne h := by
    unfold ltP
    cases w : leP (qs.getD b (0, 0)) (qs.getD a (0, 0)) with
    | false => rfl
    | true =>
      have e := totP.anti _ _ h w
      rw [getD_at ha, getD_at hb] at e
      exact absurd ((List.getElem_inj hn).mp e) hne
theorem map_getD_range {α : Type} (d : α) (l : List α) : (List.range l.length).map (fun i => l.getD i d) = l := by
  apply List.ext_getElem
  · rw [List.length_map, List.length_range]
  · intro i h1 h2
    rw [List.getElem_map, List.getElem_range, getD_at h2]
theorem outP {qs : List (Int × Int)} {e : Nat} (he : e + 1 = qs.length) (O : Ord qs.length (leA qs) (ltP qs)) {p : Array Nat} (hp : Srt (leA qs) (List.range qs.length).toArray e p) : p.toList.map (fun i => qs.getD i (0, 0)) = isort leP qs := by
  refine isort_eq totP ((hp.1.toList.map _).trans (by rw [map_getD_range])) (List.pairwise_iff_getElem.mpr fun i j hi hj hij => ?_)
  have hl : p.size = e + 1 := by rw [hp.1.size_eq, List.size_toArray, List.length_range, he]
  rw [List.length_map, Array.length_toList, hl] at hi hj
  have := hp.2.far O hij (Nat.le_of_lt_succ hj)
  rw [getD_get, getD_get, Array.getElem?_eq_getElem (hl ▸ hi), Array.getElem?_eq_getElem (hl ▸ hj)] at this
  rw [List.getElem_map, List.getElem_map]
  exact this
theorem VReps.getI {P : Addr} {G : HMap} {vs : List Value} {ds : List D} (h : VReps P G vs ds) {i : Nat} (hi : i < ds.length) : VRep P G (vs.getD i .none) ds[i] := by
  obtain ⟨y, h1, h2⟩ := h.get (List.getElem?_eq_getElem hi)
  rw [List.getD_eq_getElem?_getD, h1]; exact h2
theorem VReps.pick {P : Addr} {G : HMap} {vs : List Value} {qs : List (Int × Int)} (h : VReps P G vs (qs.map pairD)) {p : List Nat} (hp : ∀ i ∈ p, i < qs.length) : VReps P G (p.map fun i => vs.getD i .none) ((p.map fun i => qs.getD i (0, 0)).map pairD) := by
  induction p with
  | nil => exact .nil
  | cons i p ih =>
    obtain ⟨h1, h2⟩ := List.forall_mem_cons.mp hp
    refine .cons ?_ (ih h2)
    have := h.getI (i := i) (by rw [List.length_map]; exact h1)
    rw [List.getElem_map, ← getD_at h1 (0, 0)] at this
    exact this
theorem isort_small {α : Type} (le : α → α → Bool) : ∀ l : List α, l.length < 2 → isort le l = l
  | [], _ => rfl
  | [_], _ => rfl
  | _ :: _ :: _, h => absurd h (Nat.not_lt.mpr (Nat.le_add_left 2 _))
section
variable {Z : Zt} {A : Around} {E : Value → Shared → Prop} {G Hd : HMap} {p : Pool} {s : Shared} {Q : Value → Shared → Prop} {k : Bool → D → Prop}
/-- a new list at a given place -/
theorem OpQ.newAt (q : OpQ Z G Hd p s k Q) (S : StOK Z.h₀ Z.P G Hd p s) {h : Heap} {a : Addr} {items : Array Value} {l : List D} {n t : Nat} (hh : ∀ a o, s.heap.get? a = some o → h.get? a = some o) (ha : s.heap.objs.size ≤ a) (ho : h.get? a = some { cls := .type "list", dict := none, data := .seq items n, slots := #[] })
    (hk : k true (.list l)) (hr : VReps Z.P G items.toList l) : Q (.ref a) { s with heap := h, toks := t } :=
  have f := S.fresh ha
  q _ _ _ _ _ hk (S.nxtK hh) (.own ⟨f.g, f.hd, f.b, f.p, ⟨items, n, ho, hr⟩⟩)
theorem intsAre_reps {P : Addr} {G : HMap} {vs : List Value} {ns : List Int} (h : IntsAre vs ns) : VReps P G vs (ns.map .int) := by
  induction h with
  | nil => exact .nil
  | cons n t _ ih => exact .cons (.int n t) ih
theorem prim_sorted {v : Value} {l : List D} (S : StOK Z.h₀ Z.P G Hd p s) (hv : VRep Z.P G v (.list l)) (h : sortW l fun d => k true d) (q : OpQ Z G Hd p s k Q) : wpAny Z.M A (call (.builtin "sorted") [v]) Q E s := by
  refine hv.isList S fun a items hl hr => ?_
  have new : ∀ (out : Array Value) (d : List D), k true (.list d) → VReps Z.P G out.toList d → Q (.ref (s.heap.objs.size + 1)) { s with heap := sortedAll s.heap items.toList out } := fun out d hk hr =>
    let ⟨_, he⟩ := sortedAll_at s.heap items.toList out
    q.newAt S (t := s.toks) (fun b o hb => sortedAll_old hb) (Nat.le_succ _) he hk hr
  have hl' : s.heap.IsList a items.toList.toArray := hl
  rcases h with ⟨ns, rfl, h64, h⟩ | ⟨qs, rfl, h64, hn, h⟩
  · refine sorted_ints hl' (ints_of hr) (by rw [hr.length, List.length_map]; exact h64) fun out ns' a1 a2 a3 => new out _ h ?_
    rw [← isort_eq totI a2 (a3.imp fun w => leI_iff.mpr w)]
    exact intsAre_reps a1
  · have hlen : items.toList.length = qs.length := by rw [hr.length, List.length_map]
    have at' : ∀ {i : Nat} {s' : Shared}, i < qs.length → (∀ b o, s.heap.get? b = some o → s'.heap.get? b = some o) → PairAt s'.heap (items.toList.getD i .none) (qs.getD i (0, 0)) := fun {i s'} hi kk => pair_at (S.agrG.keeps kk) (by
      have := hr.getI (i := i) (by rw [List.length_map]; exact hi)
      rw [List.getElem_map, ← getD_at hi (0, 0)] at this
      exact this)
    have small : qs.length < 2 → VReps Z.P G items.toList ((isort leP qs).map pairD) := fun h2 => by rw [isort_small leP qs h2]; exact hr
    cases hq : qs.length with
    | zero =>
      refine sorted_gen (κ := tuples' true) (lt := ltP qs) (R := fun _ => False) hl' (by rw [hlen]; exact h64) (fun h2 => absurd (hq ▸ hlen ▸ h2) (by decide)) (fun A i j s' C hi => absurd (hq ▸ hlen ▸ hi) (Nat.not_lt_zero i)) (fun h2 => absurd (hq ▸ hlen ▸ h2) (by decide)) fun out ho => new _ _ h ?_
      rcases ho with ⟨_, rfl⟩ | ⟨_, w, _⟩
      · exact small (hq ▸ by decide)
      · exact w.elim
    | succ e =>
      have O := ordP hn
      refine sorted_gen (κ := tuples' true) (lt := ltP qs) (R := Srt (leA qs) (List.range qs.length).toArray e) hl' (by rw [hlen]; exact h64) (fun h2 A E s' Q kk hq' => pair_kind (S.agrG.keeps kk) hr (hq ▸ Nat.succ_pos e) hq')
        (fun A i j s' C hi hj kk hc => pair_lt (at' (hlen ▸ hi) kk) (at' (hlen ▸ hj) kk) hc) (fun _ => by rw [hlen]; exact hq ▸ sort_ok (hq ▸ O)) fun out ho => new _ _ h ?_
      rcases ho with ⟨h2, rfl⟩ | ⟨p, hp, rfl⟩
      · exact small (hlen ▸ h2)
      · rw [← outP hq.symm O hp]
        exact hr.pick fun i hi => List.mem_range.mp (hp.1.toList.mem_iff.mp hi)
end
end Mini
end
section -- P8
namespace Mini
open PySem PySem.W PyProof.Rows

noncomputable def bval (b : Bi) : Value := match b with
  | .len => .builtin "len" | .abs => .builtin "abs" | .int => .type "int" | .max2 => .builtin "max" | .max1 => .builtin "max" | .min1 => .builtin "min" | .list => .type "list" | .sorted => .builtin "sorted"
/-- ints in an array, and the best of them -/
structure Nums (ns : List Int) (xs : Array (Int × Tok)) : Prop where
  sz : xs.size = ns.length
  num : ∀ i, numAt xs i = ns.getD i 0
theorem nums_of {items : Array Value} {ns : List Int} (h : IntsAre items.toList ns) : ∃ xs, items = intItems xs ∧ Nums ns xs := by
  obtain ⟨xs, e⟩ := h.allInts.items
  rw [toList_arr] at e
  have q : ns = xs.toList.map (·.1) := by rw [← h.numsOf, ← nums_intItems, ← e]
  exact ⟨xs, e, by rw [q, List.length_map, Array.length_toList], fun i => by rw [numAt_eq, q]⟩
theorem best_mem {ns : List Int} {xs : Array (Int × Tok)} (h : Nums ns xs) (h0 : 0 < ns.length) {i : Nat} (hi : i ≤ xs.size - 1) : numAt xs i ∈ ns :=
  h.num i ▸ PySem.getD_mem (Nat.lt_of_le_of_lt hi (by rw [h.sz]; exact Nat.sub_lt h0 Nat.one_pos))
theorem best_all {ns : List Int} {xs : Array (Int × Tok)} (h : Nums ns xs) {p : Int → Prop} (hp : ∀ j, j ≤ xs.size - 1 → p (numAt xs j)) : ∀ x ∈ ns, p x := fun x hx => by
  obtain ⟨j, hj, rfl⟩ := mem_getD hx
  exact h.num j ▸ hp j (Nat.le_sub_one_of_lt (h.sz ▸ hj))
section
variable {Z : Zt} {A : Around} {E : Value → Shared → Prop} {G Hd : HMap} {p : Pool} {s : Shared} {Q : Value → Shared → Prop} {k : Bool → D → Prop}
@[elab_as_elim] theorem on1.rep {vs : List Value} {ds : List D} {m : List Value → Prop} {K : D → Prop} (h : on1 ds K) (hv : VReps Z.P G vs ds) (k : ∀ v x, VRep Z.P G v x → K x → m [v]) : m vs := by
  rcases ds with _ | ⟨x, _ | ⟨_, _⟩⟩
  · exact h.elim
  · exact hv.consE fun v r a b => b.nilE (m := fun r => m (v :: r)) (k v x a h)
  · exact h.elim
@[elab_as_elim] theorem on2.rep {vs : List Value} {ds : List D} {m : List Value → Prop} {K : D → D → Prop} (h : on2 ds K) (hv : VReps Z.P G vs ds) (k : ∀ v x u y, VRep Z.P G v x → VRep Z.P G u y → K x y → m [v, u]) : m vs := by
  cases ds with
  | nil => exact h.elim
  | cons x r => exact hv.consE fun v vs a b => on1.rep (m := fun vs => m (v :: vs)) (show on1 r (K x) from h) b fun u y c h => k v x u y a c h
theorem abs_eq (i : Int) : (if i < 0 then -i else i) = (i.natAbs : Int) := by
  by_cases h : i < 0
  · rw [if_pos h]; exact (Int.ofNat_natAbs_of_nonpos (Int.le_of_lt h)).symm
  · rw [if_neg h]; exact (Int.natAbs_of_nonneg (Int.not_lt.mp h)).symm
theorem prim_bi {b : Bi} {vs : List Value} {ds : List D} (h : biW b ds k) (S : StOK Z.h₀ Z.P G Hd p s) (hA : A.handled = none) (hv : VReps Z.P G vs ds) (q : OpQ Z G Hd p s k Q) : wpAny Z.M A (call (bval b) vs) Q E s := by
  cases b with
  | len => exact on1.rep h hv fun v x hv h => asL.rep h hv fun a items ds g r h => Calls.call_len_list (g.at S).1 (by rw [size_of r]; have := h.1; have : lim = 100000 := rfl; omega) (by rw [size_of r]; exact q.tok S h.2 (.int _ _) _)
  | abs => exact on1.rep h hv fun v x hv h => asI.rep h hv fun i t h => call_abs_int fun u tk => by rw [abs_eq]; exact q.tok S h (.int _ _) _
  | int => exact on1.rep h hv fun v x hv h => asB.rep h hv fun c h => call_int_bool (q.tok S h (.int _ _) _)
  | max2 => exact on2.rep h hv fun v x u y hv hu h => asI.rep h hv fun i t h => asI.rep h hu fun j t' h => max_two_ints hA fun h' tk hk => q.keep S hk h (by
      by_cases e : i < j
      · rw [if_pos e, if_pos e]; exact .int _ _
      · rw [if_neg e, if_neg e]; exact .int _ _)
  | max1 =>
    refine on1.rep h hv fun v x hv h => asL.rep h hv fun a items ds g r ⟨i, l, e, h⟩ => ?_
    subst e
    obtain ⟨xs, rfl, N⟩ := nums_of (ints_of r)
    refine max_intList hA (g.at S).1 (by rw [N.sz]; exact Nat.succ_pos _) fun v h' tk hv hk => ?_
    obtain ⟨t, rfl⟩ := intItems_at hv
    obtain ⟨h1, h2⟩ := argBest_gt (numAt xs) (xs.size - 1)
    exact q.keep S hk (h _ (best_mem N (Nat.succ_pos _) h1) (best_all N h2)) (.int _ _)
  | min1 =>
    refine on1.rep h hv fun v x hv h => asL.rep h hv fun a items ds g r ⟨i, l, e, h⟩ => ?_
    subst e
    obtain ⟨xs, rfl, N⟩ := nums_of (ints_of r)
    refine min_intList hA (g.at S).1 (by rw [N.sz]; exact Nat.succ_pos _) fun v h' tk hv hk => ?_
    obtain ⟨t, rfl⟩ := intItems_at hv
    obtain ⟨h1, h2⟩ := argBest_lt (numAt xs) (xs.size - 1)
    exact q.keep S hk (h _ (best_mem N (Nat.succ_pos _) h1) (best_all N h2)) (.int _ _)
  | list => exact on1.rep h hv fun v x hv h => asL.rep h hv fun a items ds g r h => g.rec fun o n g1 g2 g3 => call_list_seq a (.inl rfl) (S.agrG _ _ g1) g2 g3 (fun h' c' hk hD => q.newAt S (t := s.toks) hk (Nat.le_refl _) hD h.2 r) (by rw [size_of r]; exact Nat.le_trans h.1 sizeLine_lim)
  | sorted =>
    refine on1.rep h hv fun v x hv h => ?_
    cases x with
    | list l => exact prim_sorted S hv h q
    | _ => exact h.elim
theorem bi_name (b : Bi) : biName b ∈ bnames ∧ bootBuiltins (biName b) = some (bval b) := by
  cases b <;> exact ⟨by decide +kernel, by decide +kernel⟩
theorem bi_call {f : Value} {pos : Pos} {args : List (Bool × Sem Value)} {b : Bi} (hf : bval b = f) (hplain : args.any (·.1) = false) (h : wpAny Z.M A (evalArgs f true args []) (fun a s₁ => wpAny Z.M A (call f a.pos a.kw) Q E s₁) E s) : wpAny Z.M A (callWith pos f [] args []) Q E s := by
  subst hf
  cases b with
  | int => exact PySem.callWith_type hplain h
  | list => exact PySem.callWith_type hplain h
  | _ => exact Calls.callWith_builtin hplain h
theorem snd_bi {fad : Nat → Addr} (GO : GlobOK Z.h₀ fad) (b : Bi) {es : Ex} (I : Snd Z es) : Snd Z (.bi b es) := .plain rfl
  (fun F e hc Φ ε Q E G p s h o k hx => ck_bi hc fun g args pos hg hs hn => PyProof.Rows.Call_ (glob_bi GO hg (bi_name b).1 (bi_name b).2 o
    (bi_call rfl (backTo_plain hs) (evalArgs_of hs hn (I.es F hs h o (fun l q vs G1 s1 h n hv => prim_bi h n.st F.X.handled hv fun fl d v G2 s2 h n2 hv => k _ _ _ _ _ _ h (n.trans n2) hv) hx)))) (eval_callG hg)) fun hc env => ck_bi hc fun _ _ _ hg _ _ => isG_eqK hg fun _ _ _ => rfl
end
end Mini
end
section -- P21
namespace Mini
open PySem PySem.W PyProof.Rows

section
variable {Z : Zt} {fad : Nat → Addr}
theorem snd_void {x : Ex} (hl : isL x = false) (h1 : ∀ ns e, ckE ns x e = false) : Snd Z x where
  ev := fun F e hc => by rw [h1] at hc; cases hc
  t := fun F e hc => by rw [h1] at hc; cases hc
  es := fun F es pos hc => (noEs hl hc).elim
theorem both {x : Ex} (h : Snd Z x) (e : ∀ ns e, ckI ns x e = ckE ns x e) : Snd Z x ∧ ISnd Z x := ⟨h, isnd_of h e⟩
theorem snd_all (GO : GlobOK Z.h₀ fad) (FA : FnsAt Z.h₀ fad) (CS : ∀ f, f < 25 → CallSound Z fad f) (x : Ex) : Snd Z x ∧ ISnd Z x := by
  induction x with
  | int i => exact both (snd_int i) fun _ _ => rfl
  | bool i => exact both (snd_bool i) fun _ _ => rfl
  | none => exact both snd_none fun _ _ => rfl
  | var i => exact both (snd_var i) fun _ _ => rfl
  | bin o a b Ia Ib => exact both (snd_bin o Ia.1 Ib.1) fun _ _ => rfl
  | neg a Ia => exact both (snd_neg Ia.1) fun _ _ => rfl
  | rep a b Ia Ib => exact both (snd_rep Ia.1 Ib.1) fun _ _ => rfl
  | cmp o a b Ia Ib => exact both (snd_cmp o Ia.1 Ib.1) fun _ _ => rfl
  | chain o o' a b c Ia Ib Ic => exact both (snd_chain o o' Ia.1 Ib.1 Ic.1) fun _ _ => rfl
  | and a b Ia Ib => exact both (snd_and Ia.1 Ib.1) fun _ _ => rfl
  | or a b Ia Ib => exact both (snd_or Ia.1 Ib.1) fun _ _ => rfl
  | not a Ia => exact both (snd_not Ia.1) fun _ _ => rfl
  | ite c a b Ic Ia Ib => exact both (snd_ite Ic.1 Ia.1 Ib.1) fun _ _ => rfl
  | list es Is => exact both (snd_list Is.1) fun _ _ => rfl
  | tup es Is => exact both (snd_tup Is.1) fun _ _ => rfl
  | nil => exact both snd_nil fun _ _ => rfl
  | cons a b Ia Ib => exact both (snd_cons Ia.1 Ib.1) fun _ _ => rfl
  | sub a b Ia Ib => exact both (snd_sub Ia.1 Ib.1) fun _ _ => rfl
  | subv x b Ib => exact both (snd_subv x Ib.1) fun _ _ => rfl
  | slice a b c d Ia Ib Ic Id => exact both (snd_slice Ia.1 Ib.1 Ic.1 Id.1) fun _ _ => rfl
  | lenv x => exact both (snd_lenv GO x) fun _ _ => rfl
  | call f es Is => exact both (snd_call GO FA CS f Is.1) fun _ _ => rfl
  | bi b es Is => exact both (snd_bi GO b Is.1) fun _ _ => rfl
  | isint a Ia => exact both (snd_isint GO Ia.1) fun _ _ => rfl
  | comp tg isT fv elt it cond I1 I2 I3 => exact both (snd_comp I1.1 I3.1 I2.2) fun _ _ => rfl
  | range es Is => exact ⟨snd_void rfl fun _ _ => rfl, isnd_range GO Is.1⟩
  | enum a Ia => exact ⟨snd_void rfl fun _ _ => rfl, isnd_enum GO Ia.1⟩
  | zip a b Ia Ib => exact ⟨snd_void rfl fun _ _ => rfl, isnd_zip GO Ia.1 Ib.1⟩
  | rev a Ia => exact ⟨snd_void rfl fun _ _ => rfl, isnd_rev GO Ia.1⟩
end
end Mini
end
section -- P22
namespace Mini
open PySem PySem.W PyProof.Rows

section
variable {Z : Zt} {base : Heap} {A : Around} {G Hd H : HMap} {p q : Pool} {s s' : Shared} {env : Env} {l outer : List Env} {ea L : Addr} {tb : Bool} {h₀ h h' : Heap} {G' : HMap}

theorem XB.weakH (l0 : Le Hd H) (x : XB h₀ base tb l G H ea h) : XB h₀ base tb l G Hd ea h := { x with hd := fun a o e hn => x.hd a o (l0 a o e) hn }
/-- a heap that keeps what stood before the exception -/
theorem StOK.x (S : StOK Z.h₀ Z.P G Hd q s') (x : XB Z.h₀ base tb l G Hd ea h) (stay : base.StaysIn h') (up : s'.heap.UpToSlots h') : StOK Z.h₀ Z.P G Hd q { s' with heap := h' } where
  agrG := fun a o e => stay a o (x.g a o e)
  agrH := fun a o e => by
    by_cases hn : ∃ es n, o.data = .dict es n
    · have ⟨es, n, hn'⟩ := hn
      obtain ⟨sl, hs⟩ := S.agrH.get e
      obtain ⟨sl', hs'⟩ := up a _ hs fun vs (w : o.data = _) => by rw [hn'] at w; cases w
      exact .inr ⟨hn, sl', hs'⟩
    · exact .inl (stay a o (x.hd a o e fun es n w => hn ⟨es, n, w⟩))
  sep := S.sep
  base := fun b o e => stay b o (x.low b o e)
  pool := fun r e => by
    obtain ⟨⟨o, t, u, n, h1, h2, h3⟩, h4⟩ := S.pool r e
    obtain ⟨sl, hs⟩ := up Z.P o h1 fun vs w => by rw [h3] at w; cases w
    exact ⟨⟨_, t, u, n, hs, h2, h3⟩, h4⟩
/-- an exception with a traceback -/
theorem XB.tr (x : XB h₀ base true l G Hd ea h) : ∃ C a0 fl, BadC h₀ C ∧ h.TracedAtW base ea (.ref C) a0 fl := by
  obtain ⟨C, a0, hC, ⟨w, _⟩ | w | ⟨_, _, _, _, w⟩⟩ := x.exc
  · cases w
  · exact ⟨C, a0, _, hC, w⟩
  · exact ⟨C, a0, _, hC, w⟩

/-- a frame is noted -/
theorem XB.note {Q : Unit → Shared → Prop} {E : Value → Shared → Prop} (hfr : A.frames = some (env :: outer)) (hf : env.frame = some L) (x : XB h₀ base tb (env :: outer) G Hd ea s.heap)
    (k : ∀ h', XB h₀ base true (env :: outer) G Hd ea h' → s.heap.UpToSlots h' → Q () { s with heap := h' }) : wpAny Z.M A (noteFrame (.ref ea) env) Q E s := by
  obtain ⟨C, a0, hC, hx⟩ := x.exc
  have done : ∀ h', Heap.NotedW base (env :: outer) ea (.ref C) a0 (rawInt L) s.heap h' → Q () { s with heap := h' } := fun h' hN =>
    k h' { x with stay := hN.1, ff := hN.2.1, exc := ⟨C, a0, hC, .inr (.inr ⟨env, L, rfl, hf, hN.2.2.1⟩)⟩ } hN.2.2.2
  rcases hx with ⟨_, oe, vs, he, hc, hdd, h0, h1⟩ | hx | ⟨env', L', he, hf', hx⟩
  · unfold noteFrame
    simp only [hf]
    refine wpAny_bind (wpAny_field he hdd h1 ?_)
    rw [if_neg (by decide)]
    exact wpAny_entryW (base := base) hfr x.ff hf he x.stay x.new hdd (Array.getElem?_eq_some_iff.mp h1).1 h0 fun h' hN => done h' (hc ▸ hN)
  · exact wpAny_noteFrame_onW hfr x.ff hf hx x.stay x.new done
  · cases he
    rw [hf] at hf'; cases hf'
    exact wpAny_noteFrame_againW hf hx (k s.heap { x with exc := ⟨C, a0, hC, .inr (.inr ⟨env, L, rfl, hf, hx⟩)⟩ } (.refl _))

/-- the flight's frame is set -/
theorem setFlight_any {cls a0 fl : Value} {fr : Option Addr} {Q : Unit → Shared → Prop} {E : Value → Shared → Prop} (hkb : base.StaysIn s.heap) (hl : s.heap.FunFrames base l) (ht : s.heap.TracedAtW base ea cls a0 fl)
    (k : ∀ h', base.StaysIn h' → h'.FunFrames base l → h'.TracedAtW base ea cls a0 (fr.elim .none fun f => rawInt f) → s.heap.UpToSlots h' → Q () { s with heap := h' }) : wpAny Z.M A (setFlight (.ref ea) fr) Q E s := by
  obtain ⟨oe, vs, T, oT, ts, he, hcls, hd, h1, hnT, hTe, hT, hdT, h3⟩ := ht
  have hsz3 : 3 < ts.size := (Array.getElem?_eq_some_iff.mp h3).1
  have other : ∀ b, b ≠ T → (s.heap.update T (Obj.mapFields (·.setIfInBounds 3 (fr.elim Value.none fun f => rawInt f)))).get? b = s.heap.get? b := fun b hb => Heap.get?_update_other _ _ (Ne.symm hb)
  have noRecord : ∀ b o, s.heap.get? b = some o → (∀ vs, o.data ≠ .fields vs) → b ≠ T := fun b o hb hnf q => by
    rw [q, hT] at hb; cases hb; exact hnf ts hdT
  unfold setFlight
  refine wpAny_bind (wpAny_field he hd h1 ?_)
  rw [if_pos (show (Value.ref T != Value.none) = true from rfl)]
  exact wpAny_setField hT hdT hsz3 (k _ (fun b o hbo => (other b fun q => by rw [q, hnT] at hbo; cases hbo).trans (hkb b o hbo))
    (hl.of_keeps fun b o hb hnf => ⟨o, (other b (noRecord b o hb hnf)).trans hb, rfl⟩)
    ⟨oe, vs, T, _, _, (other ea (Ne.symm hTe)).trans he, hcls, hd, h1, hnT, hTe, Heap.get?_update_self _ hT (Obj.isFreed_of_fields (Obj.data_mapFields hdT _)), Obj.data_mapFields hdT _, Array.getElem?_setIfInBounds_self_of_lt hsz3⟩
    fun b o hb hnf => ⟨o.slots, (other b (noRecord b o hb hnf)).trans hb⟩)
theorem XB.fly {fr : Option Addr} {Q : Unit → Shared → Prop} {E : Value → Shared → Prop} (hfr : fr = none ∨ ∃ env L, l.head? = some env ∧ env.frame = some L ∧ fr = some L) (x : XB h₀ base true l G Hd ea s.heap)
    (k : ∀ h', XB h₀ base true l G Hd ea h' → s.heap.UpToSlots h' → Q () { s with heap := h' }) : wpAny Z.M A (setFlight (.ref ea) fr) Q E s := by
  obtain ⟨C, a0, fl, hC, ht⟩ := x.tr
  refine setFlight_any x.stay x.ff ht fun h' k1 k2 k3 k4 => k h' { x with stay := k1, ff := k2, exc := ⟨C, a0, hC, ?_⟩ } k4
  rcases hfr with rfl | ⟨env, L, he, hf, rfl⟩
  · exact .inr (.inl k3)
  · exact .inr (.inr ⟨env, L, he, hf, k3⟩)

/-- an exception in flight, its heap told -/
structure XAt (Z : Zt) (base : Heap) (tb : Bool) (l : List Env) (G Hd : HMap) (s : Shared) (q : Pool) (ea : Addr) (G' : HMap) (s' : Shared) : Prop where
  n : Nxt Z.h₀ Z.P G Hd s G' q s'
  x : XB Z.h₀ base tb l G' Hd ea s'.heap
theorem XAt.step {tb' : Bool} {l' : List Env} (a : XAt Z base tb l G Hd s q ea G' s') (x : XB Z.h₀ base tb' l' G' Hd ea h') (up : s'.heap.UpToSlots h') : XAt Z base tb' l' G Hd s q ea G' { s' with heap := h' } := ⟨⟨a.n.le, a.n.st.x a.x x.stay up, a.n.sm.trans (.heap ..)⟩, x⟩
theorem XAt.ok (a : XAt Z base tb l G Hd s q ea G' s') : XOK Z.h₀ Z.P l G Hd s q (.ref ea) s' := .mk ea G' rfl a.n (.mk base tb a.x)
@[elab_as_elim] theorem XOK.at {m : Value → Prop} {e : Value} (x : XOK Z.h₀ Z.P l G Hd s q e s') (k : ∀ base tb ea G', XAt Z base tb l G Hd s q ea G' s' → m (.ref ea)) : m e :=
  x.rec fun ea G' he hn hx => hx.rec fun base tb x => he ▸ k base tb ea G' ⟨hn, x⟩
theorem XAt.noted {E : Value → Shared → Prop} (hfr : A.frames = some (env :: outer)) (hf : env.frame = some L) (a : XAt Z base tb (env :: outer) G Hd s q ea G' s') (k : ∀ s'', XAt Z base true (env :: outer) G Hd s q ea G' s'' → E (.ref ea) s'') : notedBy Z.M A env E (.ref ea) s' :=
  a.x.note hfr hf fun _ x up => k _ (a.step x up)
theorem XAt.came {E : Value → Shared → Prop} (hf : env.frame = some L) (a : XAt Z base true (env :: outer) G Hd s q ea G' s') (k : ∀ s'', XAt Z base true (env :: outer) G Hd s q ea G' s'' → E (.ref ea) s'') : cameBackBy Z.M A env E (.ref ea) s' := by
  unfold cameBackBy
  obtain ⟨C, a0, fl, hC, oe, vs, T, _, _, h1, _, h3, h4, _⟩ := a.x.tr
  refine wpAny_bind (wpAny_field h1 h3 h4 ?_)
  rw [if_neg (show ¬ ((Value.ref T == Value.none) = true) from nofun)]
  exact a.x.fly (fr := env.frame) (.inr ⟨env, L, rfl, hf, hf⟩) fun _ x up => k _ (a.step x up)
theorem XOK.leaves {e : Value} {E : Value → Shared → Prop} {Q : Unit → Shared → Prop} (hfr : A.frames = some (env :: outer)) (hf : env.frame = some L) (x : XOK Z.h₀ Z.P (env :: outer) G Hd s q e s') (k : ∀ s'', XOK Z.h₀ Z.P outer G Hd s q e s'' → Q () s'') : wpAny Z.M A (leaving env e) Q E s' := by
  revert k
  refine x.at fun base tb ea G' a k => ?_
  unfold leaving
  refine wpAny_bind (a.x.note hfr hf fun h' x' up => ?_)
  have a2 := a.step x' up
  obtain ⟨C, a0, fl, hC, ht⟩ := x'.tr
  exact setFlight_any (s := { s' with heap := h' }) x'.stay x'.ff ht fun h2 k1 k2 k3 k4 => k _ (a2.step (tb' := true) (l' := outer) { x' with stay := k1, ff := k2.2.2, exc := ⟨C, a0, hC, .inr (.inl k3)⟩ } k4).ok
theorem XOK.weak {e : Value} (l0 : Le Hd H) (x : XOK Z.h₀ Z.P l G H s q e s') : XOK Z.h₀ Z.P l G Hd s q e s' :=
  x.rec fun ea G' he hn hx => .mk ea G' he (hn.weak l0) (hx.rec fun base tb x => .mk base tb (x.weakH l0))
/-- a state that is reached before the exception -/
theorem XOK.later {G1 : HMap} {e : Value} {s1 : Shared} (lg : Le G G1) (sm : Sm s s1) (x : XOK Z.h₀ Z.P l G1 Hd s1 q e s') : XOK Z.h₀ Z.P l G Hd s q e s' :=
  x.rec fun ea G' he hn hx => .mk ea G' he ⟨lg.trans hn.le, hn.st, sm.trans hn.sm⟩ hx
end
end Mini
end
section -- P23
namespace Mini
open PySem PySem.W PyProof.Rows

/-! ## statements: the check that a term of mine is that statement -/
noncomputable def notComp : Expr → Bool
  | .ListComp .. => false
  | .SetComp .. => false
  | .DictComp .. => false
  | _ => true
noncomputable def swOk (ns : Ns) (t v : Expr) : Bool := match rComp v with
  | some u => oB (rName t) fun n => ns.scope.names.lookup n.1.1 == some .local && (n.1.2.line == v.pos.line && !(u.1.2.2.1.names.any fun x => x.1 == n.1.1 && (x.2 == .local || x.2 == .cell)))
  | none => notComp v
noncomputable def swapN (ns : Ns) (ts vs : List Expr) : Option (Option (List Str)) :=
  if (!(ts.length == 2 || ts.length == 3) || vs.length != ts.length) = true then some none else
  if (vs.any fun | .Starred .. => true | _ => false) = true then some none else
  let line := (ts.head?.map (·.pos.line)).getD 0
  let names := ts.filterMap fun
    | .Name id pos => if ns.scope.names.lookup id == some .local && pos.line == line then some id else none
    | _ => none
  if (names.length != ts.length || names.eraseDups.length != names.length) = true then some none else
  if vs.all (foldedForSure 8) = true then some none else
  if vs.all (constantsAlone 8) = true then none else
  some (some names)
noncomputable def swapIs (ns : Ns) (xs : List Nat) (ts vs : List Expr) : Bool := match swapN ns ts vs with
  | none => false
  | some none => true
  | some (some names) => xs.map (fun x => ns.vars[x]?) == names.map some
noncomputable def isCall : Expr → Bool
  | .Call .. => true
  | _ => false
noncomputable def isAdd : Operator → Bool
  | .Add => true
  | _ => false
noncomputable def bopAdd : Bop → Bool
  | .add => true
  | _ => false
/-- the parts of the text of a refusal: constants, and names of ints -/
noncomputable def rStr : (e : Expr) → Option { t : Str × Nat × Pos // e = .Constant (.str t.1) t.2.1 t.2.2 }
  | .Constant (.str y) k p => some ⟨(y, k, p), rfl⟩
  | _ => none
noncomputable def rFmt : (e : Expr) → Option { t : Expr × Int × Pos // e = .FormattedValue t.1 t.2.1 none t.2.2 }
  | .FormattedValue v c none p => some ⟨(v, c, p), rfl⟩
  | _ => none
noncomputable def partsOk (ns : Ns) : List Expr → List Nat → Bool
  | [], xs => xs.isEmpty
  | e :: r, xs => match rStr e with
    | some y => decide (y.1.1.length ≤ 900) && partsOk ns r xs
    | none => oB (rFmt e) fun v => oB (uncons xs) fun x => v.1.2.1 == -1 && (isV ns x.1.1 v.1.1 && partsOk ns r x.1.2)
noncomputable def isRet : St → Bool
  | .cons (.ret [] (.bool true)) .nil => true
  | _ => false

noncomputable def rAsg : (b : Stmt) → Option { t : List Expr × Expr × Pos // b = .Assign t.1 t.2.1 t.2.2 }
  | .Assign t v p => some ⟨(t, v, p), rfl⟩
  | _ => none
noncomputable def rAug : (b : Stmt) → Option { t : Expr × Operator × Expr × Pos // b = .AugAssign t.1 t.2.1 t.2.2.1 t.2.2.2 }
  | .AugAssign t o v p => some ⟨(t, o, v, p), rfl⟩
  | _ => none
noncomputable def rExp : (b : Stmt) → Option { t : Expr × Pos // b = .Expr t.1 t.2 }
  | .Expr v p => some ⟨(v, p), rfl⟩
  | _ => none
noncomputable def rRet : (b : Stmt) → Option { t : Option Expr × Pos // b = .Return t.1 t.2 }
  | .Return v p => some ⟨(v, p), rfl⟩
  | _ => none
noncomputable def rIte : (b : Stmt) → Option { t : Expr × List Stmt × List Stmt × Pos // b = .If t.1 t.2.1 t.2.2.1 t.2.2.2 }
  | .If t x y p => some ⟨(t, x, y, p), rfl⟩
  | _ => none
noncomputable def rWhi : (b : Stmt) → Option { t : Expr × List Stmt × Pos // b = .While t.1 t.2.1 [] t.2.2 }
  | .While t x [] p => some ⟨(t, x, p), rfl⟩
  | _ => none
noncomputable def rFor : (b : Stmt) → Option { t : Expr × Expr × List Stmt × Pos // b = .For t.1 t.2.1 t.2.2.1 [] t.2.2.2 }
  | .For t i x [] p => some ⟨(t, i, x, p), rfl⟩
  | _ => none
noncomputable def rCon : (b : Stmt) → Option { t : Pos // b = .Continue t }
  | .Continue p => some ⟨p, rfl⟩
  | _ => none
noncomputable def rRai : (b : Stmt) → Option { t : Expr × Pos // b = .Raise (some t.1) none t.2 }
  | .Raise (some e) none p => some ⟨(e, p), rfl⟩
  | _ => none
noncomputable def rTry : (b : Stmt) → Option { t : List Stmt × List ExceptHandler × Pos // b = .Try t.1 t.2.1 [] [] t.2.2 }
  | .Try x h [] [] p => some ⟨(x, h, p), rfl⟩
  | _ => none
noncomputable def rHan : (b : ExceptHandler) → Option { t : Expr × List Stmt × Pos // b = .ExceptHandler (some t.1) none t.2.1 t.2.2 }
  | .ExceptHandler (some g) none x p => some ⟨(g, x, p), rfl⟩
  | _ => none
noncomputable def rAtt : (e : Expr) → Option { t : Expr × Str × Pos // e = .Attribute t.1 t.2.1 t.2.2 }
  | .Attribute v m p => some ⟨(v, m, p), rfl⟩
  | _ => none
noncomputable def rJoi : (e : Expr) → Option { t : List Expr × Pos // e = .JoinedStr t.1 t.2 }
  | .JoinedStr v p => some ⟨(v, p), rfl⟩
  | _ => none
noncomputable def oP {α : Type} : (x : Option α) → Option { t : α // x = some t }
  | some t => some ⟨t, rfl⟩
  | none => none
mutual
noncomputable def ckS (ns : Ns) : St → Stmt → Bool
  | .assign _ x e, b => oB (rAsg b) fun t => oB (l1 t.1.1) fun u => isV ns x u.1 && (ckE ns e t.1.2.1 && swOk ns u.1 t.1.2.1)
  | .tupA _ xs es, b => oB (rAsg b) fun t => oB (l1 t.1.1) fun u => oB (rTup u.1) fun ts => oB (rTup t.1.2.1) fun vs => tgGo ns xs ts.1.1 && (ckEs ns es vs.1.1 && (decide xs.Nodup && (decide (xs.length ≤ 100) && swapIs ns xs ts.1.1 vs.1.1)))
  | .unp _ xs e, b => oB (rAsg b) fun t => oB (l1 t.1.1) fun u => oB (rTup u.1) fun ts => tgGo ns xs ts.1.1 && (ckE ns e t.1.2.1 && isCall t.1.2.1)
  | .setS _ x i e, b => oB (rAsg b) fun t => oB (l1 t.1.1) fun u => oB (rSub u.1) fun o => isV ns x o.1.1 && (notSlice o.1.2.1 && (ckE ns i o.1.2.1 && (ckE ns e t.1.2.1 && notComp t.1.2.1)))
  | .aug _ x o e, b => oB (rAug b) fun t => isV ns x t.1.1 && (isAdd t.1.2.1 && (bopAdd o && ckE ns e t.1.2.2.1))
  | .augS _ x i o e, b => oB (rAug b) fun t => oB (rSub t.1.1) fun u => isV ns x u.1.1 && (notSlice u.1.2.1 && (ckE ns i u.1.2.1 && (isAdd t.1.2.1 && (bopAdd o && ckE ns e t.1.2.2.1))))
  | .app _ x e, b => oB (rExp b) fun t => oB (rCall t.1.1) fun c => oB (rAtt c.1.1) fun u => oB (l1 c.1.2.1) fun v => isV ns x u.1.1 && (u.1.2.1 == ("append" : Str) && (u.1.2.2.endLine == c.1.2.2.line && ckE ns e v.1))
  | .expr _ e, b => oB (rExp b) fun t => ckE ns e t.1.1 && notComp t.1.1
  | .ret _ e, b => oB (rRet b) fun t => oB (oP t.1.1) fun v => ckE ns e v.1
  | .retN, b => oB (rRet b) fun t => t.1.1.isNone
  | .ite _ c x y, b => oB (rIte b) fun t => ckE ns c t.1.1 && (ckB ns x t.1.2.1 && ckB ns y t.1.2.2.1)
  | .whil c x, b => oB (rWhi b) fun t => ckE ns c t.1.1 && ckB ns x t.1.2.1
  | .for_ _ tg isT it x, b => oB (rFor b) fun t => okT it isT && (tgOk ns tg isT t.1.1 && (ckI ns it t.1.2.1 && ckB ns x t.1.2.2.1))
  | .cont, b => oB (rCon b) fun _ => true
  | .raise xs, b => oB (rRai b) fun t => oB (rCall t.1.1) fun c => oB (l1 c.1.2.1) fun v => oB (rJoi v.1) fun u => isG ns "BadArgument" c.1.1 && (partsOk ns u.1.1 xs && (decide (2 ≤ u.1.1.length) && decide (u.1.1.length ≤ 100)))
  | .tryE _ e h, b => oB (rTry b) fun t => oB (l1 t.1.1) fun x => oB (rExp x.1) fun v => oB (l1 t.1.2.1) fun y => oB (rHan y.1) fun g => oB (l1 g.1.2.1) fun z => oB (rRet z.1) fun r => oB (oP r.1.1) fun c => oB (rBol c.1) fun k => k.1.1 && (isRet h && (isG ns "BadArgument" g.1.1 && (ckE ns e v.1.1 && notComp v.1.1)))
  | .bad, _ => true
  | .nil, _ => false
  | .cons _ _, _ => false
termination_by structural x => x
noncomputable def ckB (ns : Ns) : St → List Stmt → Bool
  | .nil, l => l.isEmpty
  | .cons s r, l => oB (uncons l) fun t => ckS ns s t.1.1 && ckB ns r t.1.2
  | _, _ => false
termination_by structural x => x
end

end Mini
end
section -- P24
namespace Mini
open PySem PySem.W PyProof.Rows

section
variable {ns : Ns}
@[elab_as_elim] theorem cs_expr {fz : List Nat} {e : Ex} {b : Stmt} (h : ckS ns (.expr fz e) b = true) {m : Stmt → Prop} (K0 : ∀ v pos, ckE ns e v = true → notComp v = true → m (.Expr v pos)) : m b :=
  (oB_true h).elim fun t h =>
  kk (K0 _ _ ((bb h).1) ((bb h).2)) (t.2)
@[elab_as_elim] theorem cs_assign {fz : List Nat} {x : Nat} {e : Ex} {b : Stmt} (h : ckS ns (.assign fz x e) b = true) {m : Stmt → Prop} (K0 : ∀ t v pos, isV ns x t = true → ckE ns e v = true → swOk ns t v = true → m (.Assign [t] v pos)) : m b :=
  (oB_true h).elim fun t h =>
  (oB_true h).elim fun u h =>
  kk (K0 u.1 _ _ ((bb h).1) ((bb (bb h).2).1) ((bb (bb h).2).2)) (u.2 ▸ t.2)
@[elab_as_elim] theorem cs_tupA {fz xs : List Nat} {es : Ex} {b : Stmt} (h : ckS ns (.tupA fz xs es) b = true) {m : Stmt → Prop} (K0 : ∀ ts k q vs k2 q2 pos, tgGo ns xs ts = true → ckEs ns es vs = true → xs.Nodup → xs.length ≤ 100 → swapIs ns xs ts vs = true → m (.Assign [.Tuple ts k q] (.Tuple vs k2 q2) pos)) : m b :=
  (oB_true h).elim fun t h =>
  (oB_true h).elim fun u h =>
  (oB_true h).elim fun x h =>
  (oB_true h).elim fun y h =>
  have h1 := bb (bb h).2
  have h2 := bb h1.2
  have h3 := bb h2.2
  kk (K0 _ _ _ _ _ _ t.1.2.2 ((bb h).1) h1.1 (of_decide_eq_true h2.1) (of_decide_eq_true h3.1) h3.2) (by rw [← x.2, ← y.2, ← u.2]; exact t.2)
@[elab_as_elim] theorem cs_unp {fz xs : List Nat} {e : Ex} {b : Stmt} (h : ckS ns (.unp fz xs e) b = true) {m : Stmt → Prop} (K0 : ∀ ts k q v pos, tgGo ns xs ts = true → ckE ns e v = true → isCall v = true → m (.Assign [.Tuple ts k q] v pos)) : m b :=
  (oB_true h).elim fun t h =>
  (oB_true h).elim fun u h =>
  (oB_true h).elim fun x h =>
  kk (K0 _ _ _ _ t.1.2.2 ((bb h).1) ((bb (bb h).2).1) ((bb (bb h).2).2)) (by rw [← x.2, ← u.2]; exact t.2)
@[elab_as_elim] theorem cs_setS {fz : List Nat} {x : Nat} {i e : Ex} {b : Stmt} (h : ckS ns (.setS fz x i e) b = true) {m : Stmt → Prop} (K0 : ∀ o s q v pos, isV ns x o = true → notSlice s = true → ckE ns i s = true → ckE ns e v = true → notComp v = true → m (.Assign [.Subscript o s q] v pos)) : m b :=
  (oB_true h).elim fun t h =>
  (oB_true h).elim fun u h =>
  (oB_true h).elim fun x h =>
  have h1 := bb (bb h).2
  have h2 := bb h1.2
  kk (K0 _ _ x.1.2.2 _ t.1.2.2 ((bb h).1) h1.1 h2.1 ((bb h2.2).1) ((bb h2.2).2)) (by rw [← x.2, ← u.2]; exact t.2)
@[elab_as_elim] theorem cs_aug {fz : List Nat} {x : Nat} {o : Bop} {e : Ex} {b : Stmt} (h : ckS ns (.aug fz x o e) b = true) {m : Stmt → Prop} (K0 : ∀ t op v pos, isV ns x t = true → isAdd op = true → bopAdd o = true → ckE ns e v = true → m (.AugAssign t op v pos)) : m b :=
  (oB_true h).elim fun t h =>
  have h1 := bb (bb h).2
  kk (K0 _ _ _ _ ((bb h).1) h1.1 ((bb h1.2).1) ((bb h1.2).2)) (t.2)
@[elab_as_elim] theorem cs_augS {fz : List Nat} {x : Nat} {i : Ex} {o : Bop} {e : Ex} {b : Stmt} (h : ckS ns (.augS fz x i o e) b = true) {m : Stmt → Prop} (K0 : ∀ ob s q op v pos, isV ns x ob = true → notSlice s = true → ckE ns i s = true → isAdd op = true → bopAdd o = true → ckE ns e v = true → m (.AugAssign (.Subscript ob s q) op v pos)) : m b :=
  (oB_true h).elim fun t h =>
  (oB_true h).elim fun u h =>
  have h1 := bb (bb h).2
  have h2 := bb h1.2
  have h3 := bb h2.2
  kk (K0 _ _ u.1.2.2 _ _ t.1.2.2.2 ((bb h).1) h1.1 h2.1 h3.1 ((bb h3.2).1) ((bb h3.2).2)) (by rw [← u.2]; exact t.2)
@[elab_as_elim] theorem cs_app {fz : List Nat} {x : Nat} {e : Ex} {b : Stmt} (h : ckS ns (.app fz x e) b = true) {mo : Stmt → Prop} (K0 : ∀ ob m q v q2 pos, isV ns x ob = true → m = ("append" : Str) → q.endLine = q2.line → ckE ns e v = true → mo (.Expr (.Call (.Attribute ob m q) [v] [] q2) pos)) : mo b :=
  (oB_true h).elim fun t h =>
  (oB_true h).elim fun c h =>
  (oB_true h).elim fun u h =>
  (oB_true h).elim fun v h =>
  have h1 := bb (bb h).2
  have h2 := bb h1.2
  kk (K0 _ _ u.1.2.2 v.1 c.1.2.2 t.1.2 ((bb h).1) (eq_of_beq h1.1) (eq_of_beq h2.1) h2.2) (by rw [← u.2, ← v.2, ← c.2]; exact t.2)
@[elab_as_elim] theorem cs_ret {fz : List Nat} {e : Ex} {b : Stmt} (h : ckS ns (.ret fz e) b = true) {m : Stmt → Prop} (K0 : ∀ v pos, ckE ns e v = true → m (.Return (some v) pos)) : m b :=
  (oB_true h).elim fun t h =>
  (oB_true h).elim fun v h =>
  kk (K0 v.1 _ h) (v.2 ▸ t.2)
@[elab_as_elim] theorem cs_retN  {b : Stmt} (h : ckS ns (.retN) b = true) {m : Stmt → Prop} (K0 : ∀ pos, m (.Return none pos)) : m b :=
  (oB_true h).elim fun t h =>
  kk (K0 _ ) (Option.isNone_iff_eq_none.mp h ▸ t.2)
@[elab_as_elim] theorem cs_ite {fz : List Nat} {c : Ex} {x y : St} {b : Stmt} (h : ckS ns (.ite fz c x y) b = true) {m : Stmt → Prop} (K0 : ∀ t bd el pos, ckE ns c t = true → ckB ns x bd = true → ckB ns y el = true → m (.If t bd el pos)) : m b :=
  (oB_true h).elim fun t h =>
  kk (K0 _ _ _ _ ((bb h).1) ((bb (bb h).2).1) ((bb (bb h).2).2)) (t.2)
@[elab_as_elim] theorem cs_whil {c : Ex} {x : St} {b : Stmt} (h : ckS ns (.whil c x) b = true) {m : Stmt → Prop} (K0 : ∀ t bd pos, ckE ns c t = true → ckB ns x bd = true → m (.While t bd [] pos)) : m b :=
  (oB_true h).elim fun t h =>
  kk (K0 _ _ _ ((bb h).1) ((bb h).2)) (t.2)
@[elab_as_elim] theorem cs_for {fz tg : List Nat} {isT : Bool} {it : Ex} {x : St} {b : Stmt} (h : ckS ns (.for_ fz tg isT it x) b = true) {m : Stmt → Prop} (K0 : ∀ t i bd pos, okT it isT = true → tgOk ns tg isT t = true → ckI ns it i = true → ckB ns x bd = true → m (.For t i bd [] pos)) : m b :=
  (oB_true h).elim fun t h =>
  have h1 := bb (bb h).2
  kk (K0 _ _ _ _ ((bb h).1) h1.1 ((bb h1.2).1) ((bb h1.2).2)) (t.2)
@[elab_as_elim] theorem cs_cont  {b : Stmt} (h : ckS ns (.cont) b = true) {m : Stmt → Prop} (K0 : ∀ pos, m (.Continue pos)) : m b :=
  (oB_true h).elim fun t _ =>
  kk (K0 _ ) (t.2)
@[elab_as_elim] theorem cs_raise {xs : List Nat} {b : Stmt} (h : ckS ns (.raise xs) b = true) {m : Stmt → Prop} (K0 : ∀ g parts q q2 pos, isG ns "BadArgument" g = true → partsOk ns parts xs = true → 2 ≤ parts.length → parts.length ≤ 100 → m (.Raise (some (.Call g [.JoinedStr parts q] [] q2)) none pos)) : m b :=
  (oB_true h).elim fun t h =>
  (oB_true h).elim fun c h =>
  (oB_true h).elim fun v h =>
  (oB_true h).elim fun u h =>
  have h1 := bb (bb h).2
  have h2 := bb h1.2
  kk (K0 _ _ u.1.2 c.1.2.2 t.1.2 ((bb h).1) h1.1 (of_decide_eq_true h2.1) (of_decide_eq_true h2.2)) (by rw [← u.2, ← v.2, ← c.2]; exact t.2)
@[elab_as_elim] theorem cs_try {fz : List Nat} {e : Ex} {x : St} {b : Stmt} (h : ckS ns (.tryE fz e x) b = true) {m : Stmt → Prop} (K0 : ∀ v q1 g u1 u2 q2 q3 pos, isRet x = true → isG ns "BadArgument" g = true → ckE ns e v = true → notComp v = true → m (.Try [.Expr v q1] [.ExceptHandler (some g) none [.Return (some (.Constant (.bool true) u1 u2)) q2] q3] [] [] pos)) : m b :=
  (oB_true h).elim fun t h =>
  (oB_true h).elim fun x h =>
  (oB_true h).elim fun v h =>
  (oB_true h).elim fun y h =>
  (oB_true h).elim fun g h =>
  (oB_true h).elim fun z h =>
  (oB_true h).elim fun r h =>
  (oB_true h).elim fun c h =>
  (oB_true h).elim fun k h =>
  have h1 := bb (bb h).2
  have h2 := bb h1.2
  kk (K0 _ v.1.2 _ k.1.2.1 k.1.2.2 r.1.2 g.1.2.2 t.1.2.2 h1.1 h2.1 ((bb h2.2).1) ((bb h2.2).2)) (by rw [← (bb h).1, ← k.2, ← c.2, ← r.2, ← z.2, ← g.2, ← y.2, ← v.2, ← x.2]; exact t.2)
theorem cb_nil {bs : List Stmt} (h : ckB ns .nil bs = true) : bs = [] :=
  List.isEmpty_iff.mp h
@[elab_as_elim] theorem cb_cons {x r : St} {bs : List Stmt} (h : ckB ns (.cons x r) bs = true) {m : List Stmt → Prop} (K0 : ∀ b rest, ckS ns x b = true → ckB ns r rest = true → m (b :: rest)) : m bs :=
  (oB_true h).elim fun t h =>
  kk (K0 _ _ ((bb h).1) ((bb h).2)) (t.2)
end
end Mini
end
section -- P25
namespace Mini
open PySem PySem.W PyProof.Rows

section
variable {Z : Zt} {A : Around} {G Hd H K : HMap} {p : Pool} {s : Shared} {env : Env} {ns : Ns} {sl : List Slot} {outer l : List Env}
/-- a function's own surroundings -/
structure SCtx (h₀ : Heap) (lvl : Nat) (A : Around) (env : Env) (outer : List Env) (Hd : HMap) : Prop where
  handled : A.handled = none
  depth : A.depth + lvl ≤ 400
  units : A.units + 8 * lvl ≤ 1000
  frames : A.frames = some (env :: outer)
  frame : env.frame = some env.locals
  ff : ∀ h, Agr Hd h → h.FunFrames h₀ outer
  fd : ∀ e ∈ outer, ∀ L, e.frame = some L → ∃ o es n, Hd L = some o ∧ o.data = .dict es n
  cells : OwnCells h₀ Hd env
theorem SCtx.ctx {lvl : Nat} (X : SCtx Z.h₀ lvl A env outer Hd) (F : FrS Z G Hd H env ns sl) : Ctx Z.h₀ lvl A (env :: outer) H where
  handled := X.handled
  depth := X.depth
  units := X.units
  frames := X.frames
  ff := fun h ha => ⟨by rw [F.fnKind]; exact nofun, by
      obtain ⟨o, es, ep, hL, hd, _⟩ := F.L
      obtain ⟨sl', hg⟩ := ha.get hL
      exact ⟨env.locals, _, X.frame, F.Lp.2, hg, fun vs (q : o.data = _) => by rw [hd] at q; cases q⟩, X.ff h fun a o e => ha a o (F.le a o e)⟩
  fd := List.forall_mem_cons.mpr ⟨fun L hL => by
      rw [X.frame] at hL; cases hL
      obtain ⟨o, es, ep, h1, hd, _⟩ := F.L
      exact ⟨o, es, ep, h1, hd⟩, fun e he L hL => let ⟨o, es, n, h1, h2⟩ := X.fd e he L hL; ⟨o, es, n, F.le _ _ h1, h2⟩⟩
theorem SCtx.grow {lvl : Nat} {Hd' : HMap} (X : SCtx Z.h₀ lvl A env outer Hd) (F : FrS Z G Hd H env ns sl) (off : ∀ b o, H b = some o → Hd' b = Hd b) : SCtx Z.h₀ lvl A env outer Hd' :=
  have le : Le Hd Hd' := fun b o e => (off b o (F.le b o e)).trans e
  { X with
    ff := fun h ha => X.ff h fun a o e => ha a o (le a o e)
    fd := fun e he L hL => let ⟨o, es, n, h1, h2⟩ := X.fd e he L hL; ⟨o, es, n, le _ _ h1, h2⟩
    cells := { inj := X.cells.inj, p := fun n c hk hc => let ⟨o, h, _⟩ := F.cellK hk hc; ⟨(off c o h).trans (X.cells.p n c hk hc).1, (X.cells.p n c hk hc).2⟩ } }
/-- more is held, in the base too -/
theorem FrS.grow {Hd' H' : HMap} (F : FrS Z G Hd H env ns sl) (le : Le H H') (le' : Le Hd' H') (off : ∀ b o, H b = some o → Hd' b = Hd b) : FrS Z G Hd' H' env ns sl :=
  F.move (F.keepLe le) le' (let ⟨_, _, _, h, _⟩ := F.L; (off _ _ h).trans F.Lp.1) fun a o h e => ⟨(le a o e).trans e.symm, (off a o e).trans h⟩
theorem FrS.hold {a : Addr} {o : Obj} (F : FrS Z G Hd H env ns sl) (h : H a = none) : FrS Z G (addG Hd a o) (addG H a o) env ns sl :=
  F.grow (addG_le h) (fun b o' e => (addG_of e).elim (fun q => by rw [q.1, q.2]; exact addG_self) fun q => (addG_ne q.1).trans (F.le b o' q.2)) fun b o' e => addG_ne fun q => by rw [q, h] at e; cases e
theorem SCtx.hold {lvl : Nat} {a : Addr} {o : Obj} (X : SCtx Z.h₀ lvl A env outer Hd) (F : FrS Z G Hd H env ns sl) (h : H a = none) : SCtx Z.h₀ lvl A env outer (addG Hd a o) := X.grow F fun b o' e => addG_ne fun q => by rw [q, h] at e; cases e
theorem SCtx.addM {lvl : Nat} (X : SCtx Z.h₀ lvl A env outer Hd) (F : FrS Z G Hd H env ns sl) (dis : Dis K H) : SCtx Z.h₀ lvl A env outer (addM Hd K) := X.grow F fun b o e => addM_not (dis.of e)
/-- less is held of the base -/
theorem FrS.base {Hd' : HMap} (F : FrS Z G Hd H env ns sl) (l : Le Hd' Hd) : FrS Z G Hd' H env ns sl := F.move ⟨rfl, fun _ _ _ _ => rfl⟩ (l.trans F.le) (l.off F.Lp.1) fun a o h _ => ⟨rfl, l.off h⟩
theorem OwnCells.base {h₀ : Heap} {Hd' : HMap} (O : OwnCells h₀ Hd env) (l : Le Hd' Hd) : OwnCells h₀ Hd' env := ⟨fun n c hk hc => ⟨l.off (O.p n c hk hc).1, (O.p n c hk hc).2⟩, O.inj⟩

theorem loc_ne (F : FrS Z G Hd H env ns sl) {a : Addr} {ll : List D} (ho : OwnAt Z.P G H a ll) {H' : HMap} (hH : ∀ b, b ≠ a → H' b = H b) : Keep env H H' where
  L := let ⟨o, es, ep, hL, hd, _⟩ := F.L; hH _ (ho.ne hL fun _ _ e => by rw [hd] at e; cases e).symm
  c := fun n c hk hc => let ⟨o, hc', v, hv⟩ := F.cellK hk hc; hH _ (ho.ne hc' fun _ _ e => by rw [hv] at e; cases e).symm
theorem OwnAt.here {P : Addr} {a : Addr} {ll : List D} (h : OwnAt P G H a ll) : H a ≠ none := h.rec fun o _ _ e _ _ _ _ q => by rw [e] at q; cases q
/-- an own list is turned, or frozen -/
theorem FrS.turn {x : Nat} {n : Str} {a : Addr} {ll : List D} {t : Slot} {H' : HMap} (F : FrS Z G Hd H env ns sl) (hx : ns.vars[x]? = some n) (hs : sg sl x = .own ll) (hl : loc H env n = some (.ref a)) (ha : Hd a = none) (ho : OwnAt Z.P G H a ll) (hH : ∀ b, b ≠ a → H' b = H b)
    (new : loc H' env n = some (.ref a) → SlotS Z G Hd H' env n t) : FrS Z G Hd H' env ns (sl.set x t) :=
  have k := loc_ne F ho hH
  have hl' := (k.loc n).trans hl
  F.set hx (sg_set sl x t) (fun b o e => (hH b fun q => by rw [q, ha] at e; cases e).trans (F.le b o e)) (let ⟨o, es, ep, h, r⟩ := F.L; ⟨o, es, ep, k.L.trans h, r⟩) F.Lp.1 (k.cells F.cells) (fun m _ _ => k.loc m)
    (fun y m b l' hne hy hsy hb hd _ => ⟨hH b fun q => F.inj x y ll l' n m a hne.symm hs hsy hx hy hl (q ▸ hb), hd⟩)
    (by rcases sg_self sl x t with e | e <;> rw [e]
        · exact new hl'
        · trivial)
    fun y m l' l2 b hne hy _ hsy hb hb' => F.inj x y ll l2 n m b hne.symm hs hsy hx hy ((k.loc n).symm.trans hb) hb'
/-- without one thing -/
noncomputable def delM (H : HMap) (a : Addr) : HMap := fun b => if b = a then none else H b
theorem delM_ne {a b : Addr} (h : b ≠ a) : delM H a b = H b := if_neg h
theorem delM_self {a : Addr} : delM H a a = none := if_pos rfl
theorem delM_le (H : HMap) (a : Addr) : Le (delM H a) H := fun b o e => by
  by_cases h : b = a
  · rw [h, delM_self] at e; cases e
  · rw [delM_ne h] at e; exact e
theorem FrS.freeze1 (F : FrS Z G Hd H env ns sl) (S : StOK Z.h₀ Z.P G H p s) (x : Nat) : ∃ G' H', Le G G' ∧ StOK Z.h₀ Z.P G' H' p s ∧ FrS Z G' Hd H' env ns (freeze1 sl x) := by
  unfold Mini.freeze1
  cases hs : sg sl x with
  | own ll =>
    cases hn : ns.vars[x]? with
    | none => exact ⟨G, H, .refl _, S, F.forget fun y n hy => .inr (sg_set sl x _ y fun q => by rw [q, hn] at hy; cases hy).symm⟩
    | some n =>
      have hv := F.vars x n hn
      rw [hs] at hv
      obtain ⟨a, h1, h2, h3, ho⟩ := hv
      have ⟨o, items, k, h4, h5, h6, h7, h8⟩ := ho
      have fz := (S.weak (delM_le H a)).freeze (a := a) (o := o) (S.notG h4) delM_self (S.agrH.exact h4 fun es n e => by rw [h7] at e; cases e) (S.notP h4)
      exact ⟨_, _, fz.le, fz.st, (F.monoG fz.le).turn hn hs h1 h2 (ho.mono fz.le) (fun b hb => delM_ne hb) fun q => ⟨_, q, .list ⟨o, k, addG_self, h5, h7⟩ (h8.mono fz.le)⟩⟩
  | _ => exact ⟨G, H, .refl _, S, F⟩
theorem freeze_sound (fz : List Nat) : ∀ {G H : HMap} {sl : List Slot}, FrS Z G Hd H env ns sl → StOK Z.h₀ Z.P G H p s → ∃ G' H', Le G G' ∧ StOK Z.h₀ Z.P G' H' p s ∧ FrS Z G' Hd H' env ns (freeze fz sl) := by
  induction fz with
  | nil => exact fun F S => ⟨_, _, .refl _, S, F⟩
  | cons x fz ih =>
    intro G H sl F S
    obtain ⟨G1, H1, l1, S1, F1⟩ := F.freeze1 S x
    obtain ⟨G2, H2, l2, S2, F2⟩ := ih F1 S1
    exact ⟨G2, H2, l1.trans l2, S2, F2⟩

/-- a function that runs -/
structure Bd (Z : Zt) where
  ns : Ns
  A : Around
  env : Env
  outer : List Env
  Hd : HMap
  X : SCtx Z.h₀ ns.lvl A env outer Hd
structure Bd.On (B : Bd Z) (G H : HMap) (sl : List Slot) (p : Pool) (s : Shared) : Prop where
  F : FrS Z G B.Hd H B.env B.ns sl
  S : StOK Z.h₀ Z.P G H p s
/-- where it comes to -/
structure Bd.Nx (B : Bd Z) (G : HMap) (s : Shared) (G' H' : HMap) (sl : List Slot) (q : Pool) (s' : Shared) : Prop where
  le : Le G G'
  sm : Sm s s'
  on : B.On G' H' sl q s'
noncomputable def FlOK (Z : Zt) (G H : HMap) (q : Pool) (h : Heap) (fl : Fl) (f : Flow) : Prop := match fl with
  | .next => f = .next
  | .cont => f = .cont
  | .ret b d => ∃ v, VPost Z.h₀ Z.P G H q h b v d ∧ f = .ret v
variable {B : Bd Z}
theorem Bd.Nx.trans {G1 H1 G2 H2 : HMap} {sl1 sl2 : List Slot} {p1 p2 : Pool} {s1 s2 : Shared} (a : B.Nx G s G1 H1 sl1 p1 s1) (b : B.Nx G1 s1 G2 H2 sl2 p2 s2) : B.Nx G s G2 H2 sl2 p2 s2 := ⟨a.le.trans b.le, a.sm.trans b.sm, b.on⟩
theorem Bd.On.nx (o : B.On G H sl p s) : B.Nx G s G H sl p s := ⟨.refl _, .refl _, o⟩
noncomputable abbrev Bd.Vl (B : Bd Z) (G : HMap) (s : Shared) (Φ : Fl → List Slot → Pool → Prop) (Q : Flow → Shared → Prop) : Prop :=
  ∀ fl sl q f G' H' s', Φ fl sl q → B.Nx G s G' H' sl q s' → FlOK Z G' H' q s'.heap fl f → Q f s'
noncomputable abbrev Bd.Xc (B : Bd Z) (G : HMap) (s : Shared) (ε : Pool → Prop) (E : Value → Shared → Prop) : Prop := ∀ q e s', ε q → XOK Z.h₀ Z.P (B.env :: B.outer) G B.Hd s q e s' → E e s'
theorem Bd.Vl.after {Φ : Fl → List Slot → Pool → Prop} {Q : Flow → Shared → Prop} {G1 H1 : HMap} {sl1 : List Slot} {p1 : Pool} {s1 : Shared} (k : B.Vl G s Φ Q) (n : B.Nx G s G1 H1 sl1 p1 s1) : B.Vl G1 s1 Φ Q := fun fl sl q f G' H' s' h m hf => k fl sl q f G' H' s' h (n.trans m) hf
theorem Bd.Xc.after {ε : Pool → Prop} {E : Value → Shared → Prop} {G1 H1 : HMap} {sl1 : List Slot} {p1 : Pool} {s1 : Shared} (k : B.Xc G s ε E) (n : B.Nx G s G1 H1 sl1 p1 s1) : B.Xc G1 s1 ε E := fun q e s' h x => k q e s' h (x.later n.le n.sm)
theorem Bd.Vl.next {Φ : Fl → List Slot → Pool → Prop} {Q : Flow → Shared → Prop} {G1 H1 : HMap} {sl1 : List Slot} {p1 : Pool} {s1 : Shared} (k : B.Vl G s Φ Q) (h : Φ .next sl1 p1) (n : B.Nx G s G1 H1 sl1 p1 s1) : Q .next s1 := k _ _ _ _ _ _ _ h n rfl

/-- a statement's run is the machine's -/
structure Sts (Z : Zt) (x : St) : Prop where
  one : ∀ (B : Bd Z) {b : Stmt}, ckS B.ns x b = true → ∀ {Φ : Fl → List Slot → Pool → Prop} {ε : Pool → Prop} {Q : Flow → Shared → Prop} {E : Value → Shared → Prop} {G H : HMap} {sl : List Slot} {p : Pool} {s : Shared},
    ex Z.C x sl p Φ ε → B.On G H sl p s → B.Vl G s Φ Q → B.Xc G s ε E → wpAny Z.M B.A (exec b B.env) Q E s
  many : ∀ (B : Bd Z) {bs : List Stmt}, ckB B.ns x bs = true → ∀ {Φ : Fl → List Slot → Pool → Prop} {ε : Pool → Prop} {Q : Flow → Shared → Prop} {E : Value → Shared → Prop} {G H : HMap} {sl : List Slot} {p : Pool} {s : Shared},
    ex Z.C x sl p Φ ε → B.On G H sl p s → B.Vl G s Φ Q → B.Xc G s ε E → wpAny Z.M B.A (execs bs B.env) Q E s
noncomputable def isR : St → Bool
  | .nil => true
  | .cons _ _ => true
  | _ => false
theorem noB {ns : Ns} {bs : List Stmt} {x : St} (h1 : isR x = false) (h2 : ckB ns x bs = true) : False := by
  cases x <;> first | exact Bool.noConfusion (show true = false from h1) | exact Bool.noConfusion (show false = true from h2)
/-- a statement that is no row -/
theorem Sts.plain {x : St} (h : isR x = false) (one : ∀ (B : Bd Z) {b : Stmt}, ckS B.ns x b = true → ∀ {Φ : Fl → List Slot → Pool → Prop} {ε : Pool → Prop} {Q : Flow → Shared → Prop} {E : Value → Shared → Prop} {G H : HMap} {sl : List Slot} {p : Pool} {s : Shared},
    ex Z.C x sl p Φ ε → B.On G H sl p s → B.Vl G s Φ Q → B.Xc G s ε E → wpAny Z.M B.A (exec b B.env) Q E s) : Sts Z x := ⟨one, fun B bs hc => (noB h hc).elim⟩
theorem Bd.On.freeze (o : B.On G H sl p s) (fz : List Nat) : ∃ G' H', B.Nx G s G' H' (freeze fz sl) p s := let ⟨G', H', l, S, F⟩ := freeze_sound fz o.F o.S; ⟨G', H', l, .refl _, F, S⟩
/-- with frozen names first -/
theorem Sts.fz {x : St} (fz : List Nat) (h : isR x = false) (one : ∀ (B : Bd Z) {b : Stmt}, ckS B.ns x b = true → ∀ {Φ : Fl → List Slot → Pool → Prop} {ε : Pool → Prop} {Q : Flow → Shared → Prop} {E : Value → Shared → Prop} {G H : HMap} {sl sl' : List Slot} {p : Pool} {s : Shared},
    sl' = freeze fz sl → ex Z.C x sl p Φ ε → B.On G H sl' p s → B.Vl G s Φ Q → B.Xc G s ε E → wpAny Z.M B.A (exec b B.env) Q E s) : Sts Z x := .plain h fun B b hc Φ ε Q E G H sl p s h o k hx =>
  (o.freeze fz).elim fun G1 a => a.elim fun H1 n => one B hc rfl h n.on (k.after n) (hx.after n)

noncomputable def Bd.fm (B : Bd Z) (o : B.On G H sl p s) : Fm Z := ⟨B.ns, B.A, B.env :: B.outer, B.env, sl, H, B.X.ctx o.F⟩
theorem Bd.On.fm (o : B.On G H sl p s) : (B.fm o).On G p s := ⟨o.F.envOK, o.S⟩
theorem Bd.On.xc {ε : Pool → Prop} {E : Value → Shared → Prop} (o : B.On G H sl p s) (hx : B.Xc G s ε E) : (B.fm o).Xc G s ε E := fun q e s' h x => hx q e s' h (x.weak o.F.le)
theorem Bd.On.after {G' : HMap} {q : Pool} {s' : Shared} (o : B.On G H sl p s) (n : Nxt Z.h₀ Z.P G H s G' q s') : B.Nx G s G' H sl q s' := ⟨n.le, n.sm, o.F.monoG n.le, n.st⟩
section
variable {x : Ex} {e : Expr} {ε : Pool → Prop} {E : Value → Shared → Prop}
/-- an expression of a statement -/
theorem Bd.On.ev (o : B.On G H sl p s) (I : Snd Z x) (hc : ckE B.ns x e = true) {Φ : Bool → D → Pool → Prop} {Q : Value → Shared → Prop} (h : Mini.ev Z.C x sl p Φ ε) (hx : B.Xc G s ε E)
    (k : ∀ fl d q v G' s', Φ fl d q → B.Nx G s G' H sl q s' → VPost Z.h₀ Z.P G' H q s'.heap fl v d → Q v s') : wpAny Z.M B.A (eval e B.env) Q E s :=
  I.ev (B.fm o) hc h o.fm (fun fl d q v G' s' h n hv => k fl d q v G' s' h (o.after n) hv) (o.xc hx)
theorem Bd.On.d (o : B.On G H sl p s) (I : Snd Z x) (hc : ckE B.ns x e = true) {Φ : Bool → D → Pool → Prop} {Q : Value → Shared → Prop} (h : Mini.ev Z.C x sl p Φ ε) (hx : B.Xc G s ε E)
    (k : ∀ fl d q v G' s', Φ fl d q → B.Nx G s G' H sl q s' → VRep Z.P G' v d → Q v s') : wpAny Z.M B.A (eval e B.env) Q E s :=
  I.d (F := B.fm o) hc h o.fm (o.xc hx) fun fl d q v G' s' h n hv => k fl d q v G' s' h (o.after n) hv
theorem Bd.On.t (o : B.On G H sl p s) (I : Snd Z x) (hc : ckE B.ns x e = true) {Φ : Bool → Pool → Prop} {Q : Bool → Shared → Prop} (h : Mini.ev Z.C x sl p (fun _ d q => asB d fun b => Φ b q) ε) (hx : B.Xc G s ε E)
    (k : ∀ b q G' s', Φ b q → B.Nx G s G' H sl q s' → Q b s') : wpAny Z.M B.A (isTrue e B.env (eval e B.env)) Q E s :=
  I.t (B.fm o) hc h o.fm (fun b q G' s' h n => k b q G' s' h (o.after n)) (o.xc hx)
end

theorem sts_nil : Sts Z .nil where
  one := fun B b hc => Bool.noConfusion (show false = true from hc)
  many := fun B bs hc Φ ε Q E G H sl p s h o k hx => by
    cases cb_nil hc
    exact wpAny_execs_nil (k.next h o.nx)
theorem sts_cons {x r : St} (I : Sts Z x) (J : Sts Z r) : Sts Z (.cons x r) where
  one := fun B b hc => Bool.noConfusion (show false = true from hc)
  many := fun B bs hc Φ ε Q E G H sl p s h o k hx => cb_cons hc fun b rest h1 h2 => wpAny_execs_cons (I.one B h1 h o (fun fl sl1 q f G1 H1 s1 h n hf => by
    cases fl with
    | next => cases (show f = .next from hf); exact J.many B h2 h n.on (k.after n) (hx.after n)
    | cont => cases (show f = .cont from hf); exact k _ _ _ _ _ _ _ h n hf
    | ret b d =>
      obtain ⟨v, hv, rfl⟩ := hf
      exact k _ _ _ _ _ _ _ h n ⟨v, hv, rfl⟩) hx)
theorem sts_bad : Sts Z .bad := .plain rfl fun B b hc Φ ε Q E G H sl p s h => h.elim
theorem sts_cont : Sts Z .cont := .plain rfl fun B b hc Φ ε Q E G H sl p s h o k hx => cs_cont hc fun pos => by
  show wpAny Z.M B.A (do standAt pos; pure Flow.cont) _ _ s
  exact wpAny_bind (wpAny_standAt (wpAny_pure (k _ _ _ _ _ _ _ h o.nx rfl)))
theorem sts_retN : Sts Z .retN := .plain rfl fun B b hc Φ ε Q E G H sl p s h o k hx => cs_retN hc fun pos => wpAny_Return_none (k _ _ _ _ _ _ _ h o.nx ⟨_, .frz .none, rfl⟩)
theorem sts_ret (fz : List Nat) {e : Ex} (I : Snd Z e) : Sts Z (.ret fz e) := .fz fz rfl fun B b hc Φ ε Q E G H sl sl' p s hs h o k hx => by
  subst hs
  exact cs_ret hc fun v pos h1 => wpAny_Return_some (o.ev I h1 h hx fun fl d q v G1 s1 h n hv => k _ _ _ _ _ _ _ h n ⟨v, hv, rfl⟩)
theorem swaps_no {v : Expr} {t : Option Expr} {k : Nat} (h : notComp v = true) : swapsWith v t k env = pure false := by
  cases v <;> first | rfl | (cases h)
theorem Bd.On.quiet (o : B.On G H sl p s) : interactive B.env = false := by unfold interactive; rw [o.F.fnKind]; rfl
theorem sts_expr (fz : List Nat) {e : Ex} (I : Snd Z e) : Sts Z (.expr fz e) := .fz fz rfl fun B b hc Φ ε Q E G H sl sl' p s hs h o k hx => by
  subst hs
  exact cs_expr hc fun v pos h1 h2 => wpAny_Expr_any (o.ev I h1 h hx fun fl d q v G1 s1 h n hv => k.next h n) o.quiet (swaps_no h2)
theorem sts_ite (fz : List Nat) {c : Ex} {x y : St} (I : Snd Z c) (Ix : Sts Z x) (Iy : Sts Z y) : Sts Z (.ite fz c x y) := .fz fz rfl fun B b hc Φ ε Q E G H sl sl' p s hs h o k hx => by
  subst hs
  exact cs_ite hc fun t bd el pos h1 h2 h3 => wpAny_If (o.t I h1 h hx fun c q G1 s1 h n => by
    cases c with
    | true => exact Ix.many B h2 (h.1 rfl) n.on (k.after n) (hx.after n)
    | false => exact Iy.many B h3 (h.2 rfl) n.on (k.after n) (hx.after n))
end
end Mini
end
section -- P26
namespace Mini
open PySem PySem.W PyProof.Rows

section
variable {Z : Zt} {A : Around} {G Hd H : HMap} {p : Pool} {s : Shared} {env : Env} {ns : Ns} {sl : List Slot}
/-- an own list that is held is stored -/
theorem FrS.storeO {x : Nat} {n : Str} {a : Addr} {l : List D} {Q : Unit → Shared → Prop} {E : Value → Shared → Prop} (F : FrS Z G Hd H env ns sl) (S : StOK Z.h₀ Z.P G H p s) (hx : ns.vars[x]? = some n) (O : OwnCells Z.h₀ Hd env) (hd : Hd a = none) (hb : Z.h₀.get? a = none) (ho : OwnAt Z.P G H a l)
    (hap : ∀ y n' l', ns.vars[y]? = some n' → sg sl y = .own l' → loc H env n' ≠ some (.ref a)) (h : ∀ s' H', Sm s s' → StOK Z.h₀ Z.P G H' p s' → FrS Z G Hd H' env ns (sl.set x (.own l)) → Q () s') : wpAny Z.M A (storeName env n (.ref a)) Q E s :=
  F.store S hx (.inr O) (fun H' q kp => show SlotS Z G Hd H' env n (.own l) from ⟨a, q, hd, hb, ho.same (kp a l ho)⟩) (fun y m l1 l' b _ hm _ hs e => by cases e; exact hap y m l' hm hs) h
theorem FrS.storeP {x : Nat} {n : Str} {fl : Bool} {v : Value} {d : D} {Q : Unit → Shared → Prop} {E : Value → Shared → Prop} (F : FrS Z G Hd H env ns sl) (S : StOK Z.h₀ Z.P G H p s) (hx : ns.vars[x]? = some n) (O : OwnCells Z.h₀ Hd env) (hv : VPost Z.h₀ Z.P G H p s.heap fl v d)
    (h : ∀ s' H', Sm s s' → StOK Z.h₀ Z.P G H' p s' → FrS Z G Hd H' env ns (sl.set x (slotOf fl d)) → Q () s') : wpAny Z.M A (storeName env n v) Q E s := by
  cases fl with
  | false => exact F.storeD S hx (.inr O) hv h
  | true =>
    obtain ⟨a, l, N, rfl, rfl⟩ := hv
    obtain ⟨items, k, ho, hr⟩ := N.o
    have le := addG_le (o := lobj items k) N.hd
    exact (F.monoH le).storeO (S.hold (o := lobj items k) ho N.g N.p) hx O (F.le.off N.hd) N.b ⟨lobj items k, items, k, addG_self, rfl, rfl, rfl, hr⟩ (fun y m l' hm hs hl => by
      have := F.vars y m hm
      rw [hs] at this
      obtain ⟨b, w1, _, _, w4⟩ := this
      rw [(F.keepLe le).loc m, w1] at hl
      cases hl
      exact w4.here N.hd) h

variable {B : Bd Z}
theorem exec_used {e' : Expr} {gens : List Comprehension} {sc : Scope} {cpos q pos : Pos} {n : Str} (o : B.On G H sl p s) (h : swOk B.ns (.Name n q) (.ListComp e' gens sc cpos) = true) : swapsWith (.ListComp e' gens sc cpos) (some (.Name n q)) pos.line B.env = pure true := by
  have h1 := bb (show (B.ns.scope.names.lookup n == some .local && (q.line == cpos.line && !(sc.names.any fun x => x.1 == n && (x.2 == .local || x.2 == .cell)))) = true from h)
  have h2 := bb h1.2
  have hb : B.env.blockKind = .function := by unfold Env.blockKind; rw [o.F.fnKind]; rfl
  have hk : B.env.kindOf n = some .local := by unfold Env.kindOf; rw [o.F.st.scope]; exact eq_of_beq h1.1
  show (pure (B.env.blockKind == .function && B.env.kindOf n == some .local && q.line == (Expr.ListComp e' gens sc cpos).pos.line && !(sc.names.any fun x => x.1 == n && (x.2 == .local || x.2 == .cell))) : Sem Bool) = pure true
  rw [hb, hk, nt h2.2]
  exact congrArg pure ((congrArg (fun b => true && b && !false) h2.1))
/-- a list comprehension that its own frame's end stores -/
theorem comp_used {x : Nat} {n : Str} {q : Pos} {t : List D} {pl : Pool} {D0 Cc : Addr} {G' : HMap} {oC : Obj} {s' : Shared} {Q : Value → Shared → Prop} {E : Value → Shared → Prop} (o : B.On G H sl p s) (hn : B.ns.vars[x]? = some n) (e : CEnd Z H G s D0 Cc t pl G' oC s')
    (h : ∀ s2 H2, B.Nx G s G' H2 (sl.set x (.own t)) pl s2 → Q .none s2) : compPost Z.M B.A E (some (assign (.Name n q) B.env)) Q (.ref D0) Cc (.ok .next) s' := by
  have hC : B.Hd Cc = none := o.F.le.off e.hC
  have F2 := (o.F.monoG e.n.le).hold (o := oC) e.hC
  refine wpAny_assign_Name (F2.storeP e.S hn (B.X.hold o.F e.hC).cells (VPost.own e.L) fun s2 H2 sm2 S2 F3 => ?_)
  have hC2 : H2 Cc = some oC := F3.le _ _ addG_self
  obtain ⟨es, ep, hd, hk⟩ := e.d
  obtain ⟨sl', hg⟩ := S2.agrH.get hC2
  refine ⟨_, ⟨_, es, ep, hg, hd, hk, fun _ => rfl⟩, fun h' hs => ?_⟩
  have F4 : FrS Z G' B.Hd (delM H2 Cc) B.env B.ns (sl.set x (.own t)) := F3.move ⟨delM_ne (fun q => by have := F2.Lp.1; rw [q, addG_self] at this; cases this), fun m c hk hc => let ⟨o', h1, _⟩ := o.F.cellK hk hc; delM_ne fun q => by rw [q, e.hC] at h1; cases h1⟩
    (fun b o' h => have hb : b ≠ Cc := fun q => by rw [q, hC] at h; cases h
      (delM_ne hb).trans (F3.le b o' ((addG_ne hb).trans h))) o.F.Lp.1 fun a o' h _ => have ha : a ≠ Cc := fun q => by rw [q, addG_self] at h; cases h
      ⟨delM_ne ha, (addG_ne ha).symm.trans h⟩
  have n3 := (S2.weak (delM_le H2 Cc)).nxtBut (wr := [Cc]) (h := h') (t := s2.toks) (allC ⟨S2.notG hC2, delM_self, e.hb, S2.notP hC2⟩ allN) fun b o' hm h => (hs.2 b fun q => hm (q ▸ List.mem_cons_self)).trans h
  exact h _ _ ⟨e.n.le, e.n.sm.trans (sm2.trans n3.sm), F4, n3.st⟩
theorem sts_assign (fz : List Nat) (x : Nat) {e : Ex} (I : Snd Z e) (hcomp : ∀ tg isT fv elt it cond, e = .comp tg isT fv elt it cond → Snd Z elt ∧ Snd Z cond ∧ ISnd Z it) : Sts Z (.assign fz x e) := .fz fz rfl fun B b hc Φ ε Q E G H sl sl' p s hs h o k hx => by
  subst hs
  refine cs_assign hc fun t v pos h1 h2 h3 => ?_
  cases hr : rComp v with
  | none =>
    have h3 : notComp v = true := by unfold swOk at h3; rw [hr] at h3; exact h3
    exact isV_eqK h1 fun n q hn _ => wpAny_Assign_Name (o.ev I h2 h hx fun fl d q v G1 s1 h n hv => n.on.F.storeP n.on.S hn B.X.cells hv fun s2 H2 sm2 S2 F2 => k.next h (n.trans ⟨.refl _, sm2, F2, S2⟩)) (swaps_no h3)
  | some u =>
    obtain ⟨tg, isT, fv, elt, it, cond, rfl⟩ := ck_lc (u.2 ▸ h2)
    obtain ⟨J1, J2, J3⟩ := hcomp _ _ _ _ _ _ rfl
    clear hr
    clear u
    revert h3
    refine isV_eqK h1 fun n q hn _ => ?_
    refine ck_comp h2 fun e' t i ifs sc cpos K h3 => ?_
    rw [exec_Assign_Name_used _ _ _ _ (exec_used o h3)]
    refine wpAny_bind (wpAny_standAt (wpAny_bind ?_))
    show wpAny _ B.A (do let _ ← comprehension (.ListComp e' [⟨t, i, ifs, 0⟩] sc cpos) sc B.env _ (newList []) false (eval i B.env) (some (assign (.Name n q) B.env))) _ _ s
    exact wpAny_bind (wpAny_mono (comp_core (F := B.fm o) (use := some (assign (.Name n q) B.env)) (Q := fun _ s' => Q .next s') J1 J2 J3 K h o.fm (o.xc hx) fun tot pl D0 Cc G' oC s' h e => comp_used o hn e fun s2 H2 n => k.next h n) (fun _ s' h' => wpAny_pure (wpAny_pure h')) fun _ _ h => h)
end
end Mini
end
section -- P27
namespace Mini
open PySem PySem.W PyProof.Rows

theorem dict_mapSeq (o : Obj) (f : Array Value → Array Value) : (o.mapSeq f).dict = o.dict := by
  obtain ⟨c, d, dt, sl⟩ := o; cases dt <;> rfl
/-- a list object and what it holds -/
structure LObj (o : Obj) (items : Array Value) : Prop where
  c : o.cls = .type "list"
  d : o.dict = none
  s : ∃ n, o.data = .seq items n
section
variable {Z : Zt} {A : Around} {G Hd H : HMap} {p : Pool} {s : Shared} {env : Env} {ns : Ns} {sl : List Slot} {E : Value → Shared → Prop}
theorem OwnAt.obj {P : Addr} {a : Addr} {l : List D} (h : OwnAt P G H a l) : ∃ o items, H a = some o ∧ LObj o items ∧ VReps P G items.toList l := h.rec fun o items k h1 h2 h3 h4 h5 => ⟨o, items, h1, ⟨h2, h3, k, h4⟩, h5⟩
theorem LObj.own {P : Addr} {a : Addr} {o : Obj} {items : Array Value} {l : List D} (x : LObj o items) (h : H a = some o) (r : VReps P G items.toList l) : OwnAt P G H a l := let ⟨n, e⟩ := x.s; ⟨o, items, n, h, x.c, x.d, e, r⟩
theorem LObj.nd {o : Obj} {items : Array Value} (x : LObj o items) (es : Array DictEntry) (n : Nat) : o.data ≠ .dict es n := fun e => let ⟨_, q⟩ := x.s; by rw [q] at e; cases e

theorem setItem_own {l : Addr} {o : Obj} {items : Array Value} {ne : Nat} {k : Int} {t : Tok} {v : Value} {Q : Unit → Shared → Prop} (ho : s.heap.get? l = some o) (hc : o.cls = .type "list") (hd : o.data = .seq items ne)
    (h0 : 0 ≤ k) (hfit : k < 2 ^ 63) (hn : k.toNat < items.size)
    (hQ : ∀ h' o' n', Heap.SameBut l s.heap h' → h'.get? l = some o' → o'.cls = .type "list" → o'.dict = o.dict → o'.data = .seq (items.setIfInBounds k.toNat v) n' → Q () { s with heap := h' }) :
    wpAny Z.M A (setItem (.ref l) (.int k t) v) Q E s := by
  have hl : s.heap.IsList l items := ⟨o, ho, hc, ne, hd⟩
  unfold setItem
  try with_reducible refine wpAny_holding ?_
  first | refine wpAny_bind (wpAny_pure ?_) | skip
  refine wpAny_bind (wpAny_sequenceKey hl.typeIs (by decide) ?_)
  refine wpAny_bind (wpAny_callSpecial?_slot (name := Str.ofString "__setitem__") hl.typeIs slot_list_setitem
    (wpAny_call_entry slot_list_setitem hl.typeIs entry_list_setitem ?_ (args_list_setitem _ _ _)))
  show wpAny _ _ (Builtin.List.listSubscript? (.int k t) >>= _) _ _ s
  refine wpAny_bind (wpAny_listSubscript_int (fitsIndex_of h0 hfit) ?_)
  clear hfit
  obtain ⟨j, rfl⟩ := Int.eq_ofNat_of_zero_le h0
  have hj : j < items.size := hn
  show wpAny _ _ ((seqItemAt l j >>= fun r => pure (r.map (j, ·))) >>= _) _ _ s
  refine wpAny_bind (wpAny_bind (wpAny_seqItemAt ho hd (wpAny_pure ?_)))
  rw [Array.getElem?_eq_getElem hj]
  show wpAny _ _ (setSeqItemAt l j v >>= _) _ _ s
  obtain ⟨n', hd'⟩ := Obj.data_mapSeq hd (·.setIfInBounds j v)
  have hfin := hQ (s.heap.update l (Obj.mapSeq (·.setIfInBounds j v))) _ n' (Heap.SameBut.update ..) (Heap.get?_update_self _ ho (Obj.isFreed_of_seq hd')) ((Obj.cls_mapSeq ..).trans hc) (dict_mapSeq ..) hd'
  refine wpAny_bind (wpAny_setSeqItemAt ho hd ?_)
  first
    | exact wpAny_bind (wpAny_pure (wpAny_pure ⟨.none, rfl, wpAny_pure hfin⟩))
    | exact wpAny_pure ⟨.none, rfl, wpAny_pure hfin⟩
theorem append_own {l : Addr} {o : Obj} {items : Array Value} {x : Value} {Q : Value → Shared → Prop} (ho : s.heap.get? l = some o) (L : LObj o items) (hsz : items.size ≤ sizeLine)
    (hQ : ∀ h' o', Heap.SameBut l s.heap h' → h'.get? l = some o' → LObj o' (items.push x) → Q .none { s with heap := h' }) : wpAny Z.M A (call (.builtin "list.append") [.ref l, x]) Q E s := by
  obtain ⟨n, hd⟩ := L.s
  have hl : s.heap.IsList l items := ⟨o, ho, L.c, n, hd⟩
  obtain ⟨n', hd'⟩ := Obj.data_mapSeq hd (·.push x)
  refine wpAny_call_entry slot_list_append hl.typeIs entry_list_append ?_ (args_list_append _ _)
  show wpAny _ _ (updateSeq l (·.push x) >>= fun _ => ret .none) _ _ s
  refine wpAny_bind ?_
  exact wpAny_updateSeq ho hd (wpAny_pure ⟨.none, rfl, hQ _ _ (Heap.SameBut.update ..) (Heap.get?_update_self _ ho (Obj.isFreed_of_seq hd')) ⟨(Obj.cls_mapSeq ..).trans L.c, (dict_mapSeq ..).trans L.d, n', hd'⟩⟩)

/-- the pool is turned -/
theorem StOK.turnPool {q q' : Int × Int} {o' : Obj} {t u : Tok} {n : Nat} {h' : Heap} (S : StOK Z.h₀ Z.P G H (some q) s) (hs : Heap.SameBut Z.P s.heap h') (ho : h'.get? Z.P = some o') (hc : o'.cls = .type "list") (hd : o'.data = .seq #[.int q'.1 t, .int q'.2 u] n) :
    StOK Z.h₀ Z.P G H (some q') { s with heap := h' } :=
  have ⟨_, hg, hh, hb⟩ := S.pool q rfl
  have ne : ∀ {M : HMap} {a : Addr} {o : Obj}, M Z.P = none → M a = some o → a ≠ Z.P := fun h e r => by rw [r, h] at e; cases e
  { agrG := fun a o e => (hs.2 a (ne hg e)).trans (S.agrG a o e)
    agrH := fun a o e => (S.agrH a o e).imp (fun x => (hs.2 a (ne hh e)).trans x) fun ⟨x, sl, y⟩ => ⟨x, sl, (hs.2 a (ne hh e)).trans y⟩
    sep := S.sep
    base := fun b o e => (hs.2 b fun r => by rw [r, hb] at e; cases e).trans (S.base b o e)
    pool := fun r e => by cases e; exact ⟨⟨o', t, u, n, ho, hc, hd⟩, hg, hh, hb⟩ }

variable {B : Bd Z}
/-- a slot's own list is turned -/
theorem Bd.On.turn {x : Nat} {n : Str} {a : Addr} {ll l' : List D} {o o' : Obj} {items' : Array Value} {h' : Heap} (b : B.On G H sl p s) (hx : B.ns.vars[x]? = some n) (hs : sg sl x = .own ll) (hl : loc H B.env n = some (.ref a)) (ho : H a = some o) (hsb : Heap.SameBut a s.heap h') (ho' : h'.get? a = some o') (L : LObj o' items') (r : VReps Z.P G items'.toList l') :
    B.Nx G s G (addG H a o') (sl.set x (.own l')) p { s with heap := h' } := by
  have hv := b.F.vars x n hx
  rw [hs] at hv
  obtain ⟨a', h1, h2, h3, h4⟩ := hv
  rw [hl] at h1; cases h1
  exact ⟨.refl _, .heap .., b.F.turn hx hs hl h2 h4 (fun b hb => addG_ne hb) fun q => ⟨a, q, h2, h3, L.own addG_self r⟩, b.S.turn (t := s.toks) ho h3 hsb ho'⟩
theorem loc_of {x : Nat} {n : Str} (F : FrS Z G Hd H env ns sl) (hn : ns.vars[x]? = some n) (hok : okS (sg sl x) = true) : ∃ a, loc H env n = some (.ref a) := by
  have hv := F.vars x n hn
  cases hs : sg sl x with
  | un => rw [hs] at hok; cases hok
  | own l => rw [hs] at hv; obtain ⟨a, h, _⟩ := hv; exact ⟨a, h⟩
  | frz d =>
    rw [hs] at hv hok
    obtain ⟨v, h1, h2⟩ := hv
    obtain ⟨a, rfl⟩ := okD_ref hok h2
    exact ⟨a, h1⟩
theorem set_toList (a : Array Value) (k : Nat) (v : Value) : (a.setIfInBounds k v).toList = a.toList.set k v := Array.toList_setIfInBounds ..
theorem fit_k {k : Int} (h : k < 1000000) : k < 2 ^ 63 := Int.lt_trans h (by decide)
/-- an item of a name's list, or of the pool, is set -/
theorem Bd.On.set {x : Nat} {n : Str} {a : Addr} {kv vv : Value} {kd vd : D} {K : List Slot → Pool → Prop} {Q : Unit → Shared → Prop} (b : B.On G H sl p s) (hn : B.ns.vars[x]? = some n) (hloc : loc H B.env n = some (.ref a)) (hk : VRep Z.P G kv kd) (hv : VRep Z.P G vv vd)
    (h : setW sl x kd vd p K) (k : ∀ s' H' sl' p', K sl' p' → B.Nx G s G H' sl' p' s' → Q () s') : wpAny Z.M A (setItem (.ref a) kv vv) Q E s := by
  have hx := b.F.vars x n hn
  unfold setW at h
  cases hs : sg sl x with
  | un => rw [hs] at h; exact h.elim
  | own ll =>
    rw [hs] at hx h
    obtain ⟨a', h1, h2, h3, h4⟩ := hx
    rw [hloc] at h1; cases h1
    obtain ⟨o, items, g1, L, r⟩ := h4.obj
    obtain ⟨m, hd⟩ := L.s
    unfold setL at h
    exact asI.rep h hk fun i t h => setItem_own (b.S.agrH.exact g1 L.nd) L.c hd h.1.1 (fit_k h.1.2.1) (by rw [size_of r]; exact (Int.toNat_lt h.1.1).mpr h.1.2.2) fun h' o' n' hsb ho' c1 c2 c3 =>
      k _ _ _ _ h.2 (b.turn hn hs hloc g1 hsb ho' ⟨c1, c2.trans L.d, n', c3⟩ (by rw [set_toList]; exact r.set hv _))
  | frz d =>
    rw [hs] at hx h
    cases d with
    | pool =>
      obtain ⟨v, h1, h2⟩ := hx
      cases (show v = .ref Z.P from h2)
      rw [hloc] at h1; cases h1
      cases p with
      | none => exact h.elim
      | some q =>
        obtain ⟨⟨o, t, u, m, ho, hc, hd⟩, _⟩ := b.S.pool q rfl
        refine asI.rep h hk fun i ti h => asI.rep h hv fun j tj h => ?_
        rcases h with ⟨rfl, hh⟩ | ⟨rfl, hh⟩
        · exact setItem_own ho hc hd (Int.le_refl _) (by decide) (show 0 < 2 by decide) fun h' o' n' hsb ho' c1 c2 c3 => k _ _ _ _ hh ⟨.refl _, .heap .., b.F, b.S.turnPool (q' := (j, q.2)) hsb ho' c1 c3⟩
        · exact setItem_own ho hc hd (by decide) (by decide) (show 1 < 2 by decide) fun h' o' n' hsb ho' c1 c2 c3 => k _ _ _ _ hh ⟨.refl _, .heap .., b.F, b.S.turnPool (q' := (q.1, j)) hsb ho' c1 c3⟩
    | _ => exact h.elim
end
end Mini
end
section -- P28
namespace Mini
open PySem PySem.W PyProof.Rows

section
variable {Z : Zt}
theorem bopAdd_eq {o : Bop} (h : bopAdd o = true) : o = .add := by cases o <;> first | rfl | cases h
theorem isAdd_eq {o : Operator} (h : isAdd o = true) : o = .Add := by cases o <;> first | rfl | cases h

theorem sts_aug (fz : List Nat) (x : Nat) (o : Bop) {e : Ex} (I : Snd Z e) : Sts Z (.aug fz x o e) := .fz fz rfl fun B b hc Φ ε Q E G H sl sl' p s hs h o' k hx => by
  subst hs
  refine cs_aug hc fun t op v pos h1 h2 h3 h4 => isV_eqK h1 fun n q hn _ => ?_
  cases bopAdd_eq h3
  cases isAdd_eq h2
  obtain ⟨d, hs, h⟩ := frzW_of h
  have hv := o'.F.vars x n hn
  rw [hs] at hv
  obtain ⟨w, hl, hr⟩ := hv
  exact wpAny_AugAssign_Name (rd_of o'.F hl _ _ _ _ o'.S.agrH (o'.d I h4 h hx fun fl y q v G1 s1 h n1 hv => asI.rep h (hr.mono n1.le) fun a t h => asI.rep h hv fun b t' h => iadd_int
    (n1.on.F.storeD (n1.on.S.toks (s1.toks + 1)) hn (.inr B.X.cells) (.int _ _) fun s2 H2 sm2 S2 F2 => k.next h (n1.trans ⟨.refl _, (Sm.toks s1 _).trans sm2, F2, S2⟩))))
theorem sts_setS (fz : List Nat) (x : Nat) {i e : Ex} (Ii : Snd Z i) (Ie : Snd Z e) : Sts Z (.setS fz x i e) := .fz fz rfl fun B b hc Φ ε Q E G H sl sl' p s hs h o k hx => by
  subst hs
  refine cs_setS hc fun ob sx q v pos h1 h2 h3 h4 h5 => isV_eqK h1 fun n q2 hn hdb => ?_
  obtain ⟨hok, h⟩ := ifT_of h
  obtain ⟨a, hloc⟩ := loc_of o.F hn hok
  rw [PyProof.Rows.exec_Assign]
  refine wpAny_bind (wpAny_standAt ?_)
  have hsw : swapsWithSole [.Subscript (.Name n q2) sx q] v pos.line B.env = pure false := by cases v <;> first | rfl | cases h5
  rw [hsw]
  refine wpAny_bind (wpAny_pure ?_)
  rw [if_neg (by decide)]
  refine wpAny_bind (o.d Ie h4 h hx fun fl d q5 v5 G5 s5 h n5 hv5 => ?_)
  have hw : swappedStores [.Subscript (.Name n q2) sx q] v B.env = pure none := rfl
  rw [hw]
  refine wpAny_bind (wpAny_pure ?_)
  show wpAny Z.M B.A (do assignAll v5 [assign (.Subscript (.Name n q2) sx q) B.env]; pure Flow.next) _ _ s5
  refine wpAny_bind ?_
  show wpAny Z.M B.A (assign (.Subscript (.Name n q2) sx q) B.env v5) _ _ s5
  rw [arm_assign_Subscript]
  refine wpAny_bind (wpAny_holding (wpAny_Name (rd_of n5.on.F hloc _ _ _ _ n5.on.S.agrH ?_) hdb))
  refine wpAny_bind (wpAny_holding (n5.on.d Ii h3 h (hx.after n5) fun fl d6 q6 v6 G6 s6 h n6 hv6 => ?_))
  exact wpAny_bind (wpAny_standAt (wpAny_bind (wpAny_holding (n6.on.set hn hloc hv6 (hv5.mono n6.le) h fun s7 H7 sl7 p7 h n7 => wpAny_releaseD (wpAny_pure (k.next h ((n5.trans n6).trans n7)))))))
theorem base_at {B : Bd Z} {G H : HMap} {sl : List Slot} {p : Pool} {s : Shared} {x : Nat} {n : Str} {a : Addr} (o : B.On G H sl p s) (hn : B.ns.vars[x]? = some n) (hloc : loc H B.env n = some (.ref a)) : BaseOf Z G p s (sg sl x) a := by
  have hv := o.F.vars x n hn
  cases hs : sg sl x with
  | un => exact ⟨False.elim, False.elim⟩
  | own l =>
    rw [hs] at hv
    obtain ⟨a', h1, _, _, h4⟩ := hv
    rw [hloc] at h1; cases h1
    exact base_own h4 o.S
  | frz d =>
    rw [hs] at hv
    obtain ⟨v, h1, h2⟩ := hv
    rw [hloc] at h1; cases h1
    exact base_frz h2 o.S
theorem get_at {A : Around} {E : Value → Shared → Prop} {G : HMap} {s : Shared} {a : Addr} {items : Array Value} {l : List D} {kd : D} {v : Value} {K : D → Prop} {Q : Value → Shared → Prop} (h : idxW l kd K) (hl : s.heap.IsList a items) (hr : VReps Z.P G items.toList l) (hk : VRep Z.P G v kd)
    (q : ∀ v' d, K d → VRep Z.P G v' d → Q v' s) : wpAny Z.M A (getItem (.ref a) v) Q E s := idxW.rep h hk hr fun i t d y h0 h1 _ hy hd hK => wpAny_getItem_list hl h0 h1 hy (q _ _ hK hd)
theorem sts_augS (fz : List Nat) (x : Nat) (o : Bop) {i e : Ex} (Ii : Snd Z i) (Ie : Snd Z e) : Sts Z (.augS fz x i o e) := .fz fz rfl fun B b hc Φ ε Q E G H sl sl' p s hs h o' k hx => by
  subst hs
  refine cs_augS hc fun ob sx q op v pos h1 h2 h3 h4 h5 h6 => isV_eqK h1 fun n q2 hn hdb => ?_
  cases bopAdd_eq h5
  cases isAdd_eq h4
  obtain ⟨hok, h⟩ := ifT_of h
  obtain ⟨a, hloc⟩ := loc_of o'.F hn hok
  refine wpAny_AugAssign_Subscript_any (wpAny_Name (rd_of o'.F hloc _ _ _ _ o'.S.agrH (o'.d Ii h3 h hx fun fl d5 q5 v5 G5 s5 h n5 hv5 => ?_)) hdb) (by intro ov iv nw; cases sx <;> first | rfl | cases h2)
  obtain ⟨l, ⟨items, hl, hr⟩, h⟩ := (base_at n5.on hn hloc).item h
  exact get_at h hl hr hv5 fun y d h hd => n5.on.d Ie h6 h (hx.after n5) fun fl d7 q7 v7 G7 s7 h n7 hv7 =>
    asI.rep h (hd.mono n7.le) fun a1 t1 h => asI.rep h hv7 fun b1 t2 h => iadd_int (Bd.On.set (s := { s7 with toks := s7.toks + 1 }) ⟨n7.on.F, n7.on.S.toks _⟩ hn hloc (hv5.mono n7.le) (.int _ _) h fun s9 H9 sl9 p9 h n9 => k.next h ((n5.trans n7).trans ⟨n9.le, (Sm.toks s7 _).trans n9.sm, n9.on⟩))
theorem sts_app (fz : List Nat) (x : Nat) {e : Ex} (I : Snd Z e) : Sts Z (.app fz x e) := .fz fz rfl fun B b hc Φ ε Q E G H sl sl' p s hs h o k hx => by
  subst hs
  refine cs_app hc fun ob m q v q2 pos h1 hm hl h4 => isV_eqK h1 fun n q3 hn hdb => ?_
  subst hm
  refine wpAny_Expr_any ?_ o.quiet rfl
  have hv := o.F.vars x n hn
  have ho := o.F.vars x n hn
  cases hs : sg (freeze fz sl) x with
  | own ll =>
    rw [show sg (freeze fz sl) x = .own ll from hs] at hv
    have h : ownW (sg (freeze fz sl) x) _ := h
    rw [hs] at h
    obtain ⟨a, w1, w2, w3, w4⟩ := hv
    obtain ⟨ob, items, g1, L, r⟩ := w4.obj
    obtain ⟨m, hd⟩ := L.s
    have hst : backTo q2 (starEach [v] B.env) = [(false, eval v B.env)] := by rw [star_cons h4]; rfl
    refine wpAny_Call_append rfl (by rw [hst]; rfl) (by rw [hl]; exact beq_self_eq_true _) hst (wpAny_Name (rd_of o.F w1 _ _ _ _ o.S.agrH ⟨a, items, rfl, ⟨ob, m, o.S.agrH.exact g1 L.nd, L.c, L.d, hd⟩, ?_⟩) hdb)
    exact o.d I h4 h hx fun fl d5 q5 v5 G5 s5 h n5 hv5 => append_own (n5.on.S.agrH.exact g1 L.nd) L (by rw [size_of r]; exact Nat.le_of_lt (Nat.lt_of_lt_of_le h.1 sizeLine_lim)) fun h' o' hsb ho' L' =>
      k.next h.2 (n5.trans (n5.on.turn hn hs w1 g1 hsb ho' L' (by rw [Array.toList_push]; exact (r.mono n5.le).append (.one hv5))))
  | _ => have h : ownW (sg (freeze fz sl) x) _ := h
         rw [hs] at h; exact h.elim
theorem sts_unp (fz xs : List Nat) {e : Ex} (I : Snd Z e) : Sts Z (.unp fz xs e) := .fz fz rfl fun B b hc Φ ε Q E G H sl sl' p s hs h o k hx => by
  subst hs
  refine cs_unp hc fun ts kk q v pos h1 h2 h3 => ?_
  obtain ⟨f, args, kw, cp, rfl⟩ : ∃ f args kw cp, v = .Call f args kw cp := by cases v <;> first | exact ⟨_, _, _, _, rfl⟩ | cases h3
  refine PyProof.Rows.Assign_Tuple (o.d I h2 h hx fun fl d q v G1 s1 h n hv => ?_)
  cases d with
  | tup ds => exact assign_tuple B.X.handled h1 hv h.1 n.on.F n.on.S (fun _ _ _ _ => .inr B.X.cells) fun s7 H7 sm7 S7 F7 => k.next h.2 (n.trans ⟨.refl _, sm7, F7, S7⟩)
  | _ => exact h.elim
end
end Mini
end
section -- P29
namespace Mini
open PySem PySem.W PyProof.Rows

/-- the values of a tuple display: its own lists are held, each one more, from Hd to Hd' -/
noncomputable def TReps (Z : Zt) (G Hd' : HMap) : HMap → List Value → List (Bool × D) → Prop
  | Hd, vs, [] => vs = [] ∧ Le Hd Hd'
  | Hd, vs, x :: its => ∃ v r, vs = v :: r ∧ match x.1 with
    | false => VRep Z.P G v x.2 ∧ TReps Z G Hd' Hd r its
    | true => ∃ a o l, (v = .ref a ∧ x.2 = .list l) ∧ (Hd a = none ∧ Z.h₀.get? a = none) ∧ (∃ items, LObj o items ∧ VReps Z.P G items.toList l) ∧ TReps Z G Hd' (addG Hd a o) r its
section
variable {Z : Zt} {G Hd Hd' H : HMap} {p : Pool} {s : Shared} {env : Env} {ns : Ns} {sl : List Slot} {A : Around} {E : Value → Shared → Prop} {Q : Unit → Shared → Prop}
@[elab_as_elim] theorem TReps.consE {fl : Bool} {d : D} {vs : List Value} {its : List (Bool × D)} {m : Bool → D → List Value → Prop} (h : TReps Z G Hd' Hd vs ((fl, d) :: its)) (k0 : ∀ v r, VRep Z.P G v d → TReps Z G Hd' Hd r its → m false d (v :: r))
    (k1 : ∀ a o items l r, Hd a = none → Z.h₀.get? a = none → LObj o items → VReps Z.P G items.toList l → TReps Z G Hd' (addG Hd a o) r its → m true (.list l) (.ref a :: r)) : m fl d vs := by
  obtain ⟨v, r, rfl, h⟩ := h
  cases fl with
  | false => exact k0 v r h.1 h.2
  | true =>
    obtain ⟨a, o, l, ⟨rfl, e⟩, h1, ⟨items, L, h2⟩, h3⟩ := h
    cases (show d = .list l from e)
    exact k1 a o items l r h1.1 h1.2 L h2 h3
theorem TReps.length {its : List (Bool × D)} : ∀ {Hd : HMap} {vs : List Value}, TReps Z G Hd' Hd vs its → vs.length = its.length := by
  induction its with
  | nil => exact fun h => congrArg List.length h.1
  | cons x its ih => exact fun h => h.consE (m := fun _ _ vs => vs.length = its.length + 1) (fun _ _ _ h => congrArg (· + 1) (ih h)) fun _ _ _ _ _ _ _ _ _ h => congrArg (· + 1) (ih h)
theorem TReps.le {its : List (Bool × D)} : ∀ {Hd : HMap} {vs : List Value}, TReps Z G Hd' Hd vs its → Le Hd Hd' := by
  induction its with
  | nil => exact fun h => h.2
  | cons x its ih => exact fun h => h.consE (m := fun _ _ _ => _) (fun _ _ _ h => ih h) fun _ _ _ _ _ h0 _ _ _ h => (addG_le h0).trans (ih h)
theorem addG_comm {a b : Addr} {o o' : Obj} (h : b ≠ a) : addG (addG H a o) b o' = addG (addG H b o') a o := by
  funext c
  by_cases hb : c = b
  · subst hb; rw [addG_self, addG_ne h, addG_self]
  · by_cases ha : c = a
    · subst ha; rw [addG_ne hb, addG_self, addG_self]
    · rw [addG_ne hb, addG_ne ha, addG_ne ha, addG_ne hb]
theorem TReps.del {a : Addr} {o : Obj} {its : List (Bool × D)} : ∀ {Hd : HMap} {vs : List Value}, Hd a = none → TReps Z G Hd' (addG Hd a o) vs its → TReps Z G (delM Hd' a) Hd vs its := by
  induction its with
  | nil => exact fun h0 h => ⟨h.1, fun b o' e => have hb : b ≠ a := fun q => by rw [q, h0] at e; cases e
      (delM_ne hb).trans (h.2 b o' ((addG_ne hb).trans e))⟩
  | cons x its ih => exact fun {Hd vs} h0 h => h.consE (m := fun fl d vs => TReps Z G (delM Hd' a) Hd vs ((fl, d) :: its)) (fun v r hv h => ⟨v, r, rfl, hv, ih h0 h⟩) fun b o' items l r hb hb0 L hr h =>
      have ne : b ≠ a := fun q => by rw [q, addG_self] at hb; cases hb
      ⟨.ref b, r, rfl, b, o', l, ⟨rfl, rfl⟩, ⟨(addG_ne ne).symm.trans hb, hb0⟩, ⟨items, L, hr⟩, ih ((addG_ne ne.symm).trans h0) (addG_comm ne ▸ h)⟩

/-- where a tuple display comes to -/
structure TAt (B : Bd Z) (G : HMap) (s : Shared) (sl : List Slot) (its : List (Bool × D)) (q : Pool) (vs : List Value) (G' H' Hd' : HMap) (s' : Shared) : Prop where
  le : Le G G'
  sm : Sm s s'
  S : StOK Z.h₀ Z.P G' H' q s'
  F : FrS Z G' Hd' H' B.env B.ns sl
  T : TReps Z G' Hd' B.Hd vs its
  O : OwnCells Z.h₀ Hd' B.env
theorem evT_sound (all : ∀ x, Snd Z x) (es : Ex) : ∀ (B : Bd Z) {els : List Expr} {pos : Pos}, ckEs B.ns es els = true → ∀ {Φ : List (Bool × D) → Pool → Prop} {ε : Pool → Prop} {Q : List Value → Shared → Prop} {E : Value → Shared → Prop} {G H : HMap} {p : Pool} {s : Shared},
    evT Z.C es sl p Φ ε → B.On G H sl p s → B.Xc G s ε E → (∀ its q vs G' H' Hd' s', Φ its q → TAt B G s sl its q vs G' H' Hd' s' → Q vs s') → wpAny Z.M B.A (spliced (backTo pos (starEach els B.env))) Q E s := by
  induction es with
  | nil =>
    intro B els pos hc Φ ε Q E G H p s h o hx k
    cases cks_nil hc
    exact wpAny_pure (k _ _ _ _ _ _ _ h ⟨.refl _, .refl _, o.S, o.F, ⟨rfl, .refl _⟩, B.X.cells⟩)
  | cons x xs _ ih =>
    intro B els pos hc Φ ε Q E G H p s h o hx k
    obtain ⟨e, r, rfl, h1, h2⟩ := cks_cons hc
    rw [star_cons h1]
    refine Calls.spliced_cons (o.ev (all x) h1 h hx fun fl d q v G1 s1 h n hv => ?_)
    cases fl with
    | false => exact ih B h2 h n.on (hx.after n) fun its q vs G2 H2 Hd' s2 h t => k _ _ _ _ _ _ _ h ⟨n.le.trans t.le, n.sm.trans t.sm, t.S, t.F, ⟨v, vs, rfl, VRep.mono t.le hv, t.T⟩, t.O⟩
    | true =>
      obtain ⟨a, l, N, rfl, rfl⟩ := hv
      obtain ⟨items, kk, ho, hr⟩ := N.o
      have hd := n.on.F.le.off N.hd
      exact ih { B with Hd := addG B.Hd a (lobj items kk), X := B.X.hold n.on.F N.hd } h2 h ⟨n.on.F.hold N.hd, n.on.S.hold ho N.g N.p⟩ (fun q e s' h x => hx.after n q e s' h (x.weak (addG_le hd))) fun its q vs G2 H2 Hd' s2 h t =>
        k _ _ _ _ _ _ _ h ⟨n.le.trans t.le, n.sm.trans t.sm, t.S, t.F, ⟨.ref a, vs, rfl, a, lobj items kk, l, ⟨rfl, rfl⟩, ⟨hd, N.b⟩, ⟨items, ⟨rfl, rfl, kk, rfl⟩, hr.mono t.le⟩, t.T⟩, t.O⟩
  | _ => exact fun B els pos hc => (noEs rfl hc).elim

/-- stores of names -/
noncomputable def Setters (Z : Zt) (A : Around) (env : Env) (ns : Ns) : List Nat → List (Value → Sem Unit) → Prop
  | [], fs => fs = []
  | x :: xs, fs => ∃ n f r, fs = f :: r ∧ ns.vars[x]? = some n ∧ (∀ (v : Value) (Q : Unit → Shared → Prop) (E : Value → Shared → Prop) (s : Shared), wpAny Z.M A (storeName env n v) Q E s → wpAny Z.M A (f v) Q E s) ∧ Setters Z A env ns xs r
theorem setters_tg {xs : List Nat} : ∀ {ts : List Expr}, tgGo ns xs ts = true → Setters Z A env ns xs ((assignEach ts env).map (·.2)) := by
  induction xs with
  | nil => intro ts h; cases tgGo_nil h; rfl
  | cons x xs ih => exact fun h => tgGo_cons h fun n q r hn h => ⟨n, _, _, rfl, hn, fun v Q E s h => wpAny_assign_Name h, ih h⟩
theorem setters_bind {xs : List Nat} : ∀ {names : List Str}, xs.map (fun x => ns.vars[x]?) = names.map some → Setters Z A env ns xs (names.map fun n => bindName env n) := by
  induction xs with
  | nil => intro names h; cases names with
    | nil => rfl
    | cons _ _ => cases h
  | cons x xs ih => intro names h; cases names with
    | nil => cases h
    | cons n names => exact ⟨n, _, _, rfl, (List.cons.inj h).1, fun v Q E s h => wpAny_bindName h, ih (List.cons.inj h).2⟩
theorem Setters.length {xs : List Nat} : ∀ {fs : List (Value → Sem Unit)}, Setters Z A env ns xs fs → fs.length = xs.length := by
  induction xs with
  | nil => exact fun h => congrArg List.length (show _ = [] from h)
  | cons x xs ih => exact fun ⟨_, _, _, e, _, _, h⟩ => by rw [e]; exact congrArg (· + 1) (ih h)

/-- an own list of the base is stored -/
theorem FrS.storeB {x : Nat} {n : Str} {a : Addr} {o : Obj} {items : Array Value} {l : List D} (F : FrS Z G Hd' H env ns sl) (S : StOK Z.h₀ Z.P G H p s) (hx : ns.vars[x]? = some n) (O : OwnCells Z.h₀ Hd' env) (le : Le Hd Hd') (hd : Hd a = none) (hb : Z.h₀.get? a = none) (ho : Hd' a = some o) (L : LObj o items) (r : VReps Z.P G items.toList l)
    (h : ∀ s' H', Sm s s' → StOK Z.h₀ Z.P G H' p s' → FrS Z G Hd H' env ns (sl.set x (.own l)) → Q () s') : wpAny Z.M A (storeName env n (.ref a)) Q E s :=
  (F.base le).storeO S hx (O.base le) hd hb (L.own (F.le _ _ ho) r) (fun y n' l' hy hl hloc => by
    have := F.vars y n' hy
    rw [hl] at this
    obtain ⟨b, q1, q2, _⟩ := this
    rw [q1] at hloc; cases hloc
    rw [ho] at q2; cases q2) h
theorem store_seq {xs : List Nat} : ∀ {fs : List (Value → Sem Unit)} {vs : List Value} {its : List (Bool × D)} {Hd Hd' H : HMap} {sl : List Slot} {s : Shared}, Setters Z A env ns xs fs → TReps Z G Hd' Hd vs its → its.length = xs.length → FrS Z G Hd' H env ns sl → StOK Z.h₀ Z.P G H p s →
    OwnCells Z.h₀ Hd' env → (∀ s' H', Sm s s' → StOK Z.h₀ Z.P G H' p s' → FrS Z G Hd H' env ns (putAll xs its sl) → Q () s') → wpAny Z.M A (assignInOrder fs vs) Q E s := by
  induction xs with
  | nil =>
    intro fs vs its Hd Hd' H sl s hf T hl F S O h
    cases List.length_eq_zero_iff.mp hl
    rw [show fs = [] from hf, T.1]
    exact wpAny_assignInOrder_none (h s H (.refl _) S (F.base T.2))
  | cons x xs ih =>
    intro fs vs its Hd Hd' H sl s hf T hl F S O h
    obtain ⟨n, f, r, rfl, hn, hf, hfs⟩ := hf
    cases its with
    | nil => cases hl
    | cons d its =>
      obtain ⟨fl, d⟩ := d
      revert h
      refine T.consE (m := fun fl d vs => (∀ s' H', Sm s s' → StOK Z.h₀ Z.P G H' p s' → FrS Z G Hd H' env ns (putAll (x :: xs) ((fl, d) :: its) sl) → Q () s') → wpAny Z.M A (assignInOrder (f :: r) vs) Q E s) (fun v r hv T h => ?_) fun a o items l r hd hb L hr T h => ?_
      · exact wpAny_assignInOrder_more (hf _ _ _ _ (F.storeD S hn (.inr O) hv fun s1 H1 sm1 S1 F1 => ih hfs T (Nat.succ.inj hl) F1 S1 O fun s2 H2 sm2 S2 F2 => h s2 H2 (sm1.trans sm2) S2 F2))
      · have le := delM_le Hd' a
        exact wpAny_assignInOrder_more (hf _ _ _ _ (F.storeB S hn O le delM_self hb (T.le _ _ addG_self) L hr fun s1 H1 sm1 S1 F1 => ih hfs (T.del hd) (Nat.succ.inj hl) F1 S1 (O.base le) fun s2 H2 sm2 S2 F2 => h s2 H2 (sm1.trans sm2) S2 F2))
theorem putAll_set {x : Nat} {t : Slot} {xs : List Nat} : ∀ {its : List (Bool × D)} {sl : List Slot}, x ∉ xs → putAll xs its (sl.set x t) = (putAll xs its sl).set x t := by
  induction xs with
  | nil => exact fun _ => rfl
  | cons y ys ih =>
    intro its sl h
    cases its with
    | nil => rfl
    | cons d its => exact (congrArg (putAll ys its) (List.set_comm _ _ fun q : x = y => h (q ▸ List.mem_cons_self))).trans (ih fun q => h (List.mem_cons_of_mem _ q))
/-- from the last to the first -/
theorem store_rev {xs : List Nat} : ∀ {fs fs' : List (Value → Sem Unit)} {vs vs' : List Value} {its : List (Bool × D)} {Hd H : HMap} {s : Shared}, xs.Nodup → Setters Z A env ns xs fs → TReps Z G Hd' Hd vs its → its.length = xs.length → FrS Z G Hd' H env ns sl → StOK Z.h₀ Z.P G H p s →
    OwnCells Z.h₀ Hd' env → (∀ s' H', Sm s s' → StOK Z.h₀ Z.P G H' p s' → FrS Z G Hd H' env ns (putAll xs its sl) → wpAny Z.M A (assignInOrder fs' vs') Q E s') → wpAny Z.M A (assignInOrder (fs.reverse ++ fs') (vs.reverse ++ vs')) Q E s := by
  induction xs with
  | nil =>
    intro fs fs' vs vs' its Hd H s _ hf T hl F S O h
    cases List.length_eq_zero_iff.mp hl
    rw [show fs = [] from hf, T.1]
    exact h s H (.refl _) S (F.base T.2)
  | cons x xs ih =>
    intro fs fs' vs vs' its Hd H s hnd hf T hl F S O h
    obtain ⟨n, f, r, rfl, hn, hf, hfs⟩ := hf
    obtain ⟨hnx, hnd⟩ := List.nodup_cons.mp hnd
    cases its with
    | nil => cases hl
    | cons d its =>
      obtain ⟨fl, d⟩ := d
      revert h
      have ps : ∀ t, putAll xs its (sl.set x t) = (putAll xs its sl).set x t := fun t => putAll_set hnx
      refine T.consE (m := fun fl d vs => (∀ s' H', Sm s s' → StOK Z.h₀ Z.P G H' p s' → FrS Z G Hd H' env ns (putAll xs its (sl.set x (slotOf fl d))) → wpAny Z.M A (assignInOrder fs' vs') Q E s') → wpAny Z.M A (assignInOrder ((f :: r).reverse ++ fs') (vs.reverse ++ vs')) Q E s) (fun v r hv T h => ?_) fun a o items l r hd hb L hr T h => ?_
      · rw [List.reverse_cons, List.reverse_cons, List.append_assoc, List.append_assoc]
        exact ih hnd hfs T (Nat.succ.inj hl) F S O fun s1 H1 sm1 S1 F1 => wpAny_assignInOrder_more (hf _ _ _ _ (F1.storeD S1 hn (.inr (O.base T.le)) hv fun s2 H2 sm2 S2 F2 => h s2 H2 (sm1.trans sm2) S2 (ps _ ▸ F2)))
      · rw [List.reverse_cons, List.reverse_cons, List.append_assoc, List.append_assoc]
        exact ih hnd hfs T (Nat.succ.inj hl) F S O fun s1 H1 sm1 S1 F1 => wpAny_assignInOrder_more (hf _ _ _ _ (F1.storeB S1 hn (O.base T.le) (addG_le hd) hd hb addG_self L hr fun s2 H2 sm2 S2 F2 => h s2 H2 (sm1.trans sm2) S2 (show FrS Z G Hd H2 env ns (putAll xs its (sl.set x (.own l))) from ps _ ▸ F2)))

theorem swapped_is (F : FrS Z G Hd H env ns sl) {ts vs : List Expr} {k k2 : Nat} {q q2 : Pos} {r : Option (List Str)} (h : swapN ns ts vs = some r) : swappedStores [.Tuple ts k q] (.Tuple vs k2 q2) env = pure r := by
  unfold swapN at h
  unfold swappedStores
  have fb : env.blockKind = .function := by unfold Env.blockKind; rw [F.fnKind]; rfl
  have kn : ∀ n, env.kindOf n = ns.scope.names.lookup n := fun n => by unfold Env.kindOf; rw [F.st.scope]
  simp only [fb, kn]
  by_cases c1 : (!(ts.length == 2 || ts.length == 3) || vs.length != ts.length) = true
  · rw [if_pos c1] at h; cases h
    rw [if_pos (by rw [c1]; rfl)]
  · rw [if_neg c1] at h
    rw [if_neg (by simpa using c1)]
    split at h
    · rename_i c2; cases h; exact if_pos c2
    · rename_i c2; refine (if_neg c2).trans ?_
      dsimp only at h
      split at h
      · rename_i c3; cases h; exact if_pos c3
      · rename_i c3; refine (if_neg c3).trans ?_
        split at h
        · rename_i c4; cases h; exact if_pos c4
        · rename_i c4; refine (if_neg c4).trans ?_
          split at h
          · cases h
          · rename_i c5; cases h; exact if_neg c5

theorem nodup_le {n k : Nat} (h : n ≤ 100) (e : k = n) : k ≤ sizeLine := e ▸ Nat.le_trans h (by decide)
theorem sts_tupA (all : ∀ x, Snd Z x) (fz xs : List Nat) (es : Ex) : Sts Z (.tupA fz xs es) := .fz fz rfl fun B b hc Φ ε Q E G H sl sl' p s hs h o k hx => by
  subst hs
  refine cs_tupA hc fun ts kk q vs k2 q2 pos h1 h2 h3 h4 h5 => ?_
  have hev : ∀ {Q : Value → Shared → Prop}, (∀ its q vs G' H' Hd' s' (t : Addr), its.length = xs.length → Φ .next (putAll xs its (freeze fz sl)) q → TAt B G s (freeze fz sl) its q vs G' H' Hd' s' → s'.heap.IsTuple t vs.toArray → Q (.ref t) s') → wpAny Z.M B.A (eval (.Tuple vs k2 q2) B.env) Q E s := fun {Q} kq =>
    wpAny_Tuple_spliced (evT_sound all es B h2 h o hx fun its q vs G' H' Hd' s' h t =>
      have n2 := t.S.nxtH (h := s'.heap.push { cls := .type "tuple", data := .seq vs.toArray }) fun a o e => Heap.get?_push_of_some _ e
      ⟨nodup_le h4 (t.T.length.trans h.1), kq its q vs G' H' Hd' _ _ h.1 h.2 ⟨t.le, t.sm.trans n2.sm, n2.st, t.F, t.T, t.O⟩ ⟨_, Heap.get?_push_size _ rfl, rfl, 0, rfl⟩⟩)
  obtain ⟨e1, e2⟩ := tg_each (env := B.env) xs h1
  unfold swapIs at h5
  cases hsw : swapN B.ns ts vs with
  | none => rw [hsw] at h5; cases h5
  | some r =>
    rw [hsw] at h5
    have hw := swapped_is o.F hsw (k := kk) (k2 := k2) (q := q) (q2 := q2)
    cases r with
    | none =>
      exact PyProof.Rows.Assign_Tuple (hev fun its q vs G' H' Hd' s' t hl h a hT => wpAny_assign_Tuple B.X.handled hT (by rw [e1, ← hl, ← a.T.length, List.size_toArray]) e2 fun h' he =>
        have n3 := a.S.nxtH (h := h') fun a o e => he a o (Nat.ne_of_lt (Heap.lt_size e)) e
        store_seq (setters_tg h1) a.T hl a.F n3.st a.O fun s7 H7 sm7 S7 F7 => k.next h ⟨a.le, a.sm.trans (n3.sm.trans sm7), F7, S7⟩) rfl hw
    | some names =>
      have h5 : xs.map (fun x => B.ns.vars[x]?) = names.map some := eq_of_beq h5
      have hnl : names.length = xs.length := by rw [← List.length_map (f := some), ← h5, List.length_map]
      refine PyProof.Rows.Assign_Tuple_swapped (hev fun its q vs G' H' Hd' s' t hl h a hT => ?_) rfl hw
      rw [show names.length = vs.toArray.size by rw [hnl, ← hl, ← a.T.length, List.size_toArray]]
      refine wpAny_unpackItems_tuple B.X.handled hT fun h' he => ?_
      have n3 := a.S.nxtH (h := h') fun a o e => he a o (Nat.ne_of_lt (Heap.lt_size e)) e
      rw [← List.map_reverse.symm, ← List.append_nil (List.map _ _).reverse]
      show wpAny Z.M B.A (assignInOrder _ vs.reverse) _ _ _
      rw [← List.append_nil vs.reverse]
      exact store_rev h3 (setters_bind h5) a.T hl a.F n3.st a.O fun s7 H7 sm7 S7 F7 => wpAny_assignInOrder_none (k.next h ⟨a.le, a.sm.trans (n3.sm.trans sm7), F7, S7⟩)
end
end Mini
end
section -- P30
namespace Mini
open PySem PySem.W PyProof.Rows

section
variable {Z : Zt} {B : Bd Z} {A : Around} {G Hd H : HMap} {p : Pool} {s : Shared} {sl : List Slot} {env : Env}
theorem VPost.weak {h₀ : Heap} {P : Addr} {Hd' : HMap} {h : Heap} {fl : Bool} {v : Value} {d : D} (l : Le Hd' Hd) (x : VPost h₀ P G Hd p h fl v d) : VPost h₀ P G Hd' p h fl v d := by
  cases fl with
  | false => exact x
  | true => obtain ⟨a, ll, N, e⟩ := x; exact ⟨a, ll, { N with hd := l.off N.hd }, e⟩
theorem FlOK.weak {H' : HMap} {h : Heap} {fl : Fl} {f : Flow} (l : Le H' H) (x : FlOK Z G H p h fl f) : FlOK Z G H' p h fl f := by
  cases fl with
  | ret b d => exact let ⟨v, hv, e⟩ := x; ⟨v, hv.weak l, e⟩
  | _ => exact x
/-- an exception that comes out of a loop -/
theorem Bd.Xc.noted {ε : Pool → Prop} {E : Value → Shared → Prop} (hx : B.Xc G s ε E) : B.Xc G s ε (notedBy Z.M B.A B.env (cameBackBy Z.M B.A B.env E)) := fun q e s' h x =>
  x.at (m := fun e => notedBy Z.M B.A B.env (cameBackBy Z.M B.A B.env E) e s') fun base tb ea G' a => a.noted B.X.frames B.X.frame fun s2 a2 => a2.came B.X.frame fun s3 a3 => hx q _ s3 h a3.ok

theorem whileW_n {c : List Slot → Pool → (Bool → Pool → Prop) → Prop} {f : List Slot → Pool → (Fl → List Slot → Pool → Prop) → Prop} {n : Nat} {K : Fl → List Slot → Pool → Prop} (h : whileW c f n sl p K) : whileN c f n sl p K := by unfold whileW at h; exact h
/-- where a loop of the form `while` stands -/
inductive WInv (B : Bd Z) (G : HMap) (s : Shared) (W : Nat → List Slot → Pool → Prop) (n : Nat) (s' : Shared) : Prop
  | mk (sl : List Slot) (p : Pool) (G' H' : HMap) : B.Nx G s G' H' sl p s' → W n sl p → WInv B G s W n s'
theorem sts_whil {c : Ex} {b : St} (I : Snd Z c) (J : Sts Z b) : Sts Z (.whil c b) := .plain rfl fun B b0 hc Φ ε Q E G H sl p s h o k hx => by
  refine cs_whil hc fun t bd pos h1 h2 => wpAny_While (codeAny_whileLoop (WInv B G s fun n sl p => whileN (fun s q K => ev Z.C c s q (fun _ d q => asB d fun b => K b q) ε) (fun s q K => ex Z.C b s q K ε) n sl p Φ) (fun n s' hI => ?_) 100 (.mk sl p G H o.nx (whileW_n h)))
  obtain ⟨sl1, p1, G1, H1, n1, hw⟩ := hI
  cases n with
  | zero => exact hw.elim
  | succ n =>
    refine n1.on.t I h1 hw (hx.noted.after n1) fun bb q G2 s2 h m2 => ?_
    have n2 := n1.trans m2
    cases bb with
    | false => rw [if_neg (by decide)]; exact wpAny_execs_nil (k.next (h.2 rfl) n2)
    | true =>
      rw [if_pos rfl]
      refine J.many B h2 (h.1 rfl) n2.on (fun fl sl3 q f G3 H3 s3 h m3 hf => ?_) (hx.noted.after n2)
      have n3 := n2.trans m3
      cases fl with
      | next => cases (show f = .next from hf); exact ⟨n, Nat.lt_succ_self _, .mk _ _ _ _ n3 h⟩
      | cont => cases (show f = .cont from hf); exact ⟨n, Nat.lt_succ_self _, .mk _ _ _ _ n3 h⟩
      | ret b d =>
        obtain ⟨v, hv, rfl⟩ := hf
        exact k _ _ _ _ _ _ _ h n3 ⟨v, hv, rfl⟩

theorem codeAny_forLoop_own {R : Result → Shared → Prop} {target it body orelse env} (I : Nat → Shared → Prop)
    (turn : ∀ n s, I n s → wpAny Z.M A (pyNext it) (fun r s₁ => match r with
      | none => wpAny Z.M A (execs orelse env) (fun f s₃ => R (.ok f) s₃) (notedBy Z.M A env fun e s' => R (.error e) s') s₁
      | some v => wpAny Z.M A (letOwnedTupleGo target it v) (fun _ s₁ => wpAny Z.M A (assign target env v) (fun _ s₂ => wpAny Z.M A (execs body env) (fun f s₃ => match f with
          | .next | .cont => ∃ m, m < n ∧ I m s₃
          | .brk => R (.ok .next) s₃
          | .ret v => R (.ok (.ret v)) s₃) (notedBy Z.M A env fun e s' => R (.error e) s') s₂) (notedBy Z.M A env fun e s' => R (.error e) s') s₁) (notedBy Z.M A env fun e s' => R (.error e) s') s₁) (notedBy Z.M A env fun e s' => R (.error e) s') s)
    (n : Nat) {s : Shared} (h : I n s) : codeAny Z.M A (.forLoop target it body orelse env) R s := by
  refine codeAny_loop' rfl I (fun n s hI => ?_) n h
  show wpAny _ _ ((forTurn target it body orelse env).onRaise (fun x => do noteFrame x env; theTreesLotGoes x)) _ _ s
  refine wpAny_noted ?_
  simp only [forTurn]
  refine wpAny_bind (wpAny_standAt (wpAny_bind (wpAny_onRaise (wpAny_mono (turn n s hI) (fun r s₁ h₁ => ?_) fun _ _ h' => wpAny_standAt h'))))
  cases r with
  | none => exact wpAny_pure (.inr ⟨rfl, codeAny_block h₁⟩)
  | some v =>
    refine wpAny_bind (wpAny_mono h₁ (fun _ s₁ h₁ => ?_) fun _ _ h' => h')
    refine wpAny_bind (wpAny_mono h₁ (fun _ s₂ h₂ => wpAny_bind (wpAny_mono h₂ (fun f s₃ h₃ => ?_) fun _ _ h' => h')) fun _ _ h' => h')
    cases f with
    | next => exact wpAny_pure (.inl ⟨rfl, h₃⟩)
    | cont => exact wpAny_pure (.inl ⟨rfl, h₃⟩)
    | brk => exact wpAny_pure h₃
    | ret v => exact wpAny_pure h₃

/-- where a loop of the form `for` stands -/
structure FAt (B : Bd Z) (G G0 : HMap) (s : Shared) (ds : List D) (Sq : Nat → Heap → Prop) (fp wr : List Addr) (i : Nat) (r : List D) (sl : List Slot) (p : Pool) (G' H' : HMap) (s' : Shared) : Prop where
  row : Row ds i r
  n : B.Nx G s G' H' sl p s'
  le : Le G0 G'
  st : Stand Z Sq fp wr i G' H' p s'
inductive FInv (B : Bd Z) (G G0 : HMap) (s : Shared) (ds : List D) (Sq : Nat → Heap → Prop) (fp wr : List Addr) (W : List D → List Slot → Pool → Prop) (n : Nat) (s' : Shared) : Prop
  | mk (i : Nat) (r : List D) (sl : List Slot) (p : Pool) (G' H' : HMap) : n = r.length → FAt B G G0 s ds Sq fp wr i r sl p G' H' s' → W r sl p → FInv B G G0 s ds Sq fp wr W n s'
/-- what follows the body of a turn -/
noncomputable def TurnF (Z : Zt) (Q : Flow → Shared → Prop) (J : Shared → Prop) (f : Flow) (s : Shared) : Prop := match f with
  | .next | .cont => J s
  | .brk => Q .next s
  | .ret v => Q (.ret v) s
theorem FAt.turn {G0 : HMap} {s0 : Shared} {d : D} {ds r : List D} {Sq : Nat → Heap → Prop} {fp wr : List Addr} {i : Nat} {G' H' : HMap} {s' : Shared} {isT : Bool} {tg : List Nat} {Ia : Addr} {t : Expr} {bd : List Stmt} {b : St} {Φ : Fl → List Slot → Pool → Prop} {W : List Slot → Pool → Prop} {ε : Pool → Prop} {Q : Flow → Shared → Prop} {E : Value → Shared → Prop} {J : Shared → Prop}
    (a : FAt B G G0 s0 ds Sq fp wr i (d :: r) sl p G' H' s') (J' : Sts Z b) (hb : ckB B.ns b bd = true) (htg : tgOk B.ns tg isT t = true) (Wk0 : Wk Z.prog Z.w Z.h₀ Z.P B.A isT G0 Ia fp wr ds Sq)
    (h : bindW tg isT d sl fun s => ex Z.C b s p (fun fl s q => loopW fl (W s q) fun a b => Φ (.ret a b) s q) ε) (k : B.Vl G s0 Φ Q) (hx : B.Xc G s0 ε E) (hJ : ∀ sl p G' H' s', FAt B G G0 s0 ds Sq fp wr (i + 1) r sl p G' H' s' → W sl p → J s') :
    wpAny Z.M B.A (pyNext (.ref Ia)) (fun x s1 => ∃ v, x = some v ∧ wpAny Z.M B.A (letOwnedTupleGo t (.ref Ia) v) (fun _ s₁ => wpAny Z.M B.A (assign t B.env v) (fun _ s₂ => wpAny Z.M B.A (execs bd B.env) (TurnF Z Q J) E s₂) E s₁) E s1) E s' := by
  refine Wk0.next a.row.cons.1 (bindT_TgtOK htg) a.le a.n.on.S a.st fun v G3 s3 K n3 hv dis S3 back => ?_
  have X3 := B.X.addM a.n.on.F dis
  refine assign_tg B.X.handled htg hv h ((a.n.on.F.monoG n3.le).addM dis) S3 (fun _ _ _ _ => .inr X3.cells) fun s4 H4 sl1 hs sm4 S4 F4 => ?_
  have lHd : Le B.Hd (addM B.Hd K) := addM_left (dis.weak a.n.on.F.le)
  have l3 := a.n.le.trans n3.le
  have sm3 := a.n.sm.trans (n3.sm.trans sm4)
  refine J'.many { B with Hd := addM B.Hd K, X := X3 } hb hs ⟨F4, S4⟩ (fun fl sl5 q f G5 H5 s5 h n5 hf => ?_) fun q e s5 h x => hx q e s5 h ((x.weak lHd).later l3 sm3)
  have lK : Le K H5 := (addM_right B.Hd K).trans n5.on.F.le
  have n6 : B.Nx G s0 G5 (dropM H5 K) sl5 q s5 := ⟨l3.trans n5.le, sm3.trans n5.sm, FrS.dropM a.n.on.F dis n5.on.F, n5.on.S.weak (dropM_le H5 K)⟩
  have at' : FAt B G G0 s0 ds Sq fp wr (i + 1) r sl5 q G5 (dropM H5 K) s5 := ⟨a.row.cons.2, n6, a.le.trans (n3.le.trans n5.le), back G5 H5 q s5 n5.on.S n5.le lK⟩
  cases fl with
  | next => cases (show f = .next from hf); exact hJ _ _ _ _ _ at' h
  | cont => cases (show f = .cont from hf); exact hJ _ _ _ _ _ at' h
  | ret b d =>
    obtain ⟨v, hv, rfl⟩ := hf
    exact k _ _ _ _ _ _ _ h n6 ⟨v, hv.weak (dropM_le H5 K), rfl⟩
theorem sts_for (fz tg : List Nat) (isT : Bool) {it : Ex} {b : St} (I : ISnd Z it) (J : Sts Z b) : Sts Z (.for_ fz tg isT it b) := .fz fz rfl fun B b0 hc Φ ε Q E G H sl sl' p s hs h o k hx => by
  subst hs
  refine cs_for hc fun t i bd pos hok htg h1 h2 => wpAny_For (I (B.fm o) h1 hok h o.fm (fun ds p1 itv G2 s2 h n hw => ?_) (o.xc hx)) (foldNot h1)
  obtain ⟨W, st0, W0, hfp⟩ := hw
  rename_i Ia fp wr Sq
  refine codeAny_forLoop_own (FInv B G G2 s ds Sq fp wr fun r sl p => forW tg isT (fun s q K => ex Z.C b s q K ε) r sl p Φ) (fun n s' hI => ?_) ds.length (.mk 0 ds (freeze fz sl) p1 G2 H rfl ⟨.zero ds, o.after n, .refl _, ⟨st0, W0, hfp⟩⟩ h)
  obtain ⟨i, r, sl1, q, G1, H1, rfl, a, hw⟩ := hI
  cases r with
  | nil =>
    have st := a.st
    rw [a.row.nil] at st
    exact W.done s' G1 H1 q _ _ a.n.on.S st.wr st.st fun s2 n2 => wpAny_execs_nil (k.next hw (a.n.trans ⟨n2.le, n2.sm, a.n.on.F, n2.st⟩))
  | cons d r =>
    refine wpAny_mono (a.turn J h2 htg W (W := fun sl p => forW tg isT (fun s q K => ex Z.C b s q K ε) r sl p Φ) hw k hx.noted (J := fun s₃ => ∃ m, m < (d :: r).length ∧ FInv B G G2 s ds Sq fp wr (fun r sl p => forW tg isT (fun s q K => ex Z.C b s q K ε) r sl p Φ) m s₃) fun sl p G' H' s' a h => ⟨r.length, Nat.lt_succ_self _, .mk _ _ _ _ _ _ rfl a h⟩) ?_ fun _ _ q => q
    rintro x s1 ⟨v, rfl, q⟩
    exact q
end
end Mini
end
section -- P31
namespace Mini
open PySem PySem.W PyProof.Rows

/-- the class of the refusals, as the heap holds it -/
noncomputable def BadCls (h₀ : Heap) (C : Addr) : Prop := ∃ nm q N bs bm hdct sn sub ab col dd k0 k1 k2 k3 k5 newId, h₀.get? C = some (excClassObj nm q C N bs bm hdct sn sub ab col dd k0 k1 k2 k3 k5 newId) ∧ bm.contains (.type "BaseException") = true
section
variable {Z : Zt} {fad : Nat → Addr} {G Hd H : HMap} {p : Pool} {s : Shared} {env : Env} {ns : Ns} {sl : List Slot}
theorem glob_bad (GO : GlobOK Z.h₀ fad) {Cb : Addr} (hC : BadC Z.h₀ Cb) {e : Expr} (h : isG ns "BadArgument" e = true) {A : Around} (F : FrS Z G Hd H env ns sl) (S : StOK Z.h₀ Z.P G H p s) {Q : Value → Shared → Prop} {E : Value → Shared → Prop} (hq : Q (.ref Cb) s) : wpAny Z.M A (eval e env) Q E s := by
  refine isG_eqK h fun pos hk hd => ?_
  obtain ⟨mg, mb, hg, hbs, _, hbi⟩ := GO.ns
  exact Calls.Name_function_global F.fnKind (by unfold Env.kindOf; rw [F.st.scope]; exact hk) (Calls.loadGlobal_global (mg := mg) (by rw [F.st.glob]; exact hg.keeps S.base) (hC mg hg) hq) hd
theorem badc_uniq (GO : GlobOK Z.h₀ fad) {C1 C2 : Addr} (h1 : BadC Z.h₀ C1) (h2 : BadC Z.h₀ C2) : C1 = C2 := by
  obtain ⟨mg, _, hg, _⟩ := GO.ns
  cases (h1 mg hg).symm.trans (h2 mg hg); rfl
theorem isRet_eq {x : St} (h : isRet x = true) : x = .cons (.ret [] (.bool true)) .nil := by
  unfold isRet at h
  split at h
  · rfl
  · cases h
theorem sts_try (GO : GlobOK Z.h₀ fad) {Cb : Addr} (hC : BadC Z.h₀ Cb) (hK : BadCls Z.h₀ Cb) (fz : List Nat) {e : Ex} {b : St} (I : Snd Z e) : Sts Z (.tryE fz e b) := .fz fz rfl fun B b0 hc Φ ε Q E G H sl sl' p s hs h o k hx => by
  subst hs
  refine cs_try hc fun v q1 g u1 u2 q2 q3 pos h1 h2 h3 h4 => ?_
  cases isRet_eq h1
  refine wpAny_Try_except (wpAny_execs_cons (wpAny_Expr_any (I.ev (B.fm o) h3 h o.fm (fun fl d q v G1 s1 h n hv => wpAny_execs_nil (wpAny_execs_nil (k.next h (o.after n)))) fun q ee s1 h x => ?_) o.quiet (swaps_no h4)))
  refine x.at fun base tb ea G1 a => a.x.note B.X.frames B.X.frame fun h1 x1 up1 => ?_
  have a1 := a.step x1 up1
  refine XB.fly (s := { s1 with heap := h1 }) (.inl rfl) x1 fun h2' x2 up2 => ?_
  have a2 := a1.step x2 up2
  have F2 := o.F.monoG a2.n.le
  refine wpAny_handleBy_cons (codeAny_handlers_test (glob_bad GO hC h2 F2 a2.n.st ?_)) nofun
  obtain ⟨nm, qq, N, bs, bm, hdct, sn, sub, ab, col, dd, k0, k1, k2, k3, k5, newId, hCo, hbase⟩ := hK
  obtain ⟨C', a0, fl, hC', oe, vs, T, oT, ts, he, hcl, _⟩ := x2.tr
  cases badc_uniq GO hC' hC
  have hCo2 := a2.n.st.base _ _ hCo
  obtain ⟨hp, gg, dd', tk, os⟩ := s1
  refine wpAny_excMatches_sub_self (h := h2') hCo2 he hcl.1 hbase (codeAny_handlers_suite ?_)
  refine XB.fly (s := ⟨h2', gg, dd', tk, os⟩) (.inl rfl) x2 fun h4' x4 up4 => ?_
  have a4 := a2.step x4 up4
  refine wpAny_execs_cons (wpAny_Return_some ?_)
  rw [eval_Constant]
  exact wpAny_pure (k _ _ _ _ _ _ _ h ⟨a4.n.le, a4.n.sm, o.F.monoG a4.n.le, a4.n.st⟩ ⟨_, .frz (.bool true), rfl⟩)
end
end Mini
end
section -- P32
namespace Mini
open PySem PySem.W PyProof.Rows

/-- what a function's body ends in -/
noncomputable def endW (f : Fl) (k : Bool → D → Prop) : Prop := match f with
  | .ret b d => k b d
  | .next => k false .none
  | .cont => k false .none
/-- a function's run -/
noncomputable def runF (C : Calls) (xb : St) (m : Nat) (args : List D) (p : Pool) (Φ : Bool → D → Pool → Prop) (ε : Pool → Prop) : Prop :=
  ex C xb (args.map .frz ++ List.replicate (m - args.length) .un) p (fun f _ q => endW f fun b d => Φ b d q) ε
structure NsOk (ns : Ns) (k : Nat) : Prop where
  kind : ns.scope.kind = .function
  nd : ns.vars.Nodup
  args : ∀ n ∈ ns.vars.take k, ns.scope.names.lookup n = some .local
  vars : ∀ n ∈ ns.vars, ns.scope.names.lookup n = some .local ∨ ns.scope.names.lookup n = some .cell
  le : k ≤ ns.vars.length
  co : ns.scope.isCoroutine = false
  gen : ns.scope.isGenerator = false
noncomputable def nsOk (ns : Ns) (k : Nat) : Bool :=
  ns.scope.kind == .function && (decide ns.vars.Nodup && ((ns.vars.take k).all (fun n => ns.scope.names.lookup n == some .local) && (ns.vars.all (fun n => ns.scope.names.lookup n == some .local || ns.scope.names.lookup n == some .cell)
    && (decide (k ≤ ns.vars.length) && (!ns.scope.isCoroutine && !ns.scope.isGenerator)))))
theorem nsOk_ok {ns : Ns} {k : Nat} (h : nsOk ns k = true) : NsOk ns k :=
  have h1 := bb h
  have h2 := bb h1.2
  have h3 := bb h2.2
  have h4 := bb h3.2
  have h5 := bb h4.2
  ⟨eq_of_beq h1.1, of_decide_eq_true h2.1, fun n hn => eq_of_beq (List.all_eq_true.mp h3.1 n hn), fun n hn => (Bool.or_eq_true_iff.mp (List.all_eq_true.mp h4.1 n hn)).imp eq_of_beq eq_of_beq, of_decide_eq_true h5.1, nt (bb h5.2).1, nt (bb h5.2).2⟩

structure FnAt (h₀ : Heap) (a : Addr) (ns : Ns) (xb : St) (k : Nat) : Prop where
  ok : nsOk ns k = true
  fn : ∃ o fd body, h₀.get? a = some o ∧ o.data = .func fd ∧ fd.body = .stmts body ∧ ckB ns xb body = true ∧ fd.scope = ns.scope ∧ fd.globals = mainGlobals ∧ fd.builtins = builtinsNs ∧ fd.closure = [] ∧ h₀.CodeRec fd.code fd.qualname ∧
    ∀ vals : List Value, vals.length = k → ∀ (M : Model) (A : Around) (s : Shared) (Q : List (Str × Value) → Shared → Prop) (E : Value → Shared → Prop), (∀ b o, h₀.get? b = some o → s.heap.get? b = some o) → Q ((ns.vars.take k).zip vals) s → wpAny M A (bindArgs fd ⟨vals, []⟩) Q E s

section
variable {Z : Zt} {fad : Nat → Addr} {A : Around} {G Hd H : HMap} {p : Pool} {s : Shared} {env : Env} {ns : Ns} {sl : List Slot} {outer l : List Env}
theorem sts_all (GO : GlobOK Z.h₀ fad) (FA : FnsAt Z.h₀ fad) (CS : ∀ f, f < 25 → CallSound Z fad f) {Cb : Addr} (hC : BadC Z.h₀ Cb) (hK : BadCls Z.h₀ Cb) (RS : ∀ xs, Sts Z (.raise xs)) (x : St) : Sts Z x := by
  have all := snd_all GO FA CS
  induction x with
  | nil => exact sts_nil
  | cons x r I J => exact sts_cons I J
  | assign fz x e => exact sts_assign fz x (all e).1 fun _ _ _ elt it cond _ => ⟨(all elt).1, (all cond).1, (all it).2⟩
  | tupA fz xs es => exact sts_tupA (fun x => (all x).1) fz xs es
  | unp fz xs e => exact sts_unp fz xs (all e).1
  | setS fz x i e => exact sts_setS fz x (all i).1 (all e).1
  | aug fz x o e => exact sts_aug fz x o (all e).1
  | augS fz x i o e => exact sts_augS fz x o (all i).1 (all e).1
  | app fz x e => exact sts_app fz x (all e).1
  | expr fz e => exact sts_expr fz (all e).1
  | ret fz e => exact sts_ret fz (all e).1
  | retN => exact sts_retN
  | ite fz c a b I J => exact sts_ite fz (all c).1 I J
  | whil c b I => exact sts_whil (all c).1 I
  | for_ fz tg isT it b I => exact sts_for fz tg isT (all it).2 I
  | cont => exact sts_cont
  | raise xs => exact RS xs
  | tryE fz e h I => exact sts_try GO hC hK fz (all e).1
  | bad => exact sts_bad

theorem bindL_not {kindOf : Str → Option NameKind} {a : Str} (ns : List Str) : ∀ (vs : List Value) (m : Str → Option Value), a ∉ ns → bindL kindOf (ns.zip vs) m a = m a := by
  induction ns with
  | nil => exact fun _ _ _ => rfl
  | cons c ns ih =>
    intro vs m hm
    cases vs with
    | nil => rfl
    | cons d vs =>
      rw [List.zip_cons_cons]
      unfold bindL
      rw [ih vs _ fun q => hm (List.mem_cons_of_mem _ q)]
      split
      · exact if_neg fun q : a = c => hm (q ▸ List.mem_cons_self)
      · rfl
theorem bindL_zip {kindOf : Str → Option NameKind} {n : Str} {v : Value} (ns : List Str) : ∀ {vs : List Value} {m : Str → Option Value}, (∀ n ∈ ns, kindOf n = some .local) → ns.Nodup → ∀ {i : Nat}, ns[i]? = some n → vs[i]? = some v → bindL kindOf (ns.zip vs) m n = some v := by
  induction ns with
  | nil => intro vs m _ _ i h; cases h
  | cons a r ih =>
    intro vs m hk hn i h1 h2
    cases vs with
    | nil => cases h2
    | cons b t =>
      have hk := List.forall_mem_cons.mp hk
      have hn := List.nodup_cons.mp hn
      rw [List.zip_cons_cons]
      unfold bindL
      rw [if_pos hk.1]
      cases i with
      | zero =>
        cases h1; cases h2
        rw [bindL_not r t _ hn.1]; exact if_pos rfl
      | succ i => exact ih hk.2 hn.2 (i := i) h1 h2
theorem cellsFrom_has {n : Str} (names : List (Str × NameKind)) : ∀ {k : Nat} {acc : List (Str × Addr)}, (names.lookup n = some .cell ∨ ∃ c, acc.lookup n = some c) → ∃ c, (cellsFrom k names acc).lookup n = some c := by
  induction names with
  | nil => exact fun h => h.resolve_left nofun
  | cons x r ih =>
    intro k acc h
    obtain ⟨m, kd⟩ := x
    rw [List.lookup_cons] at h
    unfold cellsFrom
    split
    · refine ih ?_
      rw [List.lookup_cons]
      cases hb : n == m with
      | true => exact .inr ⟨_, rfl⟩
      | false => rw [hb] at h; exact h
    · rename_i hc
      refine ih ?_
      cases hb : n == m with
      | true => rw [hb] at h; exact .inr (h.resolve_left fun q => hc (by cases q; rfl))
      | false => rw [hb] at h; exact h
theorem pair_inj {c : Addr} {n n' : Str} {l : List (Str × Addr)} (hp : l.Pairwise (fun x y => x.2 ≠ y.2)) (h1 : (n, c) ∈ l) (h2 : (n', c) ∈ l) : n = n' := by
  induction l with
  | nil => cases h1
  | cons x r ih =>
    obtain ⟨a, b⟩ := List.pairwise_cons.mp hp
    rcases List.mem_cons.mp h1 with q1 | q1
    · rcases List.mem_cons.mp h2 with q2 | q2
      · rw [← q1] at q2; exact (Prod.mk.inj q2).1.symm
      · subst q1; exact absurd rfl (a (n', c) q2)
    · rcases List.mem_cons.mp h2 with q2 | q2
      · subst q2; exact absurd rfl (a (n, c) q1)
      · exact ih b q1 q2

/-- the slots at a function's start -/
theorem sg_un (k : Nat) : ∀ x, sg (List.replicate k .un) x = .un := by
  induction k with
  | zero => exact fun _ => rfl
  | succ k ih =>
    intro x
    cases x with
    | zero => rfl
    | succ x => exact ih x
theorem sg_args (ds : List D) (k : Nat) : ∀ x, sg (ds.map Slot.frz ++ List.replicate k .un) x = (ds[x]?).elim .un .frz := by
  induction ds with
  | nil => exact sg_un k
  | cons d ds ih =>
    intro x
    cases x with
    | zero => rfl
    | succ x => exact ih x
theorem sg_own {ds : List D} {k x : Nat} {l : List D} : sg (ds.map Slot.frz ++ List.replicate k .un) x ≠ .own l := fun h => by
  rw [sg_args] at h
  cases e : ds[x]? with
  | none => rw [e] at h; cases h
  | some o => rw [e] at h; cases h
/-- a new frame: its objects -/
noncomputable def frK (env : Env) (h : Heap) : HMap := fun b => if b = env.locals ∨ b ∈ env.cells.map (·.2) then h.get? b else none
theorem frK_in {h : Heap} {b : Addr} {o : Obj} (e : frK env h b = some o) : (b = env.locals ∨ b ∈ env.cells.map (·.2)) ∧ h.get? b = some o := by
  unfold frK at e
  split at e
  · rename_i q; exact ⟨q, e⟩
  · cases e
theorem frK_cell {h : Heap} {n : Str} {c : Addr} {o : Obj} (hc : (n, c) ∈ env.cells) (ho : h.get? c = some o) : frK env h c = some o := (if_pos (.inr (List.mem_map.mpr ⟨_, hc, rfl⟩))).trans ho
/-- a call of a function -/
theorem call_sound {a : Addr} {xb : St} {k : Nat} (J : Sts Z xb) (hl0 : Z.h₀.NoLimit) (fa : FnAt Z.h₀ a ns xb k) (X : Ctx Z.h₀ (ns.lvl + 1) A l Hd) (S : StOK Z.h₀ Z.P G Hd p s) {vs : List Value} {ds : List D} (hr : VReps Z.P G vs ds) (hk : ds.length = k) {Φ : Bool → D → Pool → Prop} {ε : Pool → Prop} {R : Result → Shared → Prop}
    (h : runF Z.C xb ns.vars.length ds p Φ ε) (hR : ∀ fl d q v G' s', Φ fl d q → Nxt Z.h₀ Z.P G Hd s G' q s' → VPost Z.h₀ Z.P G' Hd q s'.heap fl v d → R (.ok (.ret v)) s') (hX : ∀ q e s', ε q → XOK Z.h₀ Z.P l G Hd s q e s' → R (.error e) s') :
    codeAny Z.M A (.call (.ref a) ⟨vs, []⟩) R s := by
  have K := nsOk_ok fa.ok
  obtain ⟨_, o, fd, body, ho, hd, hb, hck, hsc, hgl, hbl, hcl, hcr, hbind⟩ := fa
  refine codeAny_call_function (Nat.lt_of_le_of_lt (Nat.le_trans (Nat.le_add_right _ _) X.depth) (by decide)) (S.base _ _ ho) hd (by rw [hsc]; exact K.co) (by rw [hsc]; exact K.gen) hb (hcr.keeps S.base) ?_
  rw [hcl]
  refine hbind vs (hr.length.trans hk) _ _ _ _ _ S.base (wpAny_newFunctionEnv_cells (by rw [hsc]; exact K.kind) (fun x hx => .inl (by rw [hsc]; exact K.args _ (List.of_mem_zip hx).1)) fun env' he' s₁ hs => ?_)
  subst he'
  refine ⟨(hl0.keeps S.base).keeps hs.toInCall.keep, codeAny_func ?_⟩
  change InCallC s (callEnvC fd s.heap.objs.size a).locals (bindL (callEnvC fd s.heap.objs.size a).kindOf ((ns.vars.take k).zip vs) fun _ => none) (callEnvC fd s.heap.objs.size a).cells (bindC (callEnvC fd s.heap.objs.size a).kindOf ((ns.vars.take k).zip vs) fun _ => none) s₁ at hs
  change wpAny Z.M (A.deeper (callEnvC fd s.heap.objs.size a)) (execs body (callEnvC fd s.heap.objs.size a)) _ (fun e s' => wpAny Z.M (A.deeper (callEnvC fd s.heap.objs.size a)) (leaving (callEnvC fd s.heap.objs.size a) e) _ _ s') s₁
  generalize hE : callEnvC fd s.heap.objs.size a = env at hs ⊢
  have e1 : env.scope = ns.scope := by rw [← hE]; exact hsc
  have e4 : env.locals = s.heap.objs.size := by rw [← hE]; rfl
  have e5 : env.frame = some env.locals := by rw [← hE]; rfl
  have e6 : env.cells = cellsFrom (s.heap.objs.size + 1) ns.scope.names [] := by rw [← hE, ← hsc]; rfl
  have hko : ∀ n, env.kindOf n = ns.scope.names.lookup n := fun n => by unfold Env.kindOf; rw [e1]
  obtain ⟨h1, tk, hsame⟩ := hs.toInCall.same
  have n1 : Nxt Z.h₀ Z.P G Hd s G p s₁ := by
    rw [hsame]; exact S.nxtK fun a o e => by have := hs.toInCall.keep a o e; rw [hsame] at this; exact this
  obtain ⟨oL, es, ep, gL, dL, kL, nL⟩ := hs.toInCall.ns
  have fr : ∀ {b}, (b = env.locals ∨ b ∈ env.cells.map (·.2)) → Fresh Z.h₀ Z.P G Hd p s b := fun {b} q => S.fresh (q.elim (fun q => by rw [q, e4]; exact Nat.le_refl _) fun q => by
    obtain ⟨⟨n, c⟩, hm, rfl⟩ := List.mem_map.mp q
    have := hs.above n c hm
    rw [e4] at this
    exact Nat.le_of_lt this)
  have S2 : StOK Z.h₀ Z.P G (addM Hd (frK env s₁.heap)) p s₁ := n1.st.addM fun b o e => ⟨(frK_in e).2, (fr (frK_in e).1).g, (fr (frK_in e).1).p⟩
  have dis : Dis (frK env s₁.heap) Hd := fun b o e => (fr (frK_in e).1).hd
  have KL : frK env s₁.heap env.locals = some oL := (if_pos (.inl rfl)).trans gL
  have cl : ∀ {n c}, env.cells.lookup n = some c → (n, c) ∈ env.cells := fun h => mem_of_lookup h
  have F : FrS Z G Hd (addM Hd (frK env s₁.heap)) env ns (ds.map .frz ++ List.replicate (ns.vars.length - ds.length) .un) := {
    st := ⟨e1, K.kind, by rw [← hE]; exact hgl, by rw [← hE]; exact hbl, K.nd, fun n hn => by rw [hko]; exact K.vars n hn⟩
    le := addM_left dis
    L := ⟨oL, es, ep, addM_of KL, dL, kL⟩
    Lp := ⟨(fr (.inl rfl)).hd, (fr (.inl rfl)).b⟩
    cells := fun n hn => by
      rw [hko] at hn
      obtain ⟨c, hc⟩ := cellsFrom_has ns.scope.names (k := s.heap.objs.size + 1) (acc := []) (.inl hn)
      rw [← e6] at hc
      obtain ⟨oc, hoc, hdc⟩ := hs.cell n c hc
      exact ⟨c, _, hc, oc, addM_of (frK_cell (cl hc) hoc), hdc⟩
    vars := fun x n hx => by
      rw [sg_args]
      cases hd : ds[x]? with
      | none => trivial
      | some d =>
        obtain ⟨v, hv, hrep⟩ := hr.get hd
        have hx' : (ns.vars.take k)[x]? = some n := by rw [List.getElem?_take, if_pos (hk ▸ (List.getElem?_eq_some_iff.mp hd).1)]; exact hx
        have hloc : env.kindOf n = some .local := by rw [hko]; exact K.args n (List.mem_of_getElem? hx')
        refine ⟨v, ?_, hrep⟩
        unfold loc
        rw [hloc]
        simp only [addM_of KL, Option.bind_some, nsVal, dL, nL]
        exact bindL_zip _ (fun n hn => by rw [hko]; exact K.args n hn) (K.nd.sublist (List.take_sublist k ns.vars)) hx' hv
    inj := fun x y l l' n n' a _ q => absurd q sg_own }
  have X2 : SCtx Z.h₀ ns.lvl (A.deeper env) env l Hd := {
    handled := X.handled
    depth := by have := X.depth; show A.depth + 1 + ns.lvl ≤ 400; omega
    units := by have := X.units; show A.units + 3 + 8 * ns.lvl ≤ 1000; omega
    frames := by show A.frames.map (env :: ·) = some (env :: l); rw [X.frames]; rfl
    frame := e5
    ff := X.ff
    fd := X.fd
    cells := ⟨fun n c _ hc => have f := fr (.inr (List.mem_map.mpr ⟨(n, c), cl hc, rfl⟩)); ⟨f.hd, f.b⟩, fun n n' c _ _ h1 h2 => pair_inj hs.apart (cl h1) (cl h2)⟩ }
  refine J.many ⟨ns, A.deeper env, env, l, Hd, X2⟩ hck h ⟨F, S2⟩ (fun fl sl' q f G' H' s' h n hf => ?_) fun q e s' h x => XOK.leaves X2.frames X2.frame x fun s2 x2 => hX q e s2 h (x2.later (.refl _) n1.sm)
  have n2 : Nxt Z.h₀ Z.P G Hd s G' q s' := ⟨n.le, n.on.S.weak n.on.F.le, n1.sm.trans n.sm⟩
  cases fl with
  | next => cases (show f = .next from hf); exact hR _ _ _ _ _ _ h n2 (.frz .none)
  | cont => cases (show f = .cont from hf); exact hR _ _ _ _ _ _ h n2 (.frz .none)
  | ret b d =>
    obtain ⟨v, hv, rfl⟩ := hf
    exact hR _ _ _ _ _ _ h n2 (hv.weak n.on.F.le)
end
end Mini
end
section -- P33
namespace Mini
open PySem PySem.W PyProof.Rows
noncomputable def vsF : Nat → List Str
 | 0 => vs0 | 1 => vs1 | 2 => vs2 | 3 => vs3 | 4 => vs4 | 5 => vs5 | 6 => vs6 | 7 => vs7 | 8 => vs8 | 9 => vs9 | 10 => vs10 | 11 => vs11 | 12 => vs12 | 13 => vs13 | 14 => vs14 | 15 => vs15
 | 16 => vs16 | 17 => vs17 | 18 => vs18 | 19 => vs19 | 20 => vs20 | 21 => vs21 | 22 => vs22 | 23 => vs23 | 24 => vs24 | _ => vs25
noncomputable def xbF : Nat → St
 | 0 => xb0 | 1 => xb1 | 2 => xb2 | 3 => xb3 | 4 => xb4 | 5 => xb5 | 6 => xb6 | 7 => xb7 | 8 => xb8 | 9 => xb9 | 10 => xb10 | 11 => xb11 | 12 => xb12 | 13 => xb13 | 14 => xb14 | 15 => xb15
 | 16 => xb16 | 17 => xb17 | 18 => xb18 | 19 => xb19 | 20 => xb20 | 21 => xb21 | 22 => xb22 | 23 => xb23 | 24 => xb24 | _ => xb25
noncomputable def nsF (i : Nat) : Ns := ⟨vsF i, scopeF i, if i = 25 then 4 else rank i⟩
noncomputable def parN : List Nat := [2, 1, 3, 1, 2, 3, 1, 1, 2, 2, 2, 2, 1, 2, 1, 2, 2, 2, 2, 1, 2, 2, 2, 2, 2, 1]
noncomputable def addrs : List Addr := [66, 73, 81, 88, 95, 102, 109, 114, 121, 128, 133, 138, 145, 152, 159, 166, 171, 178, 185, 192, 197, 204, 209, 216, 223]
noncomputable def fadr (f : Nat) : Addr := addrs.getD f 0

theorem ok_all : ∀ i < 26, nsOk (nsF i) (parN.getD i 0) = true := by decide +kernel
theorem ck_all : ∀ i < 25, ckB (nsF i) (xbF i) (bodyF i) = true := by decide +kernel
theorem ck_law : ckB (nsF 25) xb25 ((bodyF 25).drop 1) = true := by decide +kernel
end Mini
end
section -- P34
namespace Mini
open PySem PySem.W PyProof.Rows
theorem all_of {α : Type} {f g : Nat → α} {n : Nat} (h : (List.range n).map f = (List.range n).map g) {i : Nat} (hi : i < n) : f i = g i := List.map_inj_left.mp h i (List.mem_range.mpr hi)
noncomputable def cadr (f : Nat) : Addr := ([65, 72, 80, 87, 94, 101, 108, 113, 120, 127, 132, 137, 144, 151, 158, 165, 170, 177, 184, 191, 196, 203, 208, 215, 222] : List Addr).getD f 0
/-- a function's defaults and module, as the heap has them -/
noncomputable def fdOf (o : Obj) : FuncData := match o.data with
  | .func fd => fd
  | _ => default
noncomputable def defF (f : Nat) : Value := if f = 2 then .ref 74 else .none
noncomputable def modF (f : Nat) : Value := if f < 12 then .str "threepress.prefix" 249 else .str "law_no0092_01" 371
theorem fn_rows (P : Params) : (List.range 25).map (fun f => (Mine.KF P).lookup (fadr f)) = (List.range 25).map fun f => some (Mine.fnO f (defF f) (modF f) (cadr f)) := by kernel_rfl
noncomputable def name1 (o : Obj) : Option (Str × Nat) := match o.data with
  | .fields vs => (match vs[1]? with | some (Value.str q t) => some (q, t) | _ => none)
  | _ => none
theorem name1_ok {o : Obj} {q : Str × Nat} (h : name1 o = some q) : ∃ vs, o.data = .fields vs ∧ vs[1]? = some (.str q.1 q.2) := by
  unfold name1 at h
  split at h
  · rename_i vs hd
    split at h
    · rename_i q' t hv; cases h; exact ⟨vs, hd, hv⟩
    · cases h
  · cases h
theorem code_rows (P : Params) : (List.range 25).map (fun f => (((Mine.KF P).lookup (cadr f)).bind name1).map (·.1)) = (List.range 25).map fun f => some (nameF f) := by kernel_rfl
theorem bind_rows (P : Params) (S : Setting) (v : Nat → Value) : (List.range 25).map (fun f => peek (Mine.KF P) S (bindArgs (Mine.fnD f (defF f) (modF f) (cadr f)) ⟨(List.range (parN.getD f 0)).map v, []⟩)) =
    (List.range 25).map fun f => some (((vsF f).take (parN.getD f 0)).zip ((List.range (parN.getD f 0)).map v)) := by kernel_rfl
/-- the names of the text -/
noncomputable def glob3 (P : Params) : Obj := ((Mine.KF P).lookup 3).getD default
theorem glob3_eq (P : Params) : (Mine.KF P).lookup 3 = some (glob3 P) := rfl
theorem name_rows (P : Params) : (List.range 25).map (fun f => nsVal (fnames.getD f "") (glob3 P)) = (List.range 25).map fun f => some (.ref (fadr f)) := by kernel_rfl
theorem bi_rows (P : Params) : (List.range 12).map (fun i => nsVal (bnames.getD i "") (glob3 P)) = (List.range 12).map fun _ => none := by kernel_rfl
section
variable {P : Params} {h : Heap} {mg mb : Str → Option Value}
theorem fn_all (KX : (Mine.KF P).In h) (f : Nat) (hf : f < 25) : FnAt h (fadr f) (nsF f) (xbF f) (parN.getD f 0) where
  ok := ok_all f (Nat.lt_succ_of_lt hf)
  fn := by
    have h1 := all_of (code_rows P) hf
    obtain ⟨q, h2, h3⟩ := Option.map_eq_some_iff.mp h1
    obtain ⟨oc, h4, h5⟩ := Option.bind_eq_some_iff.mp h2
    obtain ⟨vs, h6, h7⟩ := name1_ok h5
    refine ⟨_, Mine.fnD f (defF f) (modF f) (cadr f), bodyF f, KX _ _ (all_of (fn_rows P) hf), rfl, rfl, ck_all f hf, rfl, rfl, rfl, rfl, ⟨cadr f, oc, vs, q.2, rfl, KX _ _ h4, h6, h7.trans (congrArg (fun n => some (Value.str n q.2)) h3)⟩, fun vals hv M A s Q E hb hq => ?_⟩
    have e : vals = (List.range (parN.getD f 0)).map fun i => vals.getD i .none := by rw [← hv]; exact (map_getD_range _ vals).symm
    have k := fun S => all_of (bind_rows P S fun i => vals.getD i .none) hf
    rw [← e] at k
    exact kp_binds (fun a o w => hb a o (KX a o w)) k M A E Q hq
theorem fns_at (KX : (Mine.KF P).In h) : FnsAt h fadr := fun f hf => let ⟨_, o, fd, _, h1, h2, _⟩ := fn_all KX f hf; ⟨o, fd, h1, h2⟩
theorem glob_at (KX : (Mine.KF P).In h) (g : h.Ns mainGlobals mg) {n : Str} {v : Option Value} (e : nsVal n (glob3 P) = v) : mg n = v := by
  obtain ⟨o, es, ep, ho, hd, _, hm⟩ := g
  cases ho.symm.trans (KX 3 _ (glob3_eq P))
  unfold nsVal at e
  rw [hd] at e
  exact (hm n).symm.trans e
theorem badc (KX : (Mine.KF P).In h) : BadC h 57 := fun mg g => glob_at KX g (by kernel_rfl)
theorem badcls (KX : (Mine.KF P).In h) : BadCls h 57 := ⟨_, _, _, _, _, _, _, _, _, _, _, _, _, _, _, _, _, KX 57 _ (by rfl), by rfl⟩
theorem glob_ok {N : Nat} {defs : List DefItem} {consts : List (Str × PyData)} {objs : List (Str × (Obj → Prop))} {names : List Str} (GL : Glob N mg mb defs consts objs names h) (KX : (Mine.KF P).In h) : GlobOK h fadr where
  ns := ⟨mg, mb, GL.g, GL.b, fun f n hf => glob_at KX GL.g (by
      have hlt : f < 25 := (List.getElem?_eq_some_iff.mp hf).1
      have e := all_of (name_rows P) hlt
      rw [List.getD_eq_getElem?_getD, hf] at e
      exact e), fun x hx => by
      obtain ⟨i, hi⟩ := List.mem_iff_getElem?.mp hx
      have hlt : i < 12 := (List.getElem?_eq_some_iff.mp hi).1
      have e := all_of (bi_rows P) hlt
      rw [List.getD_eq_getElem?_getD, hi] at e
      exact ⟨glob_at KX GL.g e, GL.builtins x ((by decide +kernel : ∀ y ∈ bnames, y ≠ ("__name__" : Str)) x hx)⟩⟩
end
end Mini
end
section -- P35
namespace Mini
open PySem PySem.W

noncomputable abbrev bmV : List Value := [.type "ValueError", .type "Exception", .type "BaseException", .type "object"]
noncomputable abbrev newV : String := "ValueError.__new__"
noncomputable abbrev initV : String := "ValueError.__init__"

section
variable {M : Model} {A : Around} {E : Value → Shared → Prop} {h : Heap} {g : Array GenState} {d : Drawn} {t : Nat} {os : OsState}
variable {nm q : Str} {C N Pc : Addr} {bs : List Value} {hdct : Bool} {sn : List Str} {sub : List Value} {ab : Bool} {col : Option Bool} {dd : Option Addr} {k0 k1 k2 k3 k5 : Option Value}

/-- the class of a refusal: its mother is the program's own -/
noncomputable abbrev ownCls (nm q : Str) (C N Pc : Addr) (bs : List Value) (hdct : Bool) (sn : List Str) (sub : List Value) (ab : Bool) (col : Option Bool) (dd : Option Addr) (k0 k1 k2 k3 k5 : Option Value) : Obj :=
  excClassObj nm q C N bs (.ref Pc :: bmV) hdct sn sub ab col dd k0 k1 k2 k3 k5 newV

theorem check_new_own {rest : List Value} {Q : Unit → Shared → Prop} (hC : h.get? C = some (ownCls nm q C N Pc bs hdct sn sub ab col dd k0 k1 k2 k3 k5))
    (hq : Q () ⟨h, g, d, t, os⟩) : wpAny M A (checkBuiltinCall newV ⟨.ref C :: rest, []⟩) Q E ⟨h, g, d, t, os⟩ := by
  have F := PySem.F.excBase_ValueError
  have hcont : (Value.ref C :: .ref Pc :: bmV).contains (.type "ValueError") = true := by simp
  have hstar := F.noStar
  simp only [checkBuiltinCall, F.newKind, F.newSplit, F.newRow]
  repeat (first | refine wpAny_loadPart_at hC ?_ | (refine wpAny_isSubtype_exc hC ?_; rw [hcont]) | refine wpAny_staticBase_exc hC ?_ | refine wpAny_madeBy_exc hC ?_ | simp only [bne_self_eq_false, Bool.false_eq_true, if_false] | wp_step)
  exact hq
end

section
variable {prog : Program} {w : World} {A : Around} {R : Result → Shared → Prop} {h : Heap} {g : Array GenState} {d : Drawn} {t : Nat} {os : OsState}
variable {nm q : Str} {C N Pc : Addr} {bs : List Value} {hdct : Bool} {sn : List Str} {sub : List Value} {ab : Bool} {col : Option Bool} {dd : Option Addr} {k0 k1 k2 k3 k5 : Option Value}

theorem code_new_own {rest : List Value} (hC : h.get? C = some (ownCls nm q C N Pc bs hdct sn sub ab col dd k0 k1 k2 k3 k5))
    (hq : R (.ok (.ret (.ref (h.objs.size + 1)))) ⟨(h.push { cls := .type "tuple", data := .seq rest.toArray }).push
      { cls := .ref C, data := .fields #[.ref h.objs.size, .none, .none, .none, .bool false, .none] }, g, d, t, os⟩) (hrest : rest.length ≤ sizeLine) :
    codeAny (model prog w) A (.builtin newV ⟨.ref C :: rest, []⟩) R ⟨h, g, d, t, os⟩ := by
  have F := PySem.F.excBase_ValueError
  have hends := F.ends
  have hcB : (Value.ref C :: .ref Pc :: bmV).contains (.type "ValueError") = true := by simp
  have hcA : (Value.ref C :: .ref Pc :: bmV).contains (.type "AttributeError") = false := by
    rw [List.contains_cons, List.contains_cons, F.noAttr]; rfl
  have hcN : (Value.ref C :: .ref Pc :: bmV).contains (.type "NameError") = false := by
    rw [List.contains_cons, List.contains_cons, F.noName]; rfl
  refine codeAny_builtinAt F.entry ?_
  unfold Builtin.«BaseException.__new__»
  refine wpAt_bind ?_
  show wpAt _ _ _ (stack >>= _) _ _ _
  refine wpAt_bind (wpAt_stack fun p below => wpAt_of_wpAny ?_)
  wp_walk
  refine wpAt_of_wpAny ?_
  rw [F.owner]
  repeat (first | with_reducible refine wpAny_madeHere_exc F.canon hC ?_ | with_reducible refine wpAny_loadPart_at hC ?_ | (with_reducible refine wpAny_isSubtype_exc hC ?_; first | rw [hcB] | rw [hcA] | rw [hcN]) | wp_step)
  show R _ _
  rw [Heap.size_push]
  exact hq
end

section
variable {prog : Program} {w : World} {M : Model} {A : Around} {E : Value → Shared → Prop} {h : Heap} {g : Array GenState} {d : Drawn} {t : Nat} {os : OsState}
variable {nm q : Str} {C N Pc : Addr} {bs : List Value} {hdct : Bool} {sn : List Str} {sub : List Value} {ab : Bool} {col : Option Bool} {dd : Option Addr} {k0 k1 k2 k3 k5 : Option Value}
variable {nm' q' : Str} {N' : Addr} {bs' : List Value} {hdct' : Bool} {sn' : List Str} {sub' : List Value} {ab' : Bool} {col' : Option Bool} {dd' : Option Addr} {l0 l1 l2 l3 l5 : Option Value}

/-- a name looked up through the class and its mother -/
theorem lookup_own {name : Str} {mN mP : Str → Option Value} {y : Option Value} {Q : Option Value → Shared → Prop} (hC : h.get? C = some (ownCls nm q C N Pc bs hdct sn sub ab col dd k0 k1 k2 k3 k5)) (hn : h.Ns N mN) (hne : mN name = none)
    (hP : h.get? Pc = some (excClassObj nm' q' Pc N' bs' bmV hdct' sn' sub' ab' col' dd' l0 l1 l2 l3 l5 newV)) (hp : h.Ns N' mP) (hB : typeLookup (.type "ValueError") name = pure y)
    (hq : Q (match mP name with | some v => some v | none => y) ⟨h, g, d, t, os⟩) : wpAny M A (typeLookup (.ref C) name) Q E ⟨h, g, d, t, os⟩ := by
  have F := PySem.F.excBase_ValueError
  have hrest : lookupAlong bmV name = pure y := by rw [typeLookup_eq, F.mroIs] at hB; exact hB
  rw [typeLookup_eq]
  refine wpAny_bind (wpAny_mroOf_exc hC ?_)
  rw [lookupAlong_cons]
  refine wpAny_bind (wpAny_classOwn_exc hC hn ?_)
  rw [hne]
  show wpAny M A (lookupAlong (.ref Pc :: bmV) name) Q E _
  rw [lookupAlong_cons]
  refine wpAny_bind (wpAny_classOwn_exc hP hp ?_)
  cases hv : mP name with
  | some v => rw [hv] at hq; exact wpAny_pure hq
  | none => rw [hv] at hq; rw [hrest]; exact wpAny_pure hq

theorem check_type_call_own {rest : List Value} {Q : Unit → Shared → Prop} (hC : h.get? C = some (ownCls nm q C N Pc bs hdct sn sub ab col dd k0 k1 k2 k3 k5))
    (hq : Q () ⟨h, g, d, t, os⟩) : wpAny M A (checkBuiltinCall "type.__call__" ⟨.ref C :: rest, []⟩) Q E ⟨h, g, d, t, os⟩ := wpAny_check_type_call_sub hC hq

/-- the class called: the new object, then the mother's __init__ -/
theorem type_call_own {mN mP : Str → Option Value} {rest : List Value} {fi : Addr} {Q : Fin → Shared → Prop}
    (hC : h.get? C = some (ownCls nm q C N Pc bs hdct sn sub ab col dd k0 k1 k2 k3 k5)) (hn : h.Ns N mN) (hni : mN "__init__" = none)
    (hP : h.get? Pc = some (excClassObj nm' q' Pc N' bs' bmV hdct' sn' sub' ab' col' dd' l0 l1 l2 l3 l5 newV)) (hp : h.Ns N' mP) (hpi : mP "__init__" = some (.ref fi)) {of : Obj} (hf : h.get? fi = some of) (hfc : of.cls = .type "function") (hrest : rest.length ≤ sizeLine)
    (hq : ∀ h', h' = (h.push { cls := .type "tuple", data := .seq rest.toArray }).push { cls := .ref C, data := .fields #[.ref h.objs.size, .none, .none, .none, .bool false, .none] } →
      wpAny (model prog w) A (call (.ref fi) (.ref (h.objs.size + 1) :: rest)) (fun v s => v = .none ∧ Q (.done (.ret (.ref (h.objs.size + 1)))) s) E ⟨h', g, d, t, os⟩) :
    wpAny (model prog w) A (Builtin.«type.__call__» ⟨.ref C :: rest, []⟩) Q E ⟨h, g, d, t, os⟩ := by
  have F := PySem.F.excBase_ValueError
  repeat (first | with_reducible refine wpAny_loadPart_at hC ?_ | with_reducible refine wpAny_madeBy_exc hC ?_ | wp_step)
  refine codeAny_call_builtin_code (Code.quiet_builtin _ F.quiet) (check_new_own hC ?_)
  refine code_new_own hC ?_ hrest
  show wpAny _ _ _ _ _ _
  have hk : ∀ b o, h.get? b = some o → ((h.push { cls := .type "tuple", data := .seq rest.toArray }).push { cls := .ref C, data := .fields #[.ref h.objs.size, .none, .none, .none, .bool false, .none] }).get? b = some o := fun b o e =>
    Heap.get?_push_of_some _ (Heap.get?_push_of_some _ e)
  have hC₁ := hk _ _ hC
  have hn₁ := hn.keeps hk
  have hP₁ := hk _ _ hP
  have hp₁ := hp.keeps hk
  have hget : ((h.push { cls := .type "tuple", data := .seq rest.toArray }).push
      { cls := .ref C, data := .fields #[.ref h.objs.size, .none, .none, .none, .bool false, .none] }).get? (h.objs.size + 1) = some
      { cls := .ref C, data := .fields #[.ref h.objs.size, .none, .none, .none, .bool false, .none] } := by heap_get
  have hcC : (Value.ref C :: .ref Pc :: bmV).contains (.ref C) = true := by simp
  unfold isInstance
  repeat (first | with_reducible refine wpAny_loadPart_at hget ?_ | (with_reducible refine wpAny_isSubtype_exc hC₁ ?_; rw [hcC]) | wp_step)
  show wpAny _ _ (typeLookup (.ref C) _) _ _ _
  refine lookup_own hC₁ hn₁ hni hP₁ hp₁ F.init.lookup ?_
  rw [hpi]
  refine wpAny_holding ?_
  have hf₁ := hk _ _ hf
  have hbind : ∀ {Q' : Value × List Value → Shared → Prop} {E' : Value → Shared → Prop}, Q' (.ref fi, [.ref (h.objs.size + 1)]) ⟨(h.push { cls := .type "tuple", data := .seq rest.toArray }).push { cls := .ref C, data := .fields #[.ref h.objs.size, .none, .none, .none, .bool false, .none] }, g, d, t, os⟩ →
      wpAny (model prog w) A (bindSpecial (.ref fi) (.ref (h.objs.size + 1))) Q' E' ⟨(h.push { cls := .type "tuple", data := .seq rest.toArray }).push { cls := .ref C, data := .fields #[.ref h.objs.size, .none, .none, .none, .bool false, .none] }, g, d, t, os⟩ := by
    intro Q' E' hq'
    unfold bindSpecial
    refine wpAny_bind ?_
    unfold typeOf
    refine wpAny_bind (wpAny_loadPart_at hf₁ (wpAny_pure ?_))
    rw [hfc]
    exact wpAny_pure hq'
  refine wpAny_bind (hbind ?_)
  refine wpAny_bind (wpAny_mono (hq _ rfl) (fun v s' hv => ?_) fun _ _ x => x)
  obtain ⟨rfl, hv⟩ := hv
  exact wpAny_pure (wpAny_pure hv)

/-- the class called as a value -/
theorem call_own {mN mP : Str → Option Value} {rest : List Value} {fi : Addr} {Q : Value → Shared → Prop}
    (hC : h.get? C = some (ownCls nm q C N Pc bs hdct sn sub ab col dd k0 k1 k2 k3 k5)) (hn : h.Ns N mN) (hni : mN "__init__" = none)
    (hP : h.get? Pc = some (excClassObj nm' q' Pc N' bs' bmV hdct' sn' sub' ab' col' dd' l0 l1 l2 l3 l5 newV)) (hp : h.Ns N' mP) (hpi : mP "__init__" = some (.ref fi)) {of : Obj} (hf : h.get? fi = some of) (hfc : of.cls = .type "function") (hrest : rest.length ≤ sizeLine)
    (hq : ∀ h', h' = (h.push { cls := .type "tuple", data := .seq rest.toArray }).push { cls := .ref C, data := .fields #[.ref h.objs.size, .none, .none, .none, .bool false, .none] } →
      wpAny (model prog w) (A.under (.builtin "type.__call__" ⟨.ref C :: rest, []⟩)) (call (.ref fi) (.ref (h.objs.size + 1) :: rest)) (fun v s => v = .none ∧ Q (.ref (h.objs.size + 1)) s) E ⟨h', g, d, t, os⟩) :
    wpAny (model prog w) A (call (.ref C) rest) Q E ⟨h, g, d, t, os⟩ := by
  have f1 := tc_lookup
  have f2 := tc_bind (.ref C)
  have hT : (⟨h, g, d, t, os⟩ : Shared).TypeIs (.ref C) "type" := ⟨_, hC, rfl⟩
  refine wpAny_call (codeAny_of_tree ?_)
  show wpAny _ _ (callAny (.ref C) _) _ _ _
  repeat (any_goals (first | assumption | with_reducible refine wpAny_loadPart_at hC ?_ | wp_step))
  refine ⟨rfl, ?_⟩
  refine codeAny_call_builtin_at (Code.quiet_builtin _ (by decide +kernel)) entry_typeCall (check_type_call_own hC (type_call_own hC hn hni hP hp hpi hf hfc hrest fun h' he => ?_))
  exact hq h' he
end
end Mini
end
section -- P36
namespace Mini
open PySem PySem.W
theorem slot_type_ga : PySem.Slot "type" "__getattribute__" "type.__getattribute__" :=
  .of (owner := "type") (n := "__getattribute__") (by rw [typeLookup_type, builtinLookup_eq_fast]; kernel_rfl) (by decide +kernel) (by decide +kernel) (by decide +kernel)
    (by first | exact .inl (by decide +kernel) | exact .inr (by decide +kernel)) (by rw [isSubtype_type]; kernel_rfl)
theorem entry_type_ga : entryFor table "type.__getattribute__" = some Builtin.«type.__getattribute__» := entryFor_of_tree (by kernel_rfl)
theorem args_type_ga (a b : Value) : argsOk "type.__getattribute__" ⟨[a, b], []⟩ := by unfold argsOk; kernel_rfl
theorem canon_type_ga : (Manifest.canonical "type.__getattribute__" != "object.__getattribute__") = true := by decide +kernel
theorem lk_type_init : typeLookup (.type "type") "__init__" = pure (some (.builtin "type.__init__")) := by rw [typeLookup_type, builtinLookup_eq_fast]; kernel_rfl
theorem lk_ve_init : typeLookup (.type "ValueError") "__init__" = pure (some (.builtin initV)) := PySem.F.excBase_ValueError.init.lookup
theorem ty_ve : typeOf (.type "ValueError") = pure (.type "type") := by rfl
theorem ty_ti : typeOf (.builtin "type.__init__") = pure (.type "wrapper_descriptor") := by kernel_rfl
theorem ty_vi : typeOf (.builtin initV) = pure (.type "wrapper_descriptor") := by kernel_rfl
theorem lk_wd_get : ∃ b, typeLookup (.type "wrapper_descriptor") "__get__" = pure (some (.builtin b)) := ⟨_, by rw [typeLookup_type, builtinLookup_eq_fast]; rfl⟩
theorem lk_wd_set : typeLookup (.type "wrapper_descriptor") "__set__" = pure none := by rw [typeLookup_type, builtinLookup_eq_fast]; kernel_rfl
theorem lk_wd_del : typeLookup (.type "wrapper_descriptor") "__delete__" = pure none := by rw [typeLookup_type, builtinLookup_eq_fast]; kernel_rfl
theorem ve_type (s : Shared) : s.TypeIs (.type "ValueError") "type" := by
  first | exact rfl | exact ⟨_, rfl⟩ | trivial

section
variable {prog : Program} {w : World} {A : Around} {E : Value → Shared → Prop} {h : Heap} {g : Array GenState} {d : Drawn} {t : Nat} {os : OsState}
theorem ga_ve_entry {tk : Tok} {Q : PySem.Fin → Shared → Prop} (hq : Q (.done (.ret (.builtin initV))) ⟨h, g, d, t, os⟩) :
    wpAny (model prog w) A (Builtin.«type.__getattribute__» ⟨[.type "ValueError", .str (Str.ofString "__init__") tk], []⟩) Q E ⟨h, g, d, t, os⟩ := by
  have f1 := ty_ve
  have f2 := lk_type_init
  have f3 := lk_ve_init
  have f4 := ty_ti
  have f5 := ty_vi
  obtain ⟨gb, f6⟩ := lk_wd_get
  have f7 := lk_wd_set
  have f8 := lk_wd_del
  have f9 : opaqueClassAbove (.type "ValueError") = pure none := by kernel_rfl
  unfold Builtin.«type.__getattribute__»
  repeat (any_goals (first | assumption | wp_step))

theorem getMethod_ve {pl : Sem Bool} {Q : Value × List Value → Shared → Prop} (hq : Q (.builtin initV, []) ⟨h, g, d, t + 1, os⟩) : wpAny (model prog w) A (getMethod (.type "ValueError") "__init__" pl) Q E ⟨h, g, d, t, os⟩ := by
  have hT : (⟨h, g, d, t, os⟩ : Shared).TypeIs (.type "ValueError") "type" := ve_type _
  have hT1 : (⟨h, g, d, t + 1, os⟩ : Shared).TypeIs (.type "ValueError") "type" := ve_type _
  have f0 := ty_ve
  have f1 := slot_type_ga.lookup
  have f4 := slot_type_ga.bind (.type "ValueError")
  have hh : handedOut (.builtin initV) = pure (.builtin initV) := by kernel_rfl
  unfold getMethod
  refine wpAny_bind (wpAny_specialOf hT f1 ?_)
  show wpAny _ A (if (Manifest.canonical "type.__getattribute__" != "object.__getattribute__") = true then _ else _) Q E _
  rw [canon_type_ga, if_pos rfl]
  repeat (any_goals (first | assumption | wp_step))
  refine codeAny_call_builtin slot_type_ga.plain entry_type_ga (slot_type_ga.check _ _ _ _ _ _ _ _ hT1 (args_type_ga _ _) (ga_ve_entry ?_))
  repeat (any_goals (first | assumption | wp_step))
end

section
variable {prog : Program} {w : World} {M : Model} {A : Around} {E : Value → Shared → Prop} {h : Heap} {g : Array GenState} {d : Drawn} {t : Nat} {os : OsState}
variable {nm q : Str} {C N Pc : Addr} {bs : List Value} {hdct : Bool} {sn : List Str} {sub : List Value} {ab : Bool} {col : Option Bool} {dd : Option Addr} {k0 k1 k2 k3 k5 : Option Value}

theorem check_init_own {e : Addr} {oe : Obj} {rest : List Value} {Q : Unit → Shared → Prop}
    (hC : h.get? C = some (ownCls nm q C N Pc bs hdct sn sub ab col dd k0 k1 k2 k3 k5)) (he : h.get? e = some oe) (hcls : oe.cls = .ref C) (hq : Q () ⟨h, g, d, t, os⟩) :
    wpAny M A (checkBuiltinCall initV ⟨.ref e :: rest, []⟩) Q E ⟨h, g, d, t, os⟩ := by
  have F := PySem.F.excBase_ValueError
  have hcB : (Value.ref C :: .ref Pc :: bmV).contains (.type "ValueError") = true := by simp
  have hshort := F.noStar
  simp only [checkBuiltinCall, F.initKind, F.initSplit, F.initRow]
  repeat (first | (with_reducible refine wpAny_loadPart_at he ?_; rw [hcls]) | with_reducible refine wpAny_loadPart_at hC ?_ | (with_reducible refine wpAny_isSubtype_exc hC ?_; rw [hcB]) | wp_step)
  refine wpAny_onRaise ?_
  rw [show ∀ (a b : String) (n : Nat), Bind.check ⟨.positional, "*", "ValueError", .self, [⟨"args", .varPos, false⟩]⟩ a b n (List.map (fun x => x.fst) ({ pos := Value.ref e :: rest } : Args).kw) = pure () from
    fun a b n => check_star_args _ _ _ _ _ _]
  exact wpAny_pure hq

theorem init_own {e ta : Addr} {rest : List Value} {Q : Value → Shared → Prop}
    (hC : h.get? C = some (ownCls nm q C N Pc bs hdct sn sub ab col dd k0 k1 k2 k3 k5)) (he : h.get? e = some { cls := .ref C, data := .fields #[.ref ta, .none, .none, .none, .bool false, .none] }) (hrest : rest.length ≤ sizeLine)
    (hq : ∀ h', (∀ b o, b ≠ e → h.get? b = some o → h'.get? b = some o) → h'.get? e = some { cls := .ref C, data := .fields #[.ref h.objs.size, .none, .none, .none, .bool false, .none] } → Q .none ⟨h', g, d, t, os⟩) :
    wpAny (model prog w) A (call (.builtin initV) (.ref e :: rest)) Q E ⟨h, g, d, t, os⟩ := by
  have F := PySem.F.excBase_ValueError
  refine wpAny_call (codeAny_call_builtin F.init.plain F.initEntry (check_init_own hC he rfl ?_))
  wp_walk
  refine hq _ ?_ ?_
  · intro b o hb e'
    rw [Heap.get?_update_other _ _ (Ne.symm hb)]
    exact Heap.get?_push_of_some _ e'
  · rw [Heap.get?_update_self _ (Heap.get?_push_of_some _ he) rfl]
    rfl
end
end Mini
end
section -- P37
namespace Mini
open PySem PySem.W
open Builtin Builtin.ObjectAttr
section
variable {prog : Program} {w : World} {A : Around} {E : Value → Shared → Prop} {h : Heap} {g : Array GenState} {d : Drawn} {t : Nat} {os : OsState}
variable {nm q : Str} {C N Pc x : Addr} {bs : List Value} {sn : List Str} {sub : List Value} {ab : Bool} {col : Option Bool} {dd : Option Addr} {k0 k1 k2 k3 k5 : Option Value}
variable {nm' q' : Str} {N' : Addr} {bs' : List Value} {hdct' : Bool} {sn' : List Str} {sub' : List Value} {ab' : Bool} {col' : Option Bool} {dd' : Option Addr} {l0 l1 l2 l3 l5 : Option Value}
variable {mN mP : Str → Option Value} {name : Str} {v : Value} {vs : Array Value}

theorem check_sa_own {M : Model} {o : Obj} {nameV : Value} {Q : Unit → Shared → Prop}
    (hC : h.get? C = some (ownCls nm q C N Pc bs true sn sub ab col dd k0 k1 k2 k3 k5)) (hx : h.get? x = some o) (hc : o.cls = .ref C) (hq : Q () ⟨h, g, d, t, os⟩) :
    wpAny M A (checkBuiltinCall "object.__setattr__" ⟨[.ref x, nameV, v], []⟩) Q E ⟨h, g, d, t, os⟩ := by
  have SF := PySem.F.store_ValueError
  have hcB : (Value.ref C :: .ref Pc :: bmV).contains (.type "object") = true := by simp
  have ha := SF.args (.ref x) nameV v
  simp only [checkBuiltinCall, SF.kind, SF.split]
  refine wpAny_bind ?_
  · unfold isInstance
    repeat (first | (with_reducible refine wpAny_loadPart_at hx ?_; rw [hc]) | (with_reducible refine wpAny_isSubtype_exc hC ?_; rw [hcB]) | wp_step)
    exact hq

theorem store_entry_own {tk : Tok} {o : Obj} {Q : PySem.Fin → Shared → Prop}
    (hC : h.get? C = some (ownCls nm q C N Pc bs true sn sub ab col dd k0 k1 k2 k3 k5)) (hn : h.Ns N mN) (hna : mN name = none)
    (hP : h.get? Pc = some (excClassObj nm' q' Pc N' bs' bmV hdct' sn' sub' ab' col' dd' l0 l1 l2 l3 l5 newV)) (hp : h.Ns N' mP) (hpa : mP name = none)
    (hB : typeLookup (.type "ValueError") name = pure none) (hx : h.get? x = some o) (hc : o.cls = .ref C) (hnc : ∀ c, o.data ≠ .cls c) (hdn : o.dict = none)
    (hq : ∀ h' tk' D, h.get? D = none → h'.get? x = some { cls := o.cls, dict := some D, data := o.data, slots := o.slots } → (∀ b o, b ≠ x → h.get? b = some o → h'.get? b = some o) → Q (.done (.ret .none)) ⟨h', g, d, tk', os⟩) :
    wpAny (model prog w) A (Builtin.«object.__setattr__» ⟨[.ref x, .str name tk, v], []⟩) Q E ⟨h, g, d, t, os⟩ := by
  have SF := PySem.F.store_ValueError
  have hpass := SF.passes (.ref x)
  unfold Builtin.«object.__setattr__»
  repeat (first | rw [refuse_eq] | (rw [refuseLoop_ref, refuseLoop_ref, hpass]) | (with_reducible refine wpAny_loadPart_at hx ?_; rw [hc]) | with_reducible refine wpAny_mroOf_exc hC ?_ | (with_reducible refine lookup_own hC hn hna hP hp hB ?_; rw [hpa]) | wp_step)
  rw [hdn, if_neg (by simp [typeHasDict])]
  split
  · rename_i hcd
    cases hcd
  split
  · rename_i c hcd
    exact absurd hcd (hnc c)
  · have hx₁ : (h.push { cls := .type "dict", data := .dict #[] }).get? x = some o := Heap.get?_push_of_some _ hx
    have hxs : x ≠ h.objs.size := Nat.ne_of_lt (Heap.lt_size hx)
    refine wpAny_bind (wpAny_alloc' ?_)
    refine wpAny_bind (wpAny_update' hx₁ ?_)
    refine wpAny_pure ?_
    have hgd : ((h.push { cls := .type "dict", data := .dict #[] }).update x fun o => { cls := o.cls, dict := some h.objs.size, data := o.data, slots := o.slots }).get? h.objs.size
        = some { cls := .type "dict", data := .dict #[] } :=
      (Heap.get?_update_ne _ _ _ _ hxs.symm).trans (Heap.get?_push_at rfl rfl)
    have hnd : ((h.push { cls := .type "dict", data := .dict #[] }).update x fun o => { cls := o.cls, dict := some h.objs.size, data := o.data, slots := o.slots }).Ns h.objs.size (fun _ => none) :=
      ⟨_, #[], _, hgd, rfl, fun e he => absurd he (by simp), fun _ => rfl⟩
    show wpAny _ _ (storeInDict h.objs.size (.str name tk) name v) _ _ _
    unfold storeInDict newKeyGuard
    refine wpAny_bind (wpAny_pure (wpAny_bind (wpAny_nsSet1 (Heap.Ns1.of_empty hnd) fun h' hn' hs => ?_)))
    obtain ⟨oD, esD, epD, hoD, hdD, hcD⟩ := hn'.count (Within.cons name v Within.nil)
    refine wpAny_bind (wpAny_lookBehind hoD (by rw [hdD]; exact pastItsLine_dict (Nat.le_trans hcD (by rw [List.length_cons, List.length_nil, sizeLine_eq]; omega))) ?_)
    wp_walk
    refine hq h' _ h.objs.size ?_ ?_ ?_
    · cases e : h.get? h.objs.size with
      | none => rfl
      | some ob => exact absurd (Heap.lt_size e) (Nat.lt_irrefl _)
    · refine (hs.2 x hxs).trans (Heap.get?_update_self _ hx₁ ?_)
      have hfr := (Heap.get?_some_iff.mp hx).2
      obtain ⟨oc, od, odt, osl⟩ := o
      cases odt <;> first | rfl | exact hfr
    · intro b ob hbx hb
      exact (hs.2 b (Nat.ne_of_lt (Heap.lt_size hb))).trans ((Heap.get?_update_ne _ _ _ _ hbx).trans (Heap.get?_push_of_some _ hb))

theorem store_attr_own {o : Obj} {Q : Unit → Shared → Prop}
    (hC : h.get? C = some (ownCls nm q C N Pc bs true sn sub ab col dd k0 k1 k2 k3 k5)) (hn : h.Ns N mN) (hna : mN name = none) (hns : mN "__setattr__" = none)
    (hP : h.get? Pc = some (excClassObj nm' q' Pc N' bs' bmV hdct' sn' sub' ab' col' dd' l0 l1 l2 l3 l5 newV)) (hp : h.Ns N' mP) (hpa : mP name = none) (hps : mP "__setattr__" = none)
    (hB : typeLookup (.type "ValueError") name = pure none) (hx : h.get? x = some o) (hc : o.cls = .ref C) (hnc : ∀ c, o.data ≠ .cls c) (hdn : o.dict = none)
    (hq : ∀ h' tk' D, h.get? D = none → h'.get? x = some { cls := o.cls, dict := some D, data := o.data, slots := o.slots } → (∀ b o, b ≠ x → h.get? b = some o → h'.get? b = some o) → Q () ⟨h', g, d, tk', os⟩) :
    wpAny (model prog w) A (setAttr (.ref x) name v) Q E ⟨h, g, d, t, os⟩ := by
  have SF := PySem.F.store_ValueError
  have f3 := SF.slot.bind (.ref x)
  unfold setAttr callSpecial? specialOf
  repeat (any_goals (first | assumption | (with_reducible refine wpAny_loadPart_at hx ?_; rw [hc]) | (with_reducible refine lookup_own hC hn hns hP hp SF.slot.lookup ?_; rw [hps]) | wp_step))
  refine codeAny_call_builtin SF.slot.plain SF.entry (check_sa_own hC hx hc (store_entry_own hC hn hna hP hp hpa hB hx hc hnc hdn fun h' tk' D h1 h2 h3 => ?_))
  repeat (any_goals (first | assumption | wp_step))
  exact hq h' tk' D h1 h2 h3
end
end Mini
end
section -- P38
namespace Mini
open PySem PySem.W

/-- what the heap must tell of the names -/
structure Boot (h : Heap) (mg mb : Str → Option Value) : Prop where
  g : h.Ns mainGlobals mg
  b : h.Ns builtinsNs mb
  ve : mg "ValueError" = none ∧ mb "ValueError" = some (.type "ValueError")
  nolimit : h.NoLimit

section
variable {prog : Program} {w : World} {A : Around} {E : Value → Shared → Prop} {h h₀ : Heap} {g : Array GenState} {d : Drawn} {t : Nat} {os : OsState} {Pm : Params} {mg mb : Str → Option Value}

theorem cls57 (KX : (Mine.KF Pm).In h) : ∃ nm q bs sn sub ab col dd k0 k1 k2 k3 k5, h.get? 57 = some (ownCls nm q 57 56 32 bs true sn sub ab col dd k0 k1 k2 k3 k5) := ⟨_, _, _, _, _, _, _, _, _, _, _, _, _, KX 57 _ (by rfl)⟩
theorem cls32 (KX : (Mine.KF Pm).In h) : ∃ nm q bs hd sn sub ab col dd k0 k1 k2 k3 k5, h.get? 32 = some (excClassObj nm q 32 31 bs bmV hd sn sub ab col dd k0 k1 k2 k3 k5 newV) := ⟨_, _, _, _, _, _, _, _, _, _, _, _, _, _, KX 32 _ (by rfl)⟩
theorem ns56 (KX : (Mine.KF Pm).In h) : ∃ m, h.Ns 56 m ∧ m "__init__" = none ∧ m "__setattr__" = none ∧ m "reason" = none :=
  ⟨_, ⟨_, _, _, KX 56 _ (by rfl), rfl, by intro e he; simp only [List.mem_toArray, List.mem_cons, List.not_mem_nil, or_false] at he; rcases he with rfl | rfl | rfl | rfl <;> exact ⟨_, _, rfl⟩, fun _ => rfl⟩, by rfl, by rfl, by rfl⟩
theorem ns31 (KX : (Mine.KF Pm).In h) : ∃ m, h.Ns 31 m ∧ m "__init__" = some (.ref 29) ∧ m "__setattr__" = none ∧ m "reason" = none :=
  ⟨_, ⟨_, _, _, KX 31 _ (by rfl), rfl, by intro e he; simp only [List.mem_toArray, List.mem_cons, List.not_mem_nil, or_false] at he; rcases he with rfl | rfl | rfl | rfl | rfl | rfl <;> exact ⟨_, _, rfl⟩, fun _ => rfl⟩, by rfl, by rfl, by rfl⟩

theorem init_call (KX : (Mine.KF Pm).In h) (B : Boot h mg mb) {e ta : Addr} {x : Str} {tk : Tok} {Q : Value → Shared → Prop} (hdep : A.depth < 900)
    (he : h.get? e = some { cls := .ref 57, data := .fields #[.ref ta, .none, .none, .none, .bool false, .none] })
    (hq : ∀ h' tk' D a1, h'.get? e = some { cls := .ref 57, dict := some D, data := .fields #[.ref a1, .none, .none, .none, .bool false, .none] } → (∀ b o, b ≠ e → h.get? b = some o → h'.get? b = some o) → Q .none ⟨h', g, d, tk', os⟩) :
    wpAny (model prog w) A (call (.ref 29) [.ref e, .str x tk]) Q E ⟨h, g, d, t, os⟩ := by
  refine wpAny_call (codeAny_call_function (by unfold recursionLimit; omega) (KX 29 _ (by rfl)) rfl rfl rfl rfl ⟨28, _, _, _, rfl, KX 28 _ (by rfl), rfl, by rfl⟩ ?_)
  have h22 := KX 22 _ (by rfl)
  have hbind : ∀ {fd : FuncData} {Q' : List (Str × Value) → Shared → Prop} {E' : Value → Shared → Prop}, True := fun {_ _ _} => trivial
  unfold bindArgs
  simp only [List.forIn_nil, pure_bind]
  refine wpAny_bind (wpAny_seqItems h22 rfl ?_)
  refine wpAny_of_eq (a := [(Str.ofString "self", .ref e), (Str.ofString "reason", .str x tk)]) (by rfl) ?_
  refine wpAny_newFunctionEnv (by decide) (by intro y hy; simp only [List.mem_cons, List.not_mem_nil, or_false] at hy; rcases hy with rfl | rfl <;> rfl) (fun h₁ hns hsb => ⟨?_, codeAny_func ?_⟩) rfl
  · exact B.nolimit.keeps fun b o e => hsb.extBut b o (Nat.ne_of_lt (Heap.lt_size e)) (Heap.get?_push_of_some _ e)
  have keep : ∀ b o, h.get? b = some o → h₁.get? b = some o := fun b o e => hsb.extBut b o (Nat.ne_of_lt (Heap.lt_size e)) (Heap.get?_push_of_some _ e)
  have KX1 : (Mine.KF Pm).In h₁ := fun a o e => keep a o (KX a o e)
  obtain ⟨nm, q, bs, sn, sub, ab, col, dd, k0, k1, k2, k3, k5, hC⟩ := cls57 KX1
  obtain ⟨nm', q', bs', hd', sn', sub', ab', col', dd', l0, l1, l2, l3, l5, hP⟩ := cls32 KX1
  obtain ⟨mN, hn, hn1, hn2, hn3⟩ := ns56 KX1
  obtain ⟨mP, hp, hp1, hp2, hp3⟩ := ns31 KX1
  have he1 := keep _ _ he
  have heL : e ≠ h.objs.size := Nat.ne_of_lt (Heap.lt_size he)
  refine wpAny_execs_cons (wpAny_Expr_any ?_ rfl rfl)
  refine PyProof.Rows.MethodCall_ (Calls.Name_function_global rfl rfl (Calls.loadGlobal_builtin (B.g.keeps keep) B.ve.1 (B.b.keeps keep) B.ve.2 ?_))
  refine getMethod_ve ?_
  refine Calls.callWith_builtin rfl (Calls.evalArgs_plain (Calls.spliced_cons (wpAny_Name (wpAny_loadName_local rfl rfl hns rfl ?_))))
  refine Calls.spliced_cons (wpAny_Name (wpAny_loadName_local rfl rfl hns rfl (Calls.spliced_nil ?_)))
  refine init_own hC he1 (by show 1 ≤ sizeLine; decide) fun h2 hk2 he2 => ?_
  have keep2 : ∀ b o, b ≠ e → h.get? b = some o → h2.get? b = some o := fun b o hb e' => hk2 b o hb (keep b o e')
  have hne : ∀ {b : Addr} {o : Obj}, h₁.get? b = some o → (∀ vs, o.data ≠ .fields vs) → h2.get? b = some o := fun {b o} hb hd => hk2 b o (fun q => by rw [q, he1] at hb; cases hb; exact hd _ rfl) hb
  have nsk : ∀ {a : Addr} {m : Str → Option Value}, h₁.Ns a m → h2.Ns a m := fun {a m} x => by
    obtain ⟨o, es, ep, ho, hd, r⟩ := x
    exact ⟨o, es, ep, hne ho (by intro vs q; rw [hd] at q; cases q), hd, r⟩
  refine wpAny_execs_cons ?_
  rw [PyProof.Rows.exec_Assign]
  refine wpAny_bind (wpAny_standAt ?_)
  refine wpAny_bind (wpAny_pure ?_)
  rw [if_neg (by decide)]
  refine wpAny_bind (wpAny_Name (wpAny_loadName_local rfl rfl (nsk hns) rfl ?_))
  refine wpAny_bind (wpAny_pure ?_)
  refine wpAny_bind ?_
  show wpAny _ _ (assign (.Attribute _ _ _) _ _) _ _ _
  rw [arm_assign_Attribute]
  refine wpAny_bind (wpAny_holding (wpAny_Name (wpAny_loadName_local rfl rfl (nsk hns) rfl ?_)))
  refine wpAny_bind (wpAny_standAt (wpAny_bind (wpAny_holding ?_)))
  have hC2 := hne hC (by intro vs q; cases q)
  have hP2 := hne hP (by intro vs q; cases q)
  refine store_attr_own hC2 (nsk hn) hn3 hn2 hP2 (nsk hp) hp3 hp2 (by rw [typeLookup_type, builtinLookup_eq_fast]; kernel_rfl) he2 rfl (by intro c q; cases q) rfl fun h3 tk3 D hD he3 hk3 => ?_
  refine wpAny_release (wpAny_pure (wpAny_execs_nil ?_))
  exact hq h3 tk3 D _ he3 fun b o hb e' => hk3 b o hb (keep2 b o hb e')
end
end Mini
end
section -- P39
namespace Mini
open PySem PySem.W

section
variable {prog : Program} {w : World} {A : Around} {E : Value → Shared → Prop} {h h₀ : Heap} {g : Array GenState} {d : Drawn} {t : Nat} {os : OsState} {Pm : Params} {mg mb : Str → Option Value}

theorem tc_weight (x : Str) (tk : Tok) : (Code.builtin "type.__call__" ⟨[.ref 57, .str x tk], []⟩).weight = 1 := by kernel_rfl

theorem make_bad (KX : (Mine.KF Pm).In h) (B : Boot h mg mb) {x : Str} {tk : Tok} {Q : Value → Shared → Prop} (hdep : A.depth < 800)
    (hq : ∀ h' tk' e D a1, h.get? e = none → h'.get? e = some { cls := .ref 57, dict := some D, data := .fields #[.ref a1, .none, .none, .none, .bool false, .none] } → (∀ b o, h.get? b = some o → h'.get? b = some o) → Q (.ref e) ⟨h', g, d, tk', os⟩) :
    wpAny (model prog w) A (call (.ref 57) [.str x tk]) Q E ⟨h, g, d, t, os⟩ := by
  obtain ⟨nm, q, bs, sn, sub, ab, col, dd, k0, k1, k2, k3, k5, hC⟩ := cls57 KX
  obtain ⟨nm', q', bs', hd', sn', sub', ab', col', dd', l0, l1, l2, l3, l5, hP⟩ := cls32 KX
  obtain ⟨mN, hn, hn1, hn2, hn3⟩ := ns56 KX
  obtain ⟨mP, hp, hp1, hp2, hp3⟩ := ns31 KX
  refine call_own hC hn hn1 hP hp hp1 (KX 29 _ (by rfl)) rfl (by show 1 ≤ sizeLine; decide) fun h1 he => ?_
  have keep : ∀ b o, h.get? b = some o → h1.get? b = some o := fun b o e => by rw [he]; exact Heap.get?_push_of_some _ (Heap.get?_push_of_some _ e)
  have KX1 : (Mine.KF Pm).In h1 := fun a o e => keep a o (KX a o e)
  have B1 : Boot h1 mg mb := ⟨B.g.keeps keep, B.b.keeps keep, B.ve, B.nolimit.keeps keep⟩
  have hnew : h.get? (h.objs.size + 1) = none := Heap.get?_none_of_le (Nat.le_succ _)
  refine init_call KX1 B1 (ta := h.objs.size) ?_ ?_ fun h2 tk2 D a1 he2 hk2 => ⟨rfl, hq h2 tk2 _ D a1 hnew he2 fun b o e => hk2 b o (fun q => by rw [q, hnew] at e; cases e) (keep b o e)⟩
  · have := tc_weight x tk
    show A.depth + (Code.builtin "type.__call__" ⟨[.ref 57, .str x tk], []⟩).weight < 900
    omega
  · rw [he]; heap_get
end
end Mini
end
section -- P40
namespace Mini
open PySem PySem.W

section
variable {Z : Zt} {fad : Nat → Addr} {A : Around} {G Hd H : HMap} {p : Pool} {s : Shared} {env : Env} {ns : Ns} {sl : List Slot} {E : Value → Shared → Prop} {Pm : Params} {mg mb : Str → Option Value}

theorem raiseStmt_own {x : Sem Value} {Q : Flow → Shared → Prop} {nm q : Str} {bs : List Value} {sn : List Str} {sub : List Value} {ab : Bool} {col : Option Bool} {dd : Option Addr} {k0 k1 k2 k3 k5 : Option Value} (hh : A.handled = none)
    (h : wpAny Z.M A x (fun v s₁ => ∃ e D a1, v = .ref e ∧ s₁.heap.get? 57 = some (ownCls nm q 57 56 32 bs true sn sub ab col dd k0 k1 k2 k3 k5) ∧
      s₁.heap.get? e = some { cls := .ref 57, dict := some D, data := .fields #[.ref a1, .none, .none, .none, .bool false, .none] } ∧ E (.ref e) s₁) E s) :
    wpAny Z.M A (raiseStmt env (some x) none) Q E s := by
  have hcB : (Value.ref 57 :: .ref 32 :: bmV).contains (.type "BaseException") = true := by decide
  unfold raiseStmt
  refine wpAny_bind (wpAny_mono h (fun v s₁ h₁ => ?_) fun _ _ x => x)
  obtain ⟨e, D, a1, rfl, hC, he, hE⟩ := h₁
  obtain ⟨hp, g, d, tk, os⟩ := s₁
  repeat (first | with_reducible refine wpAny_loadPart_at he ?_ | with_reducible refine wpAny_loadPart_at hC ?_ | (with_reducible refine wpAny_isSubtype_exc hC ?_; rw [hcB]) | wp_step)
  exact wpAny_raiseNew_none hh hE

theorem fits_int {t : Slot} (h : fitsText t = true) : ∃ i : Int, t = .frz (.int i) ∧ i.natAbs < 10 ^ 10 := by
  cases t with
  | frz d =>
    cases d with
    | int i => exact ⟨i, rfl, of_decide_eq_true h⟩
    | _ => cases h
  | _ => cases h
theorem log_small {n : Nat} (h : n < 10 ^ 10) : n.log2 < 1920 := by
  by_cases hz : n = 0
  · rw [hz]; decide
  · exact Nat.lt_trans ((Nat.log2_lt hz).mpr (Nat.lt_of_lt_of_le h (by decide))) (by decide : 64 < 1920)
theorem room {a b c : Nat} (h : a + 1000 * (b + 1) ≤ 1000000) (hc : c ≤ 1000) : a + c + 1000 * b ≤ 1000000 := by omega
theorem room_line {a b : Nat} (h : a + 1000 * b ≤ 1000000) : a ≤ sizeLine := Nat.le_trans (Nat.le_trans (Nat.le_add_right _ _) h) (by decide)
/-- the text of a refusal -/
theorem parts_sound (F : FrS Z G Hd H env ns sl) (parts : List Expr) : ∀ {xs : List Nat} {out : Str} {s : Shared} {Q : Value → Shared → Prop}, partsOk ns parts xs = true → (∀ x ∈ xs, fitsText (sg sl x) = true) → out.length + 1000 * parts.length ≤ 1000000 →
    Agr H s.heap → (∀ y t tk, Q (.str y t) { s with toks := tk }) → wpAny Z.M A (joinParts out (evalEach parts env)) Q E s := by
  induction parts with
  | nil => exact fun _ _ hl _ hq => PyProof.Rows.joinParts_nil (hq _ _ _) (room_line hl)
  | cons e r ih =>
    intro xs out s Q hp hf hl ha hq
    unfold partsOk at hp
    cases hr : rStr e with
    | some y =>
      rw [hr] at hp
      have h1 := bb hp
      rw [y.2]
      have h2 : (out ++ y.1.1).length + 1000 * r.length ≤ 1000000 := by rw [strLen_append]; exact room hl (Nat.le_trans (of_decide_eq_true h1.1) (by decide))
      exact PyProof.Rows.joinParts_cons (wpAny_Constant_str ⟨room_line h2, ih h1.2 hf h2 ha fun y t tk => hq y t tk⟩)
    | none =>
      rw [hr] at hp
      obtain ⟨v, hp⟩ := oB_true hp
      obtain ⟨⟨⟨x, xs⟩, rfl⟩, hp⟩ := oB_true hp
      have h1 := bb hp
      have h2 := bb h1.2
      rw [v.2, eq_of_beq h1.1]
      obtain ⟨hfx, hf⟩ := List.forall_mem_cons.mp hf
      obtain ⟨i, hs, hi⟩ := fits_int hfx
      refine isV_eqK (e := v.1.1) h2.1 fun n q hn hd => ?_
      have hv := F.vars x n hn
      rw [hs] at hv
      obtain ⟨w, hloc, t, rfl⟩ := hv
      have h3 : (out ++ Str.ofString (toString i)).length + 1000 * r.length ≤ 1000000 := by
        rw [strLen_append]
        exact room hl (Nat.le_trans (by rw [ofString_length]; exact int_text_length_le10 (k := 10) (by decide) hi) (by decide))
      exact PyProof.Rows.joinParts_cons (PyProof.Rows.FormattedValue_plain (wpAny_Name (rd_of F hloc _ _ _ _ ha (PyProof.Rows.formatField_int_small (log_small hi) ⟨room_line h3, ih h2.2 hf h3 ha fun y t tk => hq y t tk⟩)) hd))

variable {B : Bd Z}
theorem Bd.On.off (o : B.On G H sl p s) {a : Addr} (ha : a ∈ (B.env :: B.outer).filterMap (·.frame)) : (∃ o es n, H a = some o ∧ o.data = .dict es n) ∧ G a = none ∧ Z.h₀.get? a = none :=
  have hc := B.X.ctx o.F
  let ⟨e, he, hea⟩ := List.mem_filterMap.mp ha
  let ⟨ob, es, n, h1, h2⟩ := hc.fd e he a hea
  ⟨⟨ob, es, n, h1, h2⟩, o.S.notG h1, ((hc.ff _ o.S.agrH).mem ha).1⟩
/-- an exception that was just made -/
theorem Bd.On.flies (o : B.On G H sl p s) (hC : BadC Z.h₀ 57) {h' : Heap} {tk e D a1 : Nat} (hn : s.heap.get? e = none) (he : h'.get? e = some { cls := .ref 57, dict := some D, data := .fields #[.ref a1, .none, .none, .none, .bool false, .none] })
    (keep : ∀ b o, s.heap.get? b = some o → h'.get? b = some o) : XOK Z.h₀ Z.P (B.env :: B.outer) G B.Hd s p (.ref e) { s with heap := h', toks := tk } :=
  .mk e G rfl ⟨.refl _, (o.S.keeps keep).weak o.F.le, .mk ..⟩ (.mk (hideAll s.heap ((B.env :: B.outer).filterMap (·.frame))) false {
    low := fun b ob hb => hideAll_get _ (o.S.base b ob hb) fun hm => by rw [(o.off hm).2.2] at hb; cases hb
    stay := fun b ob hb => keep b ob (of_hideAll _ hb)
    new := by
      cases q : (hideAll s.heap ((B.env :: B.outer).filterMap (·.frame))).get? e with
      | none => rfl
      | some ob => have := of_hideAll _ q; rw [hn] at this; cases this
    ff := (funFrames_hide (as := (B.env :: B.outer).filterMap (·.frame)) ((B.X.ctx o.F).ff _ o.S.agrH) fun e' he' a ha => List.mem_filterMap.mpr ⟨e', he', ha⟩).of_keeps fun b ob hb _ => ⟨ob, keep b ob hb, rfl⟩
    g := fun a ob ha => hideAll_get _ (o.S.agrG a ob ha) fun hm => by rw [(o.off hm).2.1] at ha; cases ha
    hd := fun a ob ha hd => hideAll_get _ (o.S.agrH.exact (o.F.le a ob ha) hd) fun hm => by
      obtain ⟨o', es, n, h1, h2⟩ := (o.off hm).1
      rw [o.F.le a ob ha] at h1; cases h1
      exact hd _ _ h2
    exc := ⟨57, .ref a1, hC, .inl ⟨rfl, _, _, he, rfl, rfl, rfl, rfl⟩⟩ })

theorem sts_raise (GO : GlobOK Z.h₀ fad) (KX : (Mine.KF Pm).In Z.h₀) (Bo : Boot Z.h₀ mg mb) (xs : List Nat) : Sts Z (.raise xs) := .plain rfl fun B b hc Φ ε Q E G H sl p s h o k hx => by
  refine cs_raise hc fun g parts q q2 pos h1 h2 h3 h4 => ?_
  obtain ⟨hall, h⟩ := h
  have hC := badc KX
  obtain ⟨v1, v2, rest, rfl⟩ : ∃ v1 v2 rest, parts = v1 :: v2 :: rest := by
    rcases parts with _ | ⟨a, _ | ⟨b, r⟩⟩
    · exact absurd h3 (Nat.not_succ_le_zero 1)
    · exact absurd h3 (Nat.not_succ_le_self 1)
    · exact ⟨a, b, r, rfl⟩
  rw [arm_exec_Raise]
  have hg := h1
  revert hg
  refine isG_eqK h1 fun n0 _ _ hg => ?_
  obtain ⟨nm, qq, bs, sn, sub, ab, col, dd, k0, k1, k2, k3, k5, hC57⟩ := cls57 KX
  refine wpAny_bind (wpAny_standAt (raiseStmt_own (nm := nm) (q := qq) (bs := bs) (sn := sn) (sub := sub) (ab := ab) (col := col) (dd := dd) (k0 := k0) (k1 := k1) (k2 := k2) (k3 := k3) (k5 := k5) B.X.handled ?_))
  refine wpAny_bind (wpAny_mono (Q := fun v s₁ => ∃ e D a1, v = .ref e ∧ s₁.heap.get? 57 = some (ownCls nm qq 57 56 32 bs true sn sub ab col dd k0 k1 k2 k3 k5) ∧ s₁.heap.get? e = some { cls := .ref 57, dict := some D, data := .fields #[.ref a1, .none, .none, .none, .bool false, .none] } ∧ E (.ref e) s₁) ?_ (fun v s₃ h₃ => wpAny_bind (wpAny_standAt (wpAny_pure h₃))) fun _ _ x => x)
  refine PyProof.Rows.Call_ (glob_bad GO hC hg o.F o.S ?_) rfl
  unfold callWith
  refine wpAny_bind (wpAny_holding (Calls.evalArgs_plain (Calls.spliced_cons (PyProof.Rows.JoinedStr_many (pos := q) (parts_sound o.F (v1 :: v2 :: rest) h2 (fun x hx => List.all_eq_true.mp hall x hx) (out := Str.empty) (by show 0 + _ ≤ _; rw [Nat.zero_add]; exact Nat.le_trans (Nat.mul_le_mul_left 1000 h4) (by decide)) o.S.agrH fun y t tk => Calls.spliced_nil (wpAny_bind (wpAny_standAt ?_)))))))
  have KXs : (Mine.KF Pm).In s.heap := fun a ob e => o.S.base a ob (KX a ob e)
  have Bs : Boot s.heap mg mb := ⟨Bo.g.keeps o.S.base, Bo.b.keeps o.S.base, Bo.ve, Bo.nolimit.keeps o.S.base⟩
  have hC' := o.S.base _ _ hC57
  have fl := fun {h' tk e D a1} => o.flies hC (h' := h') (tk := tk) (e := e) (D := D) (a1 := a1)
  have dep : B.A.depth < 800 := Nat.lt_of_le_of_lt (Nat.le_trans (Nat.le_add_right _ _) B.X.depth) (by decide)
  have hx' := fun e s' x => hx p e s' h x
  clear hx
  obtain ⟨hp, gg, d, tk0, os⟩ := s
  refine wpAny_bind (wpAny_keeperOf_exc hC' ?_)
  exact wpAny_bind (make_bad KXs Bs dep fun h' tk' e D a1 hn he keep => wpAny_bind (wpAny_holding (wpAny_point (wpAny_pure ⟨e, D, a1, rfl, keep _ _ hC', he, hx' _ _ (fl hn he keep)⟩))))
end
end Mini
end
section -- P41
namespace Mini
open PySem PySem.W

/-- the calls of functions of a rank below r: what their bodies compute -/
noncomputable def levs : Nat → Calls
  | 0 => fun _ _ _ _ _ => False
  | r + 1 => fun f ds p Φ ε => if rank f = r then ds.length = parN.getD f 0 ∧ runF (levs r) (xbF f) (vsF f).length ds p Φ ε else levs r f ds p Φ ε
@[irreducible] noncomputable def lev : Nat → Calls := levs

theorem lev_0 {f : Nat} {ds : List D} {p : Pool} {Φ : Bool → D → Pool → Prop} {ε : Pool → Prop} (h : lev 0 f ds p Φ ε) : False := by delta lev at h; exact h
theorem lev_e {r f : Nat} {ds : List D} {p : Pool} {Φ : Bool → D → Pool → Prop} {ε : Pool → Prop} : lev (r + 1) f ds p Φ ε = if rank f = r then ds.length = parN.getD f 0 ∧ runF (lev r) (xbF f) (vsF f).length ds p Φ ε else lev r f ds p Φ ε := by delta lev; exact rfl
theorem lev_s {r f : Nat} {ds : List D} {p : Pool} {Φ : Bool → D → Pool → Prop} {ε : Pool → Prop} (h : lev (r + 1) f ds p Φ ε) : if rank f = r then ds.length = parN.getD f 0 ∧ runF (lev r) (xbF f) (vsF f).length ds p Φ ε else lev r f ds p Φ ε := lev_e ▸ h
section
variable {prog : Program} {w : World} {h₀ : Heap} {P : Addr} {Pm : Params} {mg mb : Str → Option Value}
theorem sts_any {Z : Zt} (GO : GlobOK Z.h₀ fadr) (KX : (Mine.KF Pm).In Z.h₀) (B : Boot Z.h₀ mg mb) (CS : ∀ f, f < 25 → CallSound Z fadr f) (x : St) : Sts Z x :=
  sts_all GO (fns_at KX) CS (badc KX) (badcls KX) (sts_raise GO KX B) x
theorem lvl_rank {f : Nat} (hf : f < 25) : (nsF f).lvl = rank f := if_neg (Nat.ne_of_lt hf)
theorem calls_ok (GO : GlobOK h₀ fadr) (KX : (Mine.KF Pm).In h₀) (B : Boot h₀ mg mb) (r : Nat) : ∀ f, f < 25 → CallSound ⟨prog, w, h₀, P, lev r⟩ fadr f := by
  induction r with
  | zero => exact fun f hf A l G Hd p s vs ds Φ ε R X S hv h => (lev_0 h).elim
  | succ r ih =>
    intro f hf A l G Hd p s vs ds Φ ε R X S hv h k kx
    have h := lev_s h
    by_cases hr : rank f = r
    · rw [if_pos hr] at h
      exact call_sound (Z := ⟨prog, w, h₀, P, lev r⟩) (sts_any GO KX B ih (xbF f)) B.nolimit (fn_all KX f hf) (by rw [lvl_rank hf]; exact X) S hv h.1 h.2 k kx
    · rw [if_neg hr] at h
      exact ih f hf X S hv h k kx
end

noncomputable def xb25a : St := .assign [] 1 (.call 12 (.cons (.var 0) .nil))
noncomputable def st0 : Stmt := ((bodyF 25)[0]?).getD (.Pass default)
theorem ck_st0 : ckS (nsF 25) xb25a st0 = true := by decide +kernel
theorem body25 : bodyF 25 = st0 :: (bodyF 25).drop 1 := by kernel_rfl
noncomputable def sl25 (is : List Int) (t : Slot) : List Slot := .frz (.list (is.map .int)) :: t :: List.replicate 11 .un
/-- what the law's body does once the pool is made -/
noncomputable def RunL (is : List Int) (q : Int × Int) : Prop := ex (lev 5) xb25 (sl25 is (.frz .pool)) (some q) (fun f _ _ => f = .ret false (.bool true)) (fun _ => False)
noncomputable def RunP (is : List Int) : Prop := ex (lev 5) xb25a (sl25 is .un) none (fun f sl p => f = .next ∧ ∃ x y, sl = sl25 is (.own [.int x, .int y]) ∧ p = none ∧ RunL is (x, y)) (fun _ => False)

theorem pool_ints {P P' : Addr} {G : HMap} : ∀ {is : List Int} {vs : List Value}, VReps P G vs (is.map .int) → VReps P' G vs (is.map .int)
  | [], _, h => h
  | i :: _, _, ⟨v, r, h, t, e⟩ => ⟨v, r, h, pool_ints t, e⟩
theorem two_ints {P : Addr} {G : HMap} {items : Array Value} {x y : Int} (h : VReps P G items.toList [.int x, .int y]) : ∃ t u, items = #[.int x t, .int y u] := by
  obtain ⟨l⟩ := items
  exact VReps.consE (m := fun l => ∃ t u, (⟨l⟩ : Array Value) = #[.int x t, .int y u]) h fun v r h1 h2 => h1.intE fun t => h2.consE fun w r h3 h4 => h3.intE fun u => h4.nilE ⟨t, u, rfl⟩
theorem names25 : (nsF 25).vars[0]? = some (Str.ofString "script") ∧ (nsF 25).vars[1]? = some (Str.ofString "pool") ∧ (scopeF 25).names.lookup (Str.ofString "script") = some .local := by decide +kernel
theorem cell25 {n : Str} (h : (scopeF 25).names.lookup n = some .cell) : n = Str.ofString "times" :=
  (by decide +kernel : ∀ x ∈ (scopeF 25).names, x.2 = .cell → x.1 = Str.ofString "times") _ (mem_of_lookup h) rfl
theorem sl25_un (is : List Int) (t : Slot) (x : Nat) : sg (sl25 is t) (x + 2) = .un := sg_un 11 x

theorem no_map {b : Addr} {o : Obj} (h : (fun _ => none : HMap) b = some o) : False := by cases h
theorem le_none (H : HMap) : Le (fun _ => none) H := fun _ _ e => by cases e
section
variable {prog : Program} {w : World} {A : Around} {E : Value → Shared → Prop} {Pm : Params} {mg mb : Str → Option Value}
/-- where the law's body begins -/
structure LawAt (s₁ : Shared) (h₁ : Heap) (c : Addr) (env : Env) (m : Str → Option Value) : Prop where
  e1 : env.scope = scopeF 25
  e2 : env.globals = mainGlobals
  e3 : env.builtins = builtinsNs
  e4 : env.frame = some env.locals
  e5 : env.cells = [(Str.ofString "times", c)]
  ns : h₁.Ns env.locals m
  keep : ∀ b o, s₁.heap.get? b = some o → h₁.get? b = some o
  hL : s₁.heap.get? env.locals = none
  hcn : s₁.heap.get? c = none
  cell : ∃ wc cv, h₁.get? c = some wc ∧ wc.data = .cell cv
structure AroundOK (A : Around) (env : Env) : Prop where
  a1 : A.handled = none
  a2 : A.depth ≤ 390
  a3 : A.units ≤ 800
  a4 : A.frames = some [env]
theorem LawAt.ctx {s₁ : Shared} {h₁ : Heap} {c : Addr} {env : Env} {m : Str → Option Value} (L : LawAt s₁ h₁ c env m) (O : AroundOK A env) : SCtx s₁.heap (nsF 25).lvl A env [] (fun _ => none) where
  handled := O.a1
  depth := Nat.le_trans (Nat.add_le_add_right O.a2 4) (by decide)
  units := Nat.le_trans (Nat.add_le_add_right O.a3 32) (by decide)
  frames := O.a4
  frame := L.e4
  ff := fun _ _ => trivial
  fd := allN
  cells := by
    have hk : ∀ n, env.kindOf n = (scopeF 25).names.lookup n := fun n => by unfold Env.kindOf; rw [L.e1]
    refine ⟨fun n c' h hc => ⟨rfl, ?_⟩, fun n n' _ h1 h2 _ _ => (cell25 ((hk n).symm.trans h1)).trans (cell25 ((hk n').symm.trans h2)).symm⟩
    have hn := cell25 ((hk n).symm.trans h)
    rw [hn, L.e5] at hc
    cases hc
    exact L.hcn
theorem law_start {s₁ : Shared} {h₁ : Heap} {tk₁ : Nat} {c a : Addr} {m : Str → Option Value} {vs : List Value} {is : List Int} {env : Env} {C : Calls} (L : LawAt s₁ h₁ c env m) (hm : m (Str.ofString "script") = some (.ref a)) (hl : s₁.heap.IsList a vs.toArray) (hI : PyProof.Rows.IntsAre vs is) :
    ∃ G H, StOK s₁.heap 0 G H none { s₁ with heap := h₁, toks := tk₁ } ∧ FrS ⟨prog, w, s₁.heap, 0, C⟩ G (fun _ => none) H env (nsF 25) (sl25 is .un) := by
  obtain ⟨ol, hol, holc, n, hold⟩ := hl
  obtain ⟨oL, es, ep, gL, dL, kL, nL⟩ := L.ns
  obtain ⟨wc, cv, hc, hcd⟩ := L.cell
  have hcL : env.locals ≠ c := fun q => by rw [← q, gL] at hc; cases hc; rw [dL] at hcd; cases hcd
  have S0 : StOK s₁.heap 0 (addG (fun _ => none) a ol) (fun _ => none) none { s₁ with heap := h₁, toks := tk₁ } :=
    ⟨fun b o e => (addG_of e).elim (fun q => by rw [q.1, ← q.2]; exact L.keep _ _ hol) fun q => (no_map (b := b) q.2).elim, fun b _ e => (no_map (b := b) e).elim, fun _ _ _ => rfl, L.keep, fun _ e => by cases e⟩
  have ne : ∀ {b}, s₁.heap.get? b = none → addG (fun _ => none) a ol b = none := fun h => addG_ne fun q => by rw [q, hol] at h; cases h
  have S2 := (S0.hold (Z := ⟨prog, w, s₁.heap, 0, C⟩) gL (ne L.hL) (.inl rfl)).hold (Z := ⟨prog, w, s₁.heap, 0, C⟩) hc (ne L.hcn) (.inl rfl)
  have hH : addG (addG (fun _ => none) env.locals oL) c wc env.locals = some oL := (addG_ne hcL).trans addG_self
  have hk : ∀ n, env.kindOf n = (scopeF 25).names.lookup n := fun n => by unfold Env.kindOf; rw [L.e1]
  have K := nsOk_ok (ok_all 25 (by decide))
  refine ⟨_, _, S2, {
    st := ⟨L.e1, K.kind, L.e2, L.e3, K.nd, fun n hn => by rw [hk]; exact K.vars n hn⟩
    le := le_none _
    L := ⟨oL, es, ep, hH, dL, kL⟩
    Lp := ⟨rfl, L.hL⟩
    cells := fun n hn => by
      rw [hk] at hn
      exact ⟨c, cv, by rw [cell25 hn, L.e5]; rfl, wc, addG_self, hcd⟩
    vars := fun x n hx => by
      rcases x with _ | _ | x
      · cases names25.1.symm.trans hx
        refine ⟨.ref a, ?_, .list ⟨ol, n, addG_self, holc, hold⟩ (intsAre_reps hI)⟩
        unfold loc
        rw [hk, names25.2.2]
        simp only [hH, Option.bind_some, nsVal, dL, nL]
        exact hm
      · trivial
      · rw [sl25_un]; trivial
    inj := fun x y l l' n n' b _ q => by
      rcases x with _ | _ | x
      · cases q
      · cases q
      · rw [sl25_un] at q; cases q }⟩
/-- the pool's own list becomes the pool -/
theorem to_pool {s₁ s : Shared} {G H : HMap} {env : Env} {is : List Int} {x y : Int} {C : Calls} (F : FrS ⟨prog, w, s₁.heap, 0, C⟩ G (fun _ => none) H env (nsF 25) (sl25 is (.own [.int x, .int y]))) (S : StOK s₁.heap 0 G H none s) :
    ∃ b H', StOK s₁.heap b G H' (some (x, y)) s ∧ FrS ⟨prog, w, s₁.heap, b, C⟩ G (fun _ => none) H' env (nsF 25) (sl25 is (.frz .pool)) := by
  obtain ⟨b, q1, q2, q3, q4⟩ := F.vars 1 _ names25.2.1
  obtain ⟨o, items, h1, L, r⟩ := q4.obj
  obtain ⟨t, u, rfl⟩ := two_ints r
  obtain ⟨n, hd⟩ := L.s
  have k := loc_ne F q4 (H' := delM H b) fun b' hb => delM_ne hb
  have Sw := S.weak (Z := ⟨prog, w, s₁.heap, 0, C⟩) (delM_le H b)
  refine ⟨b, delM H b, { Sw with pool := fun q e => by cases e; exact ⟨⟨o, t, u, n, S.agrH.exact h1 L.nd, L.c, hd⟩, S.notG (Z := ⟨prog, w, s₁.heap, 0, C⟩) h1, delM_self, q3⟩ }, {
    st := F.st
    le := le_none _
    L := let ⟨o, es, ep, h, r⟩ := F.L; ⟨o, es, ep, k.L.trans h, r⟩
    Lp := F.Lp
    cells := k.cells F.cells
    vars := fun z n hz => by
      rcases z with _ | _ | z
      · obtain ⟨v, r1, r2⟩ := F.vars 0 n hz
        obtain ⟨a, its, g, rs, e⟩ := r2
        exact ⟨v, (k.loc n).trans r1, a, its, g, pool_ints rs, e⟩
      · cases names25.2.1.symm.trans hz
        exact ⟨.ref b, (k.loc _).trans q1, rfl⟩
      · rw [sl25_un]; trivial
    inj := fun x y l l' n n' b _ q => by
      rcases x with _ | _ | x
      · cases q
      · cases q
      · rw [sl25_un] at q; cases q }⟩
theorem law_glue {s₁ : Shared} {h₁ : Heap} {tk₁ : Nat} {c a : Addr} {m : Str → Option Value} {vs : List Value} {is : List Int} {env : Env} {Q : Flow → Shared → Prop} (GO : GlobOK s₁.heap fadr) (KX : (Mine.KF Pm).In s₁.heap) (B : Boot s₁.heap mg mb) (L : LawAt s₁ h₁ c env m) (O : AroundOK A env)
    (hm : m (Str.ofString "script") = some (.ref a)) (hl : s₁.heap.IsList a vs.toArray) (hI : PyProof.Rows.IntsAre vs is) (hrun : RunP is) (hq : ∀ s', Sm { s₁ with heap := h₁, toks := tk₁ } s' → (∀ b o, s₁.heap.get? b = some o → s'.heap.get? b = some o) → Q (.ret (.bool true)) s') :
    wpAny (model prog w) A (execs (bodyF 25) env) Q E { s₁ with heap := h₁, toks := tk₁ } := by
  obtain ⟨G, H, S, F⟩ := law_start (prog := prog) (w := w) (C := lev 5) (tk₁ := tk₁) L hm hl hI
  have X := L.ctx O
  have J := fun P x => sts_any (Z := ⟨prog, w, s₁.heap, P, lev 5⟩) GO KX B (calls_ok GO KX B 5) x
  rw [body25]
  refine wpAny_execs_cons ((J 0 xb25a).one ⟨nsF 25, A, env, [], fun _ => none, X⟩ ck_st0 hrun ⟨F, S⟩ (fun fl sl p f G2 H2 s2 h n hf => ?_) fun _ _ _ h => h.elim)
  obtain ⟨rfl, x, y, rfl, rfl, h⟩ := h
  cases (show f = .next from hf)
  obtain ⟨b, H3, S3, F3⟩ := to_pool n.on.F n.on.S
  refine (J b xb25).many ⟨nsF 25, A, env, [], fun _ => none, X⟩ ck_law h ⟨F3, S3⟩ (fun fl sl p f G4 H4 s4 h n4 hf => ?_) fun _ _ _ h => h.elim
  cases h
  obtain ⟨v, hv, rfl⟩ := hf
  cases (show v = .bool true from hv)
  exact hq s4 (n.sm.trans n4.sm) n4.on.S.base
end
end Mini
end
section -- P43
namespace Mini
open PySem PySem.W

theorem ends_true {c : ClaimW} {cl : Str → Option Addr} {mean : ExcName → Option Value} {args : List WData} {s₁ s' : Shared} (h1 : ∀ cls, c.raises args cls = false) (h2 : c.post args (.bool true) args = true) (hk : ∀ b o, s₁.heap.get? b = some o → s'.heap.get? b = some o) (ho : s'.os = s₁.os) (hg : s'.gens = #[]) :
    GoodW c cl mean args s₁ (.ok (.ret (.bool true))) s' :=
  ⟨.inl ⟨_, .bool true, [], rfl, h1, .bool true, h2, fun _ => ⟨.nil, fun a ha => by cases ha⟩⟩, hk, ho, hg⟩
theorem dep_ok (env : Env) : (callerA.deeper env).depth ≤ 390 := by
  have : callerA.depth + 1 ≤ 390 := by decide
  exact this
theorem uni_ok (env : Env) : (callerA.deeper env).units ≤ 800 := by
  have : callerA.units + 3 ≤ 800 := by decide
  exact this
theorem post_true (da : WData) : PySem.Challenge.rw_no0092_01.row.claim.post [da] (.bool true) [da] = true := by
  show (WShape.has [] (.bool true) .bool && WTm.holds [] (.eq .res (.lit (.bool true))) { args := [da], res := some (.bool true), after := [da] }) = true
  simp [WShape.has, WTm.holds, WTm.value, W.same]
  exact ⟨.bool, by simp [WShape.arms], rfl⟩
end Mini
namespace Mine
open PySem PySem.W PyProof.Rows Mini
set_option maxRecDepth 100000 in
set_option maxHeartbeats 8000000 in
theorem g0 (hrun : ∀ is : List Int, is.length ≤ 63 → RunP is) :
    PySem.Challenge.rw_no0092_01.Holds := hd (by
  intro q hnk him
  k_go0
  all_goals try k_fold
  rename_i w s₀ s₁ mg mb Gd Y fa o pm cd doc ho hcd hg KX X V T B TD TE TW w10 w9 M is hs hlay0 hL0 hr0 hl2 w5 w4 w3 vs w1 hL ra we r0 hI hr hc1 hc2 K0 hD h₁ tk₁ F wc right N0 X0
  have GL := Ground.glob Gd hnk him
  have hN := N0 _ (List.mem_singleton.mpr rfl)
  refine law_glue (Pm := w.params) (mg := mg) (mb := mb) (c := s₁.heap.objs.size + 1) (is := is) (vs := vs) (a := w3) (glob_ok GL KX) KX ⟨GL.g, GL.b, ⟨?_, ?_⟩, GL.nolimit⟩ ⟨rfl, rfl, rfl, rfl, rfl, F.ns, F.keep, ?_, ?_, wc, _, hN.1, right⟩ ⟨rfl, dep_ok _, uni_ok _, rfl⟩ rfl hL hI (hrun is (by omega)) ?_
  · exact glob_at KX GL.g (by kernel_rfl)
  · exact (GL.builtins _ (by decide)).trans (by rfl)
  · exact Heap.get?_none_of_le (Nat.le_refl _)
  · exact Heap.get?_none_of_le (Nat.le_succ _)
  · intro s' sm keep
    obtain ⟨h', t', rfl⟩ := sm
    exact ends_true (fun _ => rfl) (post_true _) keep rfl hg)
end Mine
end
section -- Q1
namespace Mk
open Mini

/-- the order of items: weight, then height -/
noncomputable def leX (a b : Int × Nat) : Prop := a.1 < b.1 ∨ (a.1 = b.1 ∧ a.2 ≤ b.2)
theorem leX_trans {a b c : Int × Nat} (h : leX a b) (k : leX b c) : leX a c := by unfold leX at *; omega
theorem leX_total (a b : Int × Nat) : leX a b ∨ leX b a := by unfold leX; omega

noncomputable def costv : List (Int × Nat) → List Nat → Int
  | a :: v, l :: ls => a.1 * (l : Int) + costv v ls
  | _, _ => 0
noncomputable def fitH (H : Nat) : List (Int × Nat) → List Nat → Prop
  | a :: v, l :: ls => l + a.2 ≤ H ∧ fitH H v ls
  | _, _ => True
noncomputable def kr (L : Nat) : List Nat → Nat
  | [] => 0
  | l :: ls => 2 ^ (L - l) + kr L ls

theorem kr_perm (L : Nat) {a b : List Nat} (h : a.Perm b) : kr L a = kr L b := by
  induction h with
  | nil => rfl
  | cons x _ ih => simp only [kr, ih]
  | swap x y l => simp only [kr]; omega
  | trans _ _ i j => rw [i, j]

/-- a permutation of the items is carried over to the lengths -/
theorem lift_perm {v v' : List (Int × Nat)} (h : v.Perm v') : ∀ ls : List Nat, ls.length = v.length →
    ∃ ls' : List Nat, ls'.length = v'.length ∧ ls.Perm ls' ∧ costv v' ls' = costv v ls ∧ ∀ H, fitH H v ls → fitH H v' ls' := by
  induction h with
  | nil => intro ls h; exact ⟨ls, h, .refl _, rfl, fun _ h => h⟩
  | cons x _ ih =>
    intro ls h
    match ls, h with
    | l :: ls, h =>
      obtain ⟨ls', h1, h2, h3, h4⟩ := ih ls (by simpa using h)
      exact ⟨l :: ls', by simp [h1], h2.cons l, by simp [costv, h3], fun H q => ⟨q.1, h4 H q.2⟩⟩
  | swap x y l =>
    intro ls h
    match ls, h with
    | a :: b :: ls, h =>
      exact ⟨b :: a :: ls, by simpa using h, .swap .., by simp only [costv]; omega, fun H q => ⟨q.2.1, q.1, q.2.2⟩⟩
  | trans _ _ i j =>
    intro ls h
    obtain ⟨l1, h1, h2, h3, h4⟩ := i ls h
    obtain ⟨l2, k1, k2, k3, k4⟩ := j l1 h1
    exact ⟨l2, k1, h2.trans k2, k3.trans h3, fun H q => k4 H (h4 H q)⟩

/-- falling insertion -/
noncomputable def insD (l : Nat) : List Nat → List Nat
  | [] => [l]
  | a :: r => if a ≤ l then l :: a :: r else a :: insD l r
noncomputable def srt : List Nat → List Nat
  | [] => []
  | a :: r => insD a (srt r)
theorem insD_perm (l : Nat) (r : List Nat) : (insD l r).Perm (l :: r) := by
  induction r with
  | nil => exact .refl _
  | cons a r ih =>
    unfold insD
    by_cases h : a ≤ l
    · rw [if_pos h]
    · rw [if_neg h]; exact (ih.cons a).trans (.swap ..)
theorem srt_perm (r : List Nat) : (srt r).Perm r := by
  induction r with
  | nil => exact .refl _
  | cons a r ih => exact (insD_perm a _).trans (ih.cons a)
noncomputable abbrev Desc (l : List Nat) : Prop := l.Pairwise (fun a b => b ≤ a)
theorem insD_desc (l : Nat) (r : List Nat) (h : Desc r) : Desc (insD l r) := by
  induction r with
  | nil => simp [insD, Desc]
  | cons a r ih =>
    unfold insD
    have h1 := List.pairwise_cons.1 h
    by_cases c : a ≤ l
    · rw [if_pos c]
      refine List.pairwise_cons.2 ⟨fun b hb => ?_, h⟩
      rcases List.mem_cons.1 hb with rfl | hb
      · exact c
      · have := h1.1 b hb; omega
    · rw [if_neg c]
      refine List.pairwise_cons.2 ⟨fun b hb => ?_, ih h1.2⟩
      rcases List.mem_cons.1 ((insD_perm l r).mem_iff.1 hb) with rfl | hb
      · omega
      · exact h1.1 b hb
theorem srt_desc (r : List Nat) : Desc (srt r) := by
  induction r with
  | nil => exact .nil
  | cons a r ih => exact insD_desc a _ ih

theorem ins_cost (H : Nat) : ∀ (v : List (Int × Nat)) (a : Int × Nat), (∀ x ∈ v, leX a x) → v.Pairwise leX → ∀ (l : Nat) (ls : List Nat), ls.length = v.length →
    costv (a :: v) (insD l ls) ≤ a.1 * (l : Int) + costv v ls ∧ (costv (a :: v) (insD l ls) = a.1 * (l : Int) + costv v ls → l + a.2 ≤ H → fitH H v ls → fitH H (a :: v) (insD l ls)) := by
  intro v
  induction v with
  | nil =>
    intro a _ _ l ls h
    match ls, h with
    | [], _ => simp [insD, costv, fitH]
  | cons b v ih =>
    intro a ha hv l ls h
    match ls, h with
    | m :: ls, h =>
      have hv' := List.pairwise_cons.1 hv
      have hab := ha b (List.mem_cons_self ..)
      unfold insD
      by_cases c : m ≤ l
      · rw [if_pos c]
        exact ⟨Int.le_refl _, fun _ p q => ⟨p, q⟩⟩
      · rw [if_neg c]
        obtain ⟨i1, i2⟩ := ih b hv'.1 hv'.2 l ls (by simpa using h)
        simp only [costv, fitH]
        have hm : (0 : Int) ≤ (b.1 - a.1) * ((m : Int) - l) := Int.mul_nonneg (by unfold leX at hab; omega) (by omega)
        refine ⟨by grind, fun e p q => ?_⟩
        have e0 : (b.1 - a.1) * ((m : Int) - l) = 0 := by grind
        have hab' : a.1 = b.1 := by
          rcases Int.mul_eq_zero.1 e0 with h | h <;> omega
        have hh : a.2 ≤ b.2 := by unfold leX at hab; omega
        refine ⟨by omega, i2 (by grind) (by omega) q.2⟩

theorem srt_cost (H : Nat) : ∀ (v : List (Int × Nat)), v.Pairwise leX → ∀ ls : List Nat, ls.length = v.length →
    costv v (srt ls) ≤ costv v ls ∧ (costv v (srt ls) = costv v ls → fitH H v ls → fitH H v (srt ls)) := by
  intro v
  induction v with
  | nil =>
    intro _ ls h
    match ls, h with
    | [], _ => simp [srt, costv, fitH]
  | cons a v ih =>
    intro hv ls h
    match ls, h with
    | l :: ls, h =>
      have hv' := List.pairwise_cons.1 hv
      obtain ⟨i1, i2⟩ := ih hv'.2 ls (by simpa using h)
      obtain ⟨j1, j2⟩ := ins_cost H v a hv'.1 hv'.2 l (srt ls) (by rw [(srt_perm ls).length_eq]; simpa using h)
      simp only [srt, costv, fitH] at *
      exact ⟨by omega, fun e p => j2 (by omega) p.1 (i2 (by omega) p.2)⟩

/-- sorting the items -/
theorem exists_sorted (v : List (Int × Nat)) : ∃ v' : List (Int × Nat), v'.Perm v ∧ v'.Pairwise leX := by
  refine ⟨v.mergeSort (fun a b => decide (a.1 < b.1) || (decide (a.1 = b.1) && decide (a.2 ≤ b.2))), List.mergeSort_perm .., ?_⟩
  have := List.pairwise_mergeSort (le := fun (a b : Int × Nat) => decide (a.1 < b.1) || (decide (a.1 = b.1) && decide (a.2 ≤ b.2)))
    (by intro a b c; simp; omega) (by intro a b; simp; omega) v
  refine this.imp ?_
  intro a b h
  simpa [leX] using h

theorem costv_len : ∀ (v : List (Int × Nat)), (∀ x ∈ v, 0 < x.1) → ∀ ls, 0 ≤ costv v ls := by
  intro v
  induction v with
  | nil => intro _ ls; simp [costv]
  | cons a v ih =>
    intro h ls
    match ls with
    | [] => simp [costv]
    | l :: ls =>
      have := ih (fun x hx => h x (List.mem_cons_of_mem _ hx)) ls
      have h2 : 0 ≤ a.1 * (l : Int) := Int.mul_nonneg (by have := h a (List.mem_cons_self ..); omega) (by omega)
      simp only [costv]; omega

theorem kr_dvd (L m : Nat) (hm : m ≤ L) : ∀ ls : List Nat, (∀ l ∈ ls, l ≤ m) → 2 ^ (L - m) ∣ kr L ls := by
  intro ls
  induction ls with
  | nil => intro _; exact Nat.dvd_zero _
  | cons l ls ih =>
    intro h
    refine Nat.dvd_add (Nat.pow_dvd_pow _ ?_) (ih fun x hx => h x (List.mem_cons_of_mem _ hx))
    have := h l (List.mem_cons_self ..)
    omega

theorem pow_split {L m : Nat} (h : m ≤ L) : 2 ^ L = 2 ^ (L - m) * 2 ^ m := by rw [← Nat.pow_add]; congr 1; omega

/-- a longer head may be shortened to a length that no other passes -/
theorem kr_shorten (L m k : Nat) (hm : m ≤ L) (hk : k < m) (ls : List Nat) (hl : ∀ l ∈ ls, l ≤ k) (h : kr L (m :: ls) ≤ 2 ^ L) : kr L (k :: ls) ≤ 2 ^ L := by
  obtain ⟨x, hx⟩ := kr_dvd L k (by omega) ls hl
  simp only [kr] at *
  rw [hx] at h ⊢
  have e := pow_split (L := L) (m := k) (by omega)
  rw [e] at h ⊢
  have hp : 0 < 2 ^ (L - m) := Nat.two_pow_pos _
  have : x < 2 ^ k := by
    apply Nat.lt_of_mul_lt_mul_left (a := 2 ^ (L - k))
    omega
  calc 2 ^ (L - k) + 2 ^ (L - k) * x = 2 ^ (L - k) * (x + 1) := by rw [Nat.mul_add]; omega
    _ ≤ _ := Nat.mul_le_mul_left _ this

/-- merging the two least, up to one item -/
inductive HT : List (Int × Nat) → Int → Nat → Prop
  | one (x : Int) (h : Nat) : HT [(x, h)] 0 h
  | step {v : List (Int × Nat)} {A B : Int × Nat} {R : List (Int × Nat)} {c : Int} {H : Nat} : v.Perm (A :: B :: R) → leX A B → (∀ x ∈ R, leX B x) →
      HT ((A.1 + B.1, max A.2 B.2 + 1) :: R) c H → HT v (c + A.1 + B.1) H

theorem HT.low {v : List (Int × Nat)} {c : Int} {H : Nat} (t : HT v c H) : (∀ x ∈ v, 0 < x.1) → ∀ (L : Nat) (ls : List Nat), ls.length = v.length → (∀ l ∈ ls, l ≤ L) → kr L ls ≤ 2 ^ L →
    c ≤ costv v ls ∧ ∀ M, costv v ls = c → fitH M v ls → H ≤ M := by
  induction t with
  | one x h =>
    intro hp L ls hl _ _
    refine ⟨costv_len _ hp ls, fun M _ hf => ?_⟩
    match ls, hl with
    | [l], _ => simp only [fitH] at hf; omega
  | @step v A B R c H hperm hAB hBR _ ih =>
    intro hp L ls hl hL hk
    obtain ⟨R', hR, hRs⟩ := exists_sorted R
    have pos : ∀ x ∈ A :: B :: R', 0 < x.1 := fun x hx => hp x (hperm.mem_iff.2 (((hR.cons B).cons A).mem_iff.1 hx))
    have hA := pos A (by simp)
    have hB := pos B (by simp)
    obtain ⟨l1, a1, a2, a3, a4⟩ := lift_perm (hperm.trans ((hR.symm.cons B).cons A)) ls hl
    have sorted : (A :: B :: R').Pairwise leX := by
      refine List.pairwise_cons.2 ⟨fun x hx => ?_, List.pairwise_cons.2 ⟨fun x hx => hBR x (hR.mem_iff.1 hx), hRs⟩⟩
      rcases List.mem_cons.1 hx with rfl | hx
      · exact hAB
      · exact leX_trans hAB (hBR x (hR.mem_iff.1 hx))
    have sc := fun M => srt_cost M _ sorted l1 a1
    have hsl : (srt l1).length = (A :: B :: R').length := by rw [(srt_perm l1).length_eq, a1]
    have hsk : kr L (srt l1) ≤ 2 ^ L := by rw [kr_perm L (srt_perm l1), ← kr_perm L a2]; exact hk
    have hsm : ∀ l ∈ srt l1, l ≤ L := fun l hl => hL l (a2.mem_iff.2 ((srt_perm l1).mem_iff.1 hl))
    have hsd := srt_desc l1
    generalize srt l1 = s at *
    match s, hsl with
    | m :: k :: lr, hsl =>
      have hd1 := List.pairwise_cons.1 hsd
      have hd2 := List.pairwise_cons.1 hd1.2
      have hkm : k ≤ m := hd1.1 k (by simp)
      have hmL := hsm m (by simp)
      -- both at k
      have hkk : kr L (k :: k :: lr) ≤ 2 ^ L := by
        by_cases e : k = m
        · subst e; exact hsk
        · refine kr_shorten L m k hmL (by omega) (k :: lr) ?_ hsk
          intro x hx
          rcases List.mem_cons.1 hx with rfl | hx
          · exact Nat.le_refl _
          · exact hd2.1 x hx
      have hk1 : 1 ≤ k := by
        apply Decidable.byContradiction
        intro h0
        have : k = 0 := by omega
        subst this
        simp only [kr, Nat.sub_zero] at hkk
        have := Nat.two_pow_pos L
        omega
      have hkr : kr L ((k - 1) :: lr) = kr L (k :: k :: lr) := by
        simp only [kr]
        have : 2 ^ (L - (k - 1)) = 2 ^ (L - k) * 2 := by rw [← Nat.pow_succ]; congr 1; omega
        omega
      obtain ⟨l4, b1, b2, b3, b4⟩ := lift_perm (hR.cons (A.1 + B.1, max A.2 B.2 + 1)) ((k - 1) :: lr) (by simpa using hsl)
      have pos4 : ∀ x ∈ (A.1 + B.1, max A.2 B.2 + 1) :: R, 0 < x.1 := by
        intro x hx
        rcases List.mem_cons.1 hx with rfl | hx
        · show 0 < A.1 + B.1; omega
        · exact pos x (by simp [hR.mem_iff, hx])
      obtain ⟨i1, i2⟩ := ih pos4 L l4 b1 (by
        intro l hl
        rcases List.mem_cons.1 (b2.mem_iff.2 hl) with rfl | h
        · have := hsm k (by simp); omega
        · exact hsm l (by simp [h])) (by rw [← kr_perm L b2, hkr]; exact hkk)
      have hcm : A.1 * (k : Int) ≤ A.1 * (m : Int) := Int.mul_le_mul_of_nonneg_left (by omega) (by omega)
      have ec : costv ((A.1 + B.1, max A.2 B.2 + 1) :: R') ((k - 1) :: lr) = A.1 * (k : Int) + B.1 * (k : Int) + costv R' lr - A.1 - B.1 := by
        simp only [costv]
        have : ((k - 1 : Nat) : Int) = (k : Int) - 1 := by omega
        rw [this]
        grind
      have es : costv (A :: B :: R') (m :: k :: lr) = A.1 * (m : Int) + B.1 * (k : Int) + costv R' lr := by simp only [costv]; omega
      have s0 := (sc 0).1
      refine ⟨by omega, fun M he hf => ?_⟩
      have e1 : costv (A :: B :: R') (m :: k :: lr) = costv (A :: B :: R') l1 := by omega
      have e2 : A.1 * (k : Int) = A.1 * (m : Int) := by omega
      have e3 : k = m := by
        have := Int.eq_of_mul_eq_mul_left (by omega : A.1 ≠ 0) e2
        omega
      have f1 := (sc M).2 e1 (a4 M hf)
      subst e3
      refine i2 M (by omega) (b4 M ?_)
      simp only [fitH] at f1 ⊢
      refine ⟨?_, f1.2.2⟩
      omega

theorem HT.pos_len {v : List (Int × Nat)} {c : Int} {H : Nat} (t : HT v c H) : 0 < v.length := by
  cases t with
  | one => simp
  | step h _ _ _ => rw [h.length_eq]; simp

/-- the merged cost is attained, by a row of no greater length than room for all asks -/
theorem HT.attained {v : List (Int × Nat)} {c : Int} {H : Nat} (t : HT v c H) : ∃ ls : List Nat, ls.length = v.length ∧ (∀ l ∈ ls, l + 1 ≤ v.length) ∧ costv v ls = c ∧ ∀ L, v.length ≤ L + 1 → kr L ls = 2 ^ L := by
  induction t with
  | one x h => exact ⟨[0], rfl, by simp, by simp [costv], by intro L _; simp [kr]⟩
  | @step v A B R c H hperm _ _ _ ih =>
    obtain ⟨ls, h1, h2, h3, h4⟩ := ih
    match ls, h1 with
    | l :: lr, h1 =>
      obtain ⟨l2, b1, b2, b3, _⟩ := lift_perm hperm.symm ((l + 1) :: (l + 1) :: lr) (by simpa using h1)
      have hlen : v.length = R.length + 2 := by rw [hperm.length_eq]; simp
      refine ⟨l2, b1, ?_, ?_, ?_⟩
      · intro x hx
        have hx := b2.mem_iff.2 hx
        have hl := h2 l (by simp)
        simp only [List.length_cons] at hl
        simp only [List.mem_cons] at hx
        rcases hx with rfl | rfl | hx
        · omega
        · omega
        · have := h2 x (by simp [hx]); simp only [List.length_cons] at this; omega
      · rw [b3]
        simp only [costv] at h3 ⊢
        have : ((l + 1 : Nat) : Int) = (l : Int) + 1 := by omega
        rw [this]
        grind
      · intro L hL
        rw [← kr_perm L b2]
        have := h4 L (by simp; omega)
        simp only [kr] at this ⊢
        have hl := h2 l (by simp)
        simp only [List.length_cons] at hl
        have : 2 ^ (L - l) = 2 ^ (L - (l + 1)) * 2 := by rw [← Nat.pow_succ]; congr 1; omega
        omega
end Mk
end
section -- Q2
namespace Mk
open Mini

noncomputable def sumI : List Int → Int
  | [] => 0
  | a :: r => a + sumI r
theorem sumI_app (a b : List Int) : sumI (a ++ b) = sumI a + sumI b := by
  induction a with
  | nil => simp [sumI]
  | cons x a ih => simp only [List.cons_append, sumI, ih]; omega
theorem sumI_take_mono (w : List Int) (h : ∀ x ∈ w, 0 ≤ x) : ∀ a b, a ≤ b → sumI (w.take a) ≤ sumI (w.take b) := by
  induction w with
  | nil => intro a b _; simp
  | cons x w ih =>
    intro a b hab
    have hx := h x (by simp)
    have ih := ih (fun y hy => h y (by simp [hy]))
    match a, b, hab with
    | 0, 0, _ => simp
    | 0, b + 1, _ => have := ih 0 b (by omega); simp only [List.take_zero, List.take_succ_cons, sumI] at *; omega
    | a + 1, b + 1, hab => have := ih a b (by omega); simp only [List.take_succ_cons, sumI] at *; omega

/-- two sorted rows into one, with flags: true = of the first -/
noncomputable def mrg : List Int → List Int → List (Int × Bool)
  | [], ps => ps.map fun p => (p, false)
  | w :: ws, [] => (w, true) :: mrg ws []
  | w :: ws, p :: ps => if w ≤ p then (w, true) :: mrg ws (p :: ps) else (p, false) :: mrg (w :: ws) ps
termination_by a b => a.length + b.length
noncomputable def prs : List Int → List Int
  | a :: b :: r => (a + b) :: prs r
  | _ => []
noncomputable def nums (r : List (Int × Bool)) : List Int := r.map (·.1)
noncomputable def trues (r : List (Int × Bool)) : Nat := r.countP (·.2)
noncomputable abbrev Asc (l : List Int) : Prop := l.Pairwise (fun a b => a ≤ b)

theorem mrg_len : ∀ w p : List Int, (mrg w p).length = w.length + p.length := by
  intro w p
  induction w, p using mrg.induct with
  | case1 ps => simp [mrg]
  | case2 w ws ih => simp only [mrg, List.length_cons, ih, List.length_nil]
  | case3 w ws p ps h ih => simp only [mrg, if_pos h, List.length_cons] at *; omega
  | case4 w ws p ps h ih => simp only [mrg, if_neg h, List.length_cons] at *; omega
theorem mrg_mem : ∀ w p : List Int, ∀ x ∈ nums (mrg w p), x ∈ w ∨ x ∈ p := by
  intro w p
  induction w, p using mrg.induct with
  | case1 ps => intro x; simp [mrg, nums]
  | case2 w ws ih => intro x; simp only [mrg, nums, List.map_cons, List.mem_cons] at *; intro h; rcases h with h | h; · simp [h]
                     · have := ih x h; grind
  | case3 w ws p ps h ih => intro x; simp only [mrg, if_pos h, nums, List.map_cons, List.mem_cons] at *; intro h; have := ih x; grind
  | case4 w ws p ps h ih => intro x; simp only [mrg, if_neg h, nums, List.map_cons, List.mem_cons] at *; intro h; have := ih x; grind
theorem mrg_asc : ∀ w p : List Int, Asc w → Asc p → Asc (nums (mrg w p)) := by
  intro w p
  induction w, p using mrg.induct with
  | case1 ps => intro _ h; simpa [mrg, nums, List.map_map, Function.comp_def] using h
  | case2 w ws ih =>
    intro h h2
    have h' := List.pairwise_cons.1 h
    simp only [mrg, nums, List.map_cons]
    refine List.pairwise_cons.2 ⟨fun x hx => ?_, ih h'.2 h2⟩
    rcases mrg_mem _ _ x hx with h | h
    · exact h'.1 x h
    · simp at h
  | case3 w ws p ps hw ih =>
    intro h h2
    have h' := List.pairwise_cons.1 h
    have h2' := List.pairwise_cons.1 h2
    simp only [mrg, if_pos hw, nums, List.map_cons]
    refine List.pairwise_cons.2 ⟨fun x hx => ?_, ih h'.2 h2⟩
    rcases mrg_mem _ _ x hx with h | h
    · exact h'.1 x h
    · rcases List.mem_cons.1 h with rfl | h
      · exact hw
      · have := h2'.1 x h; omega
  | case4 w ws p ps hw ih =>
    intro h h2
    have h' := List.pairwise_cons.1 h
    have h2' := List.pairwise_cons.1 h2
    simp only [mrg, if_neg hw, nums, List.map_cons]
    refine List.pairwise_cons.2 ⟨fun x hx => ?_, ih h h2'.2⟩
    rcases mrg_mem _ _ x hx with h | h
    · rcases List.mem_cons.1 h with rfl | h
      · omega
      · have := h'.1 x h; omega
    · exact h2'.1 x h

/-- the first m of the merged row: so many of the first, the others of the second -/
theorem mrg_take : ∀ (w p : List Int) (m : Nat), m ≤ (mrg w p).length →
    trues ((mrg w p).take m) ≤ m ∧ trues ((mrg w p).take m) ≤ w.length ∧ m - trues ((mrg w p).take m) ≤ p.length ∧
    sumI ((nums (mrg w p)).take m) = sumI (w.take (trues ((mrg w p).take m))) + sumI (p.take (m - trues ((mrg w p).take m))) := by
  intro w p
  induction w, p using mrg.induct with
  | case1 ps =>
    intro m hm
    have h0 : trues (((mrg [] ps)).take m) = 0 := by
      simp only [mrg, trues, List.countP_eq_zero]
      intro a ha
      have := List.mem_of_mem_take ha
      simp only [List.mem_map] at this
      obtain ⟨_, _, rfl⟩ := this
      simp
    rw [h0]
    simp only [mrg, List.length_map] at hm
    simp [mrg, nums, List.map_map, Function.comp_def, sumI, hm]
  | case2 w ws ih =>
    intro m hm
    match m with
    | 0 => simp [trues, sumI]
    | m + 1 =>
      have := ih m (by simpa [mrg] using hm)
      simp only [mrg, nums, List.map_cons, List.take_succ_cons, trues, List.countP_cons, sumI, List.length_cons, List.length_nil] at *
      simp only [if_true]
      obtain ⟨a, b, c, d⟩ := this
      generalize List.countP (fun x : Int × Bool => x.2) ((mrg ws []).take m) = t at *
      refine ⟨by omega, by omega, by omega, ?_⟩
      rw [d, show m + 1 - (t + 1) = m - t by omega, List.take_succ_cons, sumI]
      omega
  | case3 w ws p ps hw ih =>
    intro m hm
    match m with
    | 0 => simp [trues, sumI]
    | m + 1 =>
      have := ih m (by simpa [mrg, if_pos hw] using hm)
      simp only [mrg, if_pos hw, nums, List.map_cons, List.take_succ_cons, trues, List.countP_cons, sumI, List.length_cons] at *
      simp only [if_true]
      obtain ⟨a, b, c, d⟩ := this
      generalize List.countP (fun x : Int × Bool => x.2) ((mrg ws (p :: ps)).take m) = t at *
      refine ⟨by omega, by omega, by omega, ?_⟩
      rw [d, show m + 1 - (t + 1) = m - t by omega, List.take_succ_cons, sumI]
      omega
  | case4 w ws p ps hw ih =>
    intro m hm
    match m with
    | 0 => simp [trues, sumI]
    | m + 1 =>
      have := ih m (by simpa [mrg, if_neg hw] using hm)
      simp only [mrg, if_neg hw, nums, List.map_cons, List.take_succ_cons, trues, List.countP_cons, sumI, List.length_cons] at *
      simp only [Bool.false_eq_true, if_false, Nat.add_zero]
      obtain ⟨a, b, c, d⟩ := this
      generalize List.countP (fun x : Int × Bool => x.2) ((mrg (w :: ws) ps).take m) = t at *
      refine ⟨by omega, by omega, by omega, ?_⟩
      rw [d, show m + 1 - t = m - t + 1 by omega, List.take_succ_cons, sumI]
      omega

theorem take_shift (x : Int) : ∀ (p : List Int), Asc p → (∀ y ∈ p, x ≤ y) → ∀ q, q + 1 ≤ p.length → x + sumI (p.take q) ≤ sumI (p.take (q + 1)) := by
  intro p
  induction p with
  | nil => intro _ _ q h; simp at h
  | cons y p ih =>
    intro ha hx q hq
    have ha' := List.pairwise_cons.1 ha
    match q with
    | 0 => have := hx y (by simp); simp only [List.take_succ_cons, List.take_zero, sumI]; omega
    | q + 1 =>
      have := ih ha'.2 (fun z hz => hx z (by simp [hz])) q (by simpa using hq)
      simp only [List.take_succ_cons, sumI] at *; omega

/-- no other choice of the same number weighs less -/
theorem mrg_least : ∀ (w p : List Int), Asc w → Asc p → ∀ t q, t ≤ w.length → q ≤ p.length → sumI ((nums (mrg w p)).take (t + q)) ≤ sumI (w.take t) + sumI (p.take q) := by
  intro w p
  induction w, p using mrg.induct with
  | case1 ps =>
    intro _ _ t q ht hq
    have : t = 0 := by simpa using ht
    subst this
    simp [mrg, nums, List.map_map, Function.comp_def, sumI]
  | case2 w ws ih =>
    intro hw hp t q ht hq
    have hw' := List.pairwise_cons.1 hw
    have hq0 : q = 0 := by simpa using hq
    subst hq0
    match t with
    | 0 => simp [sumI]
    | t + 1 =>
      have := ih hw'.2 hp t 0 (by simpa using ht) (by simp)
      simp only [mrg, nums, List.map_cons, Nat.add_zero, List.take_succ_cons, sumI, List.take_zero] at *
      omega
  | case3 w ws p ps hh ih =>
    intro hw hp t q ht hq
    have hw' := List.pairwise_cons.1 hw
    have hp' := List.pairwise_cons.1 hp
    simp only [mrg, if_pos hh, nums, List.map_cons] at *
    match t, q with
    | 0, 0 => simp [sumI]
    | 0, q + 1 =>
      have h1 := ih hw'.2 hp 0 q (by simp) (by omega)
      have h2 := take_shift w (p :: ps) hp (by
        intro y hy
        rcases List.mem_cons.1 hy with rfl | hy
        · exact hh
        · have := hp'.1 y hy; omega) q hq
      simp only [Nat.zero_add] at h1 ⊢
      rw [List.take_succ_cons, sumI, List.take_zero]
      simp only [sumI, List.take_zero] at h1 ⊢
      omega
    | t + 1, q =>
      have h1 := ih hw'.2 hp t q (by simpa using ht) hq
      rw [show t + 1 + q = t + q + 1 by omega]
      simp only [List.take_succ_cons, sumI]
      omega
  | case4 w ws p ps hh ih =>
    intro hw hp t q ht hq
    have hw' := List.pairwise_cons.1 hw
    have hp' := List.pairwise_cons.1 hp
    simp only [mrg, if_neg hh, nums, List.map_cons] at *
    match t, q with
    | 0, 0 => simp [sumI]
    | t, q + 1 =>
      have h1 := ih hw hp'.2 t q ht (by simpa using hq)
      rw [show t + (q + 1) = t + q + 1 by omega]
      simp only [List.take_succ_cons, sumI]
      omega
    | t + 1, 0 =>
      have h1 := ih hw hp'.2 t 0 (by omega) (by simp)
      have h2 := take_shift p (w :: ws) hw (by
        intro y hy
        rcases List.mem_cons.1 hy with rfl | hy
        · omega
        · have := hw'.1 y hy; omega) t ht
      simp only [Nat.add_zero] at h1 ⊢
      rw [List.take_succ_cons (a := p), sumI, List.take_zero]
      simp only [sumI, List.take_zero] at h1 ⊢
      omega

theorem prs_len : ∀ r : List Int, (prs r).length = r.length / 2
  | [] => rfl
  | [_] => by simp [prs]
  | a :: b :: r => by simp only [prs, List.length_cons, prs_len r]; omega
theorem prs_take : ∀ (r : List Int) (q : Nat), 2 * q ≤ r.length → sumI ((prs r).take q) = sumI (r.take (2 * q))
  | [], q, h => by simp [prs]
  | [_], q, h => by
    have : q = 0 := by simp at h; omega
    subst this; simp [prs]
  | a :: b :: r, 0, h => by simp [sumI]
  | a :: b :: r, q + 1, h => by
    have := prs_take r q (by simp at h; omega)
    rw [show 2 * (q + 1) = 2 * q + 1 + 1 by omega]
    simp only [prs, List.take_succ_cons, sumI, this]; omega
theorem prs_pos : ∀ r : List Int, (∀ x ∈ r, 0 < x) → ∀ x ∈ prs r, 0 < x
  | [], _ => by simp [prs]
  | [_], _ => by simp [prs]
  | a :: b :: r, h => by
    intro x hx
    simp only [prs, List.mem_cons] at hx
    rcases hx with rfl | hx
    · have := h a (by simp); have := h b (by simp); omega
    · exact prs_pos r (fun y hy => h y (by simp [hy])) x hx
theorem prs_ge : ∀ (r : List Int) (a b : Int), Asc (a :: b :: r) → ∀ x ∈ prs r, a + b ≤ x
  | [], _, _, _ => by simp [prs]
  | [_], _, _, _ => by simp [prs]
  | c :: d :: r, a, b, h => by
    intro x hx
    have h1 := List.pairwise_cons.1 h
    have h2 := List.pairwise_cons.1 h1.2
    simp only [prs, List.mem_cons] at hx
    have e1 := h1.1 c (by simp)
    have e2 := h2.1 d (by simp)
    rcases hx with rfl | hx
    · omega
    · have := prs_ge r c d h2.2 x hx; omega
theorem prs_asc : ∀ r : List Int, Asc r → Asc (prs r)
  | [], _ => by simp [prs, Asc]
  | [_], _ => by simp [prs, Asc]
  | a :: b :: r, h => by
    have h1 := List.pairwise_cons.1 h
    have h2 := List.pairwise_cons.1 h1.2
    exact List.pairwise_cons.2 ⟨fun x hx => prs_ge r a b h x hx, prs_asc r h2.2⟩

noncomputable def row (w : List Int) : Nat → List (Int × Bool)
  | 0 => []
  | k + 1 => mrg w (prs (nums (row w k)))
noncomputable def bump : Nat → List Nat → List Nat
  | t + 1, d :: ds => (d + 1) :: bump t ds
  | _, ds => ds
noncomputable def pd (w : List Int) : Nat → Nat → List Nat → List Nat
  | 0, _, ds => ds
  | k + 1, m, ds => pd w k (2 * (m - trues ((row w (k + 1)).take m))) (bump (trues ((row w (k + 1)).take m)) ds)
noncomputable def cost : List Int → List Nat → Int
  | a :: v, l :: ls => a * (l : Int) + cost v ls
  | _, _ => 0

theorem nums_len (r : List (Int × Bool)) : (nums r).length = r.length := List.length_map ..
theorem row_asc (w : List Int) (h : Asc w) : ∀ k, Asc (nums (row w k))
  | 0 => .nil
  | k + 1 => mrg_asc _ _ h (prs_asc _ (row_asc w h k))
theorem row_pos (w : List Int) (h : ∀ x ∈ w, 0 < x) : ∀ k, ∀ x ∈ nums (row w k), 0 < x
  | 0 => by simp [row, nums]
  | k + 1 => by
    intro x hx
    rcases mrg_mem _ _ x hx with hx | hx
    · exact h x hx
    · exact prs_pos _ (row_pos w h k) x hx
theorem row_len (w : List Int) (k : Nat) : (row w (k + 1)).length = w.length + (row w k).length / 2 := by
  rw [row, mrg_len, prs_len, nums_len]

theorem bump_len : ∀ (t : Nat) (ds : List Nat), (bump t ds).length = ds.length
  | 0, ds => by cases ds <;> rfl
  | t + 1, [] => rfl
  | t + 1, d :: ds => by simp [bump, bump_len t ds]
theorem bump_cost : ∀ (w : List Int) (t : Nat) (ds : List Nat), ds.length = w.length → cost w (bump t ds) = cost w ds + sumI (w.take t)
  | [], t, ds, h => by
    have : ds = [] := by simpa using h
    subst this; cases t <;> simp [bump, cost, sumI]
  | a :: w, 0, ds, h => by cases ds <;> simp [bump, sumI]
  | a :: w, t + 1, [], h => by simp at h
  | a :: w, t + 1, d :: ds, h => by
    have := bump_cost w t ds (by simpa using h)
    simp only [bump, cost, List.take_succ_cons, sumI, this]
    have : ((d + 1 : Nat) : Int) = (d : Int) + 1 := by omega
    rw [this]; grind
theorem bump_le (M : Nat) : ∀ (t : Nat) (ds : List Nat), (∀ d ∈ ds, d ≤ M) → ∀ d ∈ bump t ds, d ≤ M + 1
  | 0, ds, h, d, hd => by
    have : bump 0 ds = ds := by cases ds <;> rfl
    rw [this] at hd; have := h d hd; omega
  | t + 1, [], h, d, hd => by simp [bump] at hd
  | t + 1, e :: ds, h, d, hd => by
    simp only [bump, List.mem_cons] at hd
    rcases hd with rfl | hd
    · have := h e (by simp); omega
    · exact bump_le M t ds (fun x hx => h x (by simp [hx])) d hd
theorem bump_mem_le (e : Nat) : ∀ (t : Nat) (ds : List Nat), (∀ d ∈ ds, d ≤ e) → ∀ d ∈ bump t ds, d ≤ e + 1 := bump_le e
theorem bump_desc : ∀ (t : Nat) (ds : List Nat), Desc ds → Desc (bump t ds)
  | 0, ds, h => by
    have : bump 0 ds = ds := by cases ds <;> rfl
    rw [this]; exact h
  | t + 1, [], h => h
  | t + 1, d :: ds, h => by
    have h' := List.pairwise_cons.1 h
    exact List.pairwise_cons.2 ⟨bump_le d t ds h'.1, bump_desc t ds h'.2⟩
theorem bump_kr (L k : Nat) : ∀ (t : Nat) (ds : List Nat), t ≤ ds.length → (∀ d ∈ ds, d + k + 1 ≤ L) → kr L (bump t ds) + t * 2 ^ k ≤ kr L ds
  | 0, ds, _, h => by
    have : bump 0 ds = ds := by cases ds <;> rfl
    rw [this]; omega
  | t + 1, [], ht, h => by simp at ht
  | t + 1, d :: ds, ht, h => by
    have := bump_kr L k t ds (by simpa using ht) (fun x hx => h x (by simp [hx]))
    have hd := h d (by simp)
    simp only [bump, kr]
    have e1 : 2 ^ (L - d) = 2 ^ (L - (d + 1)) * 2 := by rw [← Nat.pow_succ]; congr 1; omega
    have e2 : 2 ^ k ≤ 2 ^ (L - (d + 1)) := Nat.pow_le_pow_right (by omega) (by omega)
    rw [Nat.add_mul, Nat.one_mul]
    omega

theorem pd_spec (w : List Int) (L : Nat) : ∀ (k m : Nat) (ds : List Nat), k ≤ L → m ≤ (row w k).length → ds.length = w.length → (∀ d ∈ ds, d + k ≤ L) → Desc ds →
    (pd w k m ds).length = w.length ∧ (∀ d ∈ pd w k m ds, d ≤ L) ∧ Desc (pd w k m ds) ∧ cost w (pd w k m ds) = cost w ds + sumI ((nums (row w k)).take m) ∧ 2 * kr L (pd w k m ds) + 2 ^ k * m ≤ 2 * kr L ds := by
  intro k
  induction k with
  | zero =>
    intro m ds _ hm hl hd hs
    have : m = 0 := by simpa [row] using hm
    subst this
    exact ⟨hl, fun d h => by have := hd d h; simp only [pd] at h; omega, hs, by simp [pd, nums, row, sumI], by simp [pd]⟩
  | succ k ih =>
    intro m ds hk hm hl hd hs
    obtain ⟨t1, t2, t3, t4⟩ := mrg_take w (prs (nums (row w k))) m hm
    rw [pd]
    change trues ((row w (k + 1)).take m) ≤ m at t1
    change trues ((row w (k + 1)).take m) ≤ w.length at t2
    change m - trues ((row w (k + 1)).take m) ≤ _ at t3
    change sumI ((nums (row w (k + 1))).take m) = sumI (w.take (trues ((row w (k + 1)).take m))) + sumI ((prs (nums (row w k))).take (m - trues ((row w (k + 1)).take m))) at t4
    generalize trues ((row w (k + 1)).take m) = t at *
    rw [prs_len, nums_len] at t3
    rw [prs_take _ _ (by rw [nums_len]; omega)] at t4
    obtain ⟨a, b, c, d, e⟩ := ih (2 * (m - t)) (bump t ds) (by omega) (by omega) (by rw [bump_len]; exact hl) (fun x hx => by
      have := bump_le (L - (k + 1)) t ds (fun y hy => by have := hd y hy; omega) x hx
      omega) (bump_desc t ds hs)
    refine ⟨a, b, c, ?_, ?_⟩
    · rw [d, bump_cost w t ds hl, t4]; omega
    · have := bump_kr L k t ds (by omega) (fun x hx => by have := hd x hx; omega)
      have e1 : 2 ^ k * (2 * (m - t)) = 2 ^ (k + 1) * m - 2 ^ (k + 1) * t := by rw [← Nat.mul_assoc, ← Nat.pow_succ, Nat.mul_sub]
      have e2 : 2 ^ (k + 1) * t ≤ 2 ^ (k + 1) * m := Nat.mul_le_mul_left _ t1
      have e3 : 2 ^ (k + 1) * t = 2 * (t * 2 ^ k) := by rw [Nat.pow_succ]; grind
      omega

noncomputable def pre (ls : List Nat) : List Nat := ls.map (· - 1)
noncomputable def npos (ls : List Nat) : Nat := ls.countP (0 < ·)
noncomputable def kp (L : Nat) : List Nat → Nat
  | [] => 0
  | l :: ls => (if 0 < l then 2 ^ (L - l) else 0) + kp L ls

theorem all_zero_npos (ls : List Nat) (h : ∀ l ∈ ls, l = 0) : npos ls = 0 := by
  unfold npos; rw [List.countP_eq_zero]; intro a ha; simp [h a ha]
theorem pre_zero (ls : List Nat) (h : ∀ l ∈ ls, l = 0) : pre ls = ls := by
  unfold pre
  conv => rhs; rw [← List.map_id ls]
  exact List.map_congr_left fun a ha => by simp [h a ha]
theorem pre_cost : ∀ (w : List Int) (ls : List Nat), ls.length = w.length → Desc ls → cost w ls = cost w (pre ls) + sumI (w.take (npos ls))
  | [], ls, h, _ => by
    have : ls = [] := by simpa using h
    subst this; simp [cost, sumI]
  | a :: w, [], h, _ => by simp at h
  | a :: w, 0 :: ls, h, hd => by
    have hd' := List.pairwise_cons.1 hd
    have hz : ∀ l ∈ 0 :: ls, l = 0 := by
      intro l hl
      rcases List.mem_cons.1 hl with rfl | hl
      · rfl
      · have := hd'.1 l hl; omega
    rw [pre_zero _ hz, all_zero_npos _ hz]; simp [sumI]
  | a :: w, (l + 1) :: ls, h, hd => by
    have := pre_cost w ls (by simpa using h) (List.pairwise_cons.1 hd).2
    have e1 : npos ((l + 1) :: ls) = npos ls + 1 := by simp [npos]
    have e2 : pre ((l + 1) :: ls) = l :: pre ls := by simp [pre]
    rw [e1, e2]
    simp only [cost, List.take_succ_cons, sumI, this]
    have : ((l + 1 : Nat) : Int) = (l : Int) + 1 := by omega
    rw [this]; grind
theorem pre_desc (ls : List Nat) (h : Desc ls) : Desc (pre ls) := by
  unfold pre Desc
  rw [List.pairwise_map]
  exact h.imp fun h => by omega
/-- space of the lengths above nought: one level apart -/
theorem kp_pre (L : Nat) : ∀ ls : List Nat, (∀ l ∈ ls, l ≤ L + 1) → kp (L + 1) ls + npos (pre ls) * 2 ^ L = npos ls * 2 ^ L + kp L (pre ls)
  | [], _ => by simp [kp, npos, pre]
  | l :: ls, h => by
    have := kp_pre L ls fun x hx => h x (by simp [hx])
    have hl := h l (by simp)
    match l with
    | 0 =>
      have e1 : npos (0 :: ls) = npos ls := by simp [npos]
      have e2 : pre (0 :: ls) = 0 :: pre ls := by simp [pre]
      have e3 : npos (0 :: pre ls) = npos (pre ls) := by simp [npos]
      simp only [kp, e1, e2, e3] at *; simp; omega
    | 1 =>
      have e1 : npos (1 :: ls) = npos ls + 1 := by simp [npos]
      have e2 : pre (1 :: ls) = 0 :: pre ls := by simp [pre]
      have e3 : npos (0 :: pre ls) = npos (pre ls) := by simp [npos]
      simp only [kp, e1, e2, e3] at *; simp [Nat.add_mul]; omega
    | l + 2 =>
      have e1 : npos ((l + 2) :: ls) = npos ls + 1 := by simp [npos]
      have e2 : pre ((l + 2) :: ls) = (l + 1) :: pre ls := by simp [pre]
      have e3 : npos ((l + 1) :: pre ls) = npos (pre ls) + 1 := by simp [npos]
      simp only [kp, e1, e2, e3] at *; simp [Nat.add_mul]
      omega

theorem pk_low (w : List Int) (hw : Asc w) (hp : ∀ x ∈ w, 0 < x) : ∀ (L : Nat) (ls : List Nat), ls.length = w.length → Desc ls → (∀ l ∈ ls, l ≤ L) →
    ∃ v, v ≤ (row w L).length ∧ sumI ((nums (row w L)).take v) ≤ cost w ls ∧ 2 * npos ls * 2 ^ L < 2 * kp L ls + (v + 1) * 2 ^ L := by
  intro L
  induction L with
  | zero =>
    intro ls hl _ hz
    have hz' : ∀ l ∈ ls, l = 0 := fun l h => by have := hz l h; omega
    refine ⟨0, by simp [row], ?_, ?_⟩
    · have : ∀ (w : List Int) (ls : List Nat), (∀ l ∈ ls, l = 0) → cost w ls = 0 := by
        intro w
        induction w with
        | nil => intro ls _; simp [cost]
        | cons a w ih =>
          intro ls h
          match ls with
          | [] => simp [cost]
          | l :: ls => have e := h l (by simp); subst e; simp only [cost, ih ls fun x hx => h x (by simp [hx])]; simp
      rw [this w ls hz']; simp [sumI]
    · rw [all_zero_npos _ hz']; simp
  | succ L ih =>
    intro ls hl hd hL
    obtain ⟨v, h1, h2, h3⟩ := ih (pre ls) (by simp [pre, hl]) (pre_desc _ hd) (by
      intro l h
      simp only [pre, List.mem_map] at h
      obtain ⟨x, hx, rfl⟩ := h
      have := hL x hx; omega)
    have hn : npos ls ≤ w.length := by rw [← hl]; exact List.countP_le_length
    have hr := row_len w L
    have least := mrg_least w (prs (nums (row w L))) hw (prs_asc _ (row_asc w hw L)) (npos ls) (v / 2) hn (by rw [prs_len, nums_len]; omega)
    rw [prs_take _ _ (by rw [nums_len]; omega)] at least
    have mono := sumI_take_mono (nums (row w L)) (fun x hx => by have := row_pos w hp L x hx; omega) (2 * (v / 2)) v (by omega)
    refine ⟨npos ls + v / 2, by rw [hr]; omega, ?_, ?_⟩
    · rw [pre_cost w ls hl hd]
      change sumI ((nums (row w (L + 1))).take _) ≤ _ at least
      omega
    · have kk := kp_pre L ls hL
      have e1 : (v + 1) * 2 ^ L ≤ (2 * (v / 2) + 2) * 2 ^ L := Nat.mul_le_mul_right _ (by omega)
      have e2 : 2 ^ (L + 1) = 2 * 2 ^ L := by rw [Nat.pow_succ]; omega
      rw [e2]
      generalize 2 ^ L = P at *
      generalize v / 2 = q at *
      grind

theorem kp_le_kr (L : Nat) : ∀ ls : List Nat, kp L ls ≤ kr L ls
  | [] => by simp [kp, kr]
  | l :: ls => by
    have := kp_le_kr L ls
    simp only [kp, kr]
    have := Nat.two_pow_pos (L - l)
    split <;> omega
theorem kr_mem_le (L l : Nat) : ∀ ls : List Nat, l ∈ ls → 2 ^ (L - l) ≤ kr L ls
  | a :: ls, h => by
    simp only [kr]
    rcases List.mem_cons.1 h with rfl | h
    · omega
    · have := kr_mem_le L l ls h; exact Nat.le_trans this (Nat.le_add_left ..)
theorem kr_two (L : Nat) : ∀ ls : List Nat, 2 ≤ ls.length → kr L ls ≤ 2 ^ L → ∀ l ∈ ls, 0 < l := by
  intro ls h2 hk l hl
  apply Decidable.byContradiction
  intro h0
  have h0 : l = 0 := by omega
  subst h0
  obtain ⟨a, b, rfl⟩ := List.append_of_mem hl
  have e := kr_perm L (List.perm_middle (a := 0) (l₁ := a) (l₂ := b))
  rw [e] at hk
  simp only [kr, Nat.sub_zero] at hk
  have : 0 < (a ++ b).length := by simp at h2 ⊢; omega
  match hab : a ++ b, this with
  | x :: r, _ =>
    rw [hab] at hk
    simp only [kr] at hk
    have := Nat.two_pow_pos (L - x)
    omega

noncomputable def items (w : List Int) : List (Int × Nat) := w.map fun x => (x, 0)
theorem costv_items : ∀ (w : List Int) (ls : List Nat), costv (items w) ls = cost w ls
  | [], ls => by simp [items, costv, cost]
  | a :: w, [] => by simp [items, costv, cost]
  | a :: w, l :: ls => by have := costv_items w ls; simp only [items, List.map_cons, costv, cost] at *; rw [this]

/-- a row of lengths fits -/
noncomputable def Feas (L : Nat) (n : Nat) (ls : List Nat) : Prop := ls.length = n ∧ (∀ l ∈ ls, l ≤ L) ∧ kr L ls ≤ 2 ^ L

theorem desc_better (w : List Int) (hw : Asc w) (ls : List Nat) (h : ls.length = w.length) : cost w (srt ls) ≤ cost w ls := by
  have := (srt_cost 0 (items w) (by
    unfold items; rw [List.pairwise_map]
    exact hw.imp fun h => by simp only [leX]; omega) ls (by simpa [items] using h)).1
  rwa [costv_items, costv_items] at this

/-- the lower bound of the rows -/
theorem pk_low' (w : List Int) (hw : Asc w) (hp : ∀ x ∈ w, 0 < x) (h2 : 2 ≤ w.length) (L : Nat) (ls : List Nat) (hf : Feas L w.length ls) :
    2 * w.length - 2 ≤ (row w L).length ∧ sumI ((nums (row w L)).take (2 * w.length - 2)) ≤ cost w ls := by
  obtain ⟨f1, f2, f3⟩ := hf
  have pm := srt_perm ls
  have hk : kr L (srt ls) ≤ 2 ^ L := by rw [kr_perm L pm]; exact f3
  obtain ⟨v, a, b, c⟩ := pk_low w hw hp L (srt ls) (by rw [pm.length_eq, f1]) (srt_desc _) (fun l hl => f2 l (pm.mem_iff.1 hl))
  have hn : npos (srt ls) = w.length := by
    rw [← f1, ← pm.length_eq]
    unfold npos
    rw [List.countP_eq_length]
    intro l hl
    have := kr_two L (srt ls) (by rw [pm.length_eq, f1]; exact h2) hk l hl
    simpa using this
  rw [hn] at c
  have := kp_le_kr L (srt ls)
  have hv : 2 * w.length - 2 ≤ v := by
    have : 2 * w.length * 2 ^ L < (v + 3) * 2 ^ L := by
      have : (v + 3) * 2 ^ L = (v + 1) * 2 ^ L + 2 * 2 ^ L := by rw [← Nat.add_mul]
      omega
    have := Nat.lt_of_mul_lt_mul_right this
    omega
  refine ⟨by omega, ?_⟩
  have := sumI_take_mono (nums (row w L)) (fun x hx => by have := row_pos w hp L x hx; omega) _ _ hv
  have := desc_better w hw ls f1
  omega

theorem kr_rep (L d n : Nat) : kr L (List.replicate n d) = n * 2 ^ (L - d) := by
  induction n with
  | zero => simp [kr]
  | succ n ih => simp only [List.replicate_succ, kr, ih, Nat.add_mul]; omega
theorem cost_rep0 : ∀ (w : List Int) (n : Nat), cost w (List.replicate n 0) = 0
  | [], n => by simp [cost]
  | a :: w, 0 => by simp [cost]
  | a :: w, n + 1 => by simp [List.replicate_succ, cost, cost_rep0 w n]

noncomputable def pkg (w : List Int) (L : Nat) : List Nat := pd w L (2 * w.length - 2) (List.replicate w.length 0)

/-- what the package rows tell: a row that fits, of the least cost, that uses up the space -/
theorem pkg_spec (w : List Int) (hw : Asc w) (hp : ∀ x ∈ w, 0 < x) (h2 : 2 ≤ w.length) (L : Nat) (hL : w.length ≤ 2 ^ L) :
    Feas L w.length (pkg w L) ∧ Desc (pkg w L) ∧ (∀ d ∈ pkg w L, 0 < d) ∧ kr L (pkg w L) = 2 ^ L ∧ ∀ ls, Feas L w.length ls → cost w (pkg w L) ≤ cost w ls := by
  have full := pk_low' w hw hp h2 L (List.replicate w.length L) ⟨by simp, by simp, by rw [kr_rep]; simpa using hL⟩
  obtain ⟨a, b, c, d, e⟩ := pd_spec w L L (2 * w.length - 2) (List.replicate w.length 0) (Nat.le_refl _) full.1 (by simp) (by simp) (by simp [Desc, List.pairwise_replicate])
  change (pkg w L).length = _ at a
  change ∀ d ∈ pkg w L, _ at b
  change Desc (pkg w L) at c
  change cost w (pkg w L) = _ at d
  change 2 * kr L (pkg w L) + _ ≤ _ at e
  rw [cost_rep0, Int.zero_add] at d
  have hk : kr L (pkg w L) ≤ 2 ^ L := by
    rw [kr_rep, Nat.sub_zero] at e
    have : 2 ^ L * (2 * w.length - 2) = 2 * (w.length * 2 ^ L) - 2 * 2 ^ L := by rw [Nat.mul_sub]; grind
    have : 2 ^ L ≤ w.length * 2 ^ L := Nat.le_mul_of_pos_left _ (by omega)
    omega
  have low : ∀ ls, Feas L w.length ls → cost w (pkg w L) ≤ cost w ls := fun ls hf => by rw [d]; exact (pk_low' w hw hp h2 L ls hf).2
  have pos := kr_two L (pkg w L) (by omega) hk
  refine ⟨⟨a, b, hk⟩, c, pos, ?_, low⟩
  -- else the longest could be shortened
  apply Decidable.byContradiction
  intro hne
  generalize pkg w L = ds at *
  match w, ds with
  | [], _ => simp at h2
  | _ :: _, [] => simp at a
  | x :: w, m :: ds =>
    have hm := pos m (by simp)
    have hmL := b m (by simp)
    have hx := hp x (by simp)
    have c' := List.pairwise_cons.1 c
    obtain ⟨y, hy⟩ := kr_dvd L m hmL (m :: ds) (by
      intro l hl
      rcases List.mem_cons.1 hl with rfl | hl
      · exact Nat.le_refl _
      · exact c'.1 l hl)
    have e := pow_split (L := L) (m := m) hmL
    have hlt : kr L (m :: ds) < 2 ^ L := by omega
    have : y < 2 ^ m := by
      apply Nat.lt_of_mul_lt_mul_left (a := 2 ^ (L - m))
      omega
    have h3 : kr L (m :: ds) + 2 ^ (L - m) ≤ 2 ^ L := by
      rw [hy, e]
      calc 2 ^ (L - m) * y + 2 ^ (L - m) = 2 ^ (L - m) * (y + 1) := by rw [Nat.mul_add]; omega
        _ ≤ _ := Nat.mul_le_mul_left _ this
    have h4 := low ((m - 1) :: ds) ⟨by simpa using a, by
      intro l hl
      rcases List.mem_cons.1 hl with rfl | hl
      · omega
      · exact b l (by simp [hl]), by
      simp only [kr] at h3 ⊢
      have : 2 ^ (L - (m - 1)) = 2 ^ (L - m) * 2 := by rw [← Nat.pow_succ]; congr 1; omega
      omega⟩
    simp only [cost] at h4
    have : ((m - 1 : Nat) : Int) = (m : Int) - 1 := by omega
    rw [this] at h4
    grind
end Mk
end
section -- F1
namespace Mini
open PySem

section
variable {A B : Prop}
theorem brT {b : Bool} (h : b = true) (k : A) : brW b A B := ⟨fun _ => k, fun q => Bool.noConfusion (h.symm.trans q)⟩
theorem brF {b : Bool} (h : b = false) (k : B) : brW b A B := ⟨fun q => Bool.noConfusion (h.symm.trans q), fun _ => k⟩
theorem brD {P : Prop} [Decidable P] (k1 : P → A) (k2 : ¬ P → B) : brW (decide P) A B := ⟨fun q => k1 (of_decide_eq_true q), fun q => k2 (of_decide_eq_false q)⟩
theorem brN {P : Prop} [Decidable P] (k1 : ¬ P → A) (k2 : P → B) : brW (!decide P) A B := by
  by_cases h : P
  · rw [decide_eq_true h]; exact brF rfl (k2 h)
  · rw [decide_eq_false h]; exact brT rfl (k1 h)
end
/-- a call: what the function's body computes -/
theorem lev_of {f : Nat} {ds : List D} {p : Pool} {Φ : Bool → D → Pool → Prop} {ε : Pool → Prop} (hl : ds.length = parN.getD f 0) {r : Nat} (h : rank f < r) (b : runF (lev (rank f)) (xbF f) (vsF f).length ds p Φ ε) : lev r f ds p Φ ε := by
  induction r with
  | zero => exact absurd h (Nat.not_lt_zero _)
  | succ r ih =>
    rw [lev_e]
    by_cases e : rank f = r
    · rw [if_pos e]; exact e ▸ ⟨hl, b⟩
    · rw [if_neg e]; exact ih (Nat.lt_of_le_of_ne (Nat.le_of_lt_succ h) e)
/-- where branches meet again -/
theorem join {C : Calls} {s r : St} {sl : List Slot} {p : Pool} {Q : Fl → List Slot → Pool → Prop} {E : Pool → Prop} {S : Type} (mk : S → List Slot) (pl : S → Pool) (I : S → Prop) (h1 : ∀ N : List Slot → Pool → Prop, (∀ s, I s → N (mk s) (pl s)) → ex C s sl p (fun f t q => seqW f (N t q) fun f => Q f t q) E)
    (h2 : ∀ s, I s → ex C r (mk s) (pl s) Q E) : ex C (.cons s r) sl p Q E := h1 (fun t q => ex C r t q Q E) h2

section
variable {α : Type} {tg : List Nat} {isT : Bool} {f : List Slot → Pool → (Fl → List Slot → Pool → Prop) → Prop} {K : Fl → List Slot → Pool → Prop} {S : Type}
theorem forW_go {g : α → D} {xs : List α} (mk : List α → S → List Slot) (pl : List α → S → Pool) (I : List α → S → Prop)
    (hs : ∀ pre x post, xs = pre ++ x :: post → ∀ s, I pre s → ∀ N : List Slot → Pool → Prop, (∀ s, I (pre ++ [x]) s → N (mk (pre ++ [x]) s) (pl (pre ++ [x]) s)) → bindW tg isT (g x) (mk pre s) fun t => f t (pl pre s) fun fl t q => loopW fl (N t q) fun a b => K (.ret a b) t q)
    (he : ∀ s, I xs s → K .next (mk xs s) (pl xs s)) (post : List α) : ∀ pre : List α, xs = pre ++ post → ∀ s, I pre s → forW tg isT f (post.map g) (mk pre s) (pl pre s) K := by
  induction post with
  | nil => intro pre e s h; rw [List.append_nil] at e; subst e; exact he s h
  | cons x post ih => exact fun pre e s h => hs pre x post e s h (fun sl p => forW tg isT f (post.map g) sl p K) fun s h => ih (pre ++ [x]) (by rw [e, List.append_assoc]; rfl) s h
/-- a loop over a list, by an invariant of what has been walked -/
theorem forW_inv {g : α → D} {xs : List α} (mk : List α → S → List Slot) (pl : List α → S → Pool) (I : List α → S → Prop) (s0 : S) (h0 : I [] s0)
    (hs : ∀ pre x post, xs = pre ++ x :: post → ∀ s, I pre s → ∀ N : List Slot → Pool → Prop, (∀ s, I (pre ++ [x]) s → N (mk (pre ++ [x]) s) (pl (pre ++ [x]) s)) → bindW tg isT (g x) (mk pre s) fun t => f t (pl pre s) fun fl t q => loopW fl (N t q) fun a b => K (.ret a b) t q)
    (he : ∀ s, I xs s → K .next (mk xs s) (pl xs s)) : forW tg isT f (xs.map g) (mk [] s0) (pl [] s0) K := forW_go mk pl I hs he xs [] rfl s0 h0
theorem len_snoc (pre : List α) (x : α) : (pre ++ [x]).length = pre.length + 1 := List.length_append
theorem forE_go {g : α → D} {xs : List α} (mk : List α → S → List Slot) (pl : List α → S → Pool) (I : List α → S → Prop)
    (hs : ∀ pre x post, xs = pre ++ x :: post → ∀ s, I pre s → ∀ N : List Slot → Pool → Prop, (∀ s, I (pre ++ [x]) s → N (mk (pre ++ [x]) s) (pl (pre ++ [x]) s)) → bindW tg isT (.tup [.int (pre.length : Nat), g x]) (mk pre s) fun t => f t (pl pre s) fun fl t q => loopW fl (N t q) fun a b => K (.ret a b) t q)
    (he : ∀ s, I xs s → K .next (mk xs s) (pl xs s)) (post : List α) : ∀ pre : List α, xs = pre ++ post → ∀ s, I pre s → forW tg isT f (enumL pre.length (post.map g)) (mk pre s) (pl pre s) K := by
  induction post with
  | nil => intro pre e s h; rw [List.append_nil] at e; subst e; exact he s h
  | cons x post ih =>
    refine fun pre e s h => hs pre x post e s h (fun sl p => forW tg isT f (enumL (pre.length + 1) (post.map g)) sl p K) fun s h => ?_
    · have := ih (pre ++ [x]) (by rw [e, List.append_assoc]; rfl) s h
      rw [len_snoc] at this
      exact this
/-- the same, with places -/
theorem forE_inv {g : α → D} {xs : List α} (mk : List α → S → List Slot) (pl : List α → S → Pool) (I : List α → S → Prop) (s0 : S) (h0 : I [] s0)
    (hs : ∀ pre x post, xs = pre ++ x :: post → ∀ s, I pre s → ∀ N : List Slot → Pool → Prop, (∀ s, I (pre ++ [x]) s → N (mk (pre ++ [x]) s) (pl (pre ++ [x]) s)) → bindW tg isT (.tup [.int (pre.length : Nat), g x]) (mk pre s) fun t => f t (pl pre s) fun fl t q => loopW fl (N t q) fun a b => K (.ret a b) t q)
    (he : ∀ s, I xs s → K .next (mk xs s) (pl xs s)) : forW tg isT f (enumL 0 (xs.map g)) (mk [] s0) (pl [] s0) K := forE_go mk pl I hs he xs [] rfl s0 h0
theorem forR_go {h : Nat → D} {n : Nat} (mk : Nat → S → List Slot) (pl : Nat → S → Pool) (I : Nat → S → Prop)
    (hs : ∀ k, k < n → ∀ s, I k s → ∀ N : List Slot → Pool → Prop, (∀ s, I (k + 1) s → N (mk (k + 1) s) (pl (k + 1) s)) → bindW tg isT (h k) (mk k s) fun t => f t (pl k s) fun fl t q => loopW fl (N t q) fun a b => K (.ret a b) t q)
    (he : ∀ s, I n s → K .next (mk n s) (pl n s)) (m : Nat) : ∀ k, k + m = n → ∀ s, I k s → forW tg isT f ((List.range' k m).map h) (mk k s) (pl k s) K := by
  induction m with
  | zero => intro k e s h; cases e; exact he s h
  | succ m ih => exact fun k e s hI => hs k (e ▸ Nat.lt_add_of_pos_right (Nat.succ_pos m)) s hI (fun sl p => forW tg isT f ((List.range' (k + 1) m).map h) sl p K) fun s hI => ih (k + 1) ((Nat.succ_add k m).trans e) s hI
/-- a loop over a range -/
theorem forR_inv {h : Nat → D} {n : Nat} (mk : Nat → S → List Slot) (pl : Nat → S → Pool) (I : Nat → S → Prop) (s0 : S) (h0 : I 0 s0)
    (hs : ∀ k, k < n → ∀ s, I k s → ∀ N : List Slot → Pool → Prop, (∀ s, I (k + 1) s → N (mk (k + 1) s) (pl (k + 1) s)) → bindW tg isT (h k) (mk k s) fun t => f t (pl k s) fun fl t q => loopW fl (N t q) fun a b => K (.ret a b) t q)
    (he : ∀ s, I n s → K .next (mk n s) (pl n s)) : forW tg isT f ((List.range n).map h) (mk 0 s0) (pl 0 s0) K := by
  rw [List.range_eq_range']
  exact forR_go mk pl I hs he n 0 (Nat.zero_add n) s0 h0
theorem whileN_inv {c : List Slot → Pool → (Bool → Pool → Prop) → Prop} (mk : S → List Slot) (pl : S → Pool) (I : Nat → S → Prop)
    (hs : ∀ k s, I k s → ∀ N : List Slot → Pool → Prop, (∀ k' s, k = k' + 1 → I k' s → N (mk s) (pl s)) → c (mk s) (pl s) fun b q => brW b (f (mk s) q fun fl t q => loopW fl (N t q) fun a b => K (.ret a b) t q) (K .next (mk s) q)) (n : Nat) :
    ∀ k s, k < n → I k s → whileN c f n (mk s) (pl s) K := by
  induction n with
  | zero => exact fun k s h => absurd h (Nat.not_lt_zero k)
  | succ n ih => exact fun k s hk h => hs k s h (fun sl p => whileN c f n sl p K) fun k' s e h => ih k' s (Nat.lt_of_succ_lt_succ (Nat.lt_of_le_of_lt (Nat.le_of_eq e.symm) hk)) h
theorem whileW_inv {c : List Slot → Pool → (Bool → Pool → Prop) → Prop} (mk : S → List Slot) (pl : S → Pool) (I : Nat → S → Prop) {n : Nat} (k : Nat) (s : S) (hk : k < n) (h : I k s)
    (hs : ∀ k s, I k s → ∀ N : List Slot → Pool → Prop, (∀ k' s, k = k' + 1 → I k' s → N (mk s) (pl s)) → c (mk s) (pl s) fun b q => brW b (f (mk s) q fun fl t q => loopW fl (N t q) fun a b => K (.ret a b) t q) (K .next (mk s) q)) : whileW c f n (mk s) (pl s) K := by
  unfold whileW
  exact whileN_inv mk pl I hs n k s hk h
end
section
variable {α : Type} {tg : List Nat} {isT : Bool} {f : List Slot → Pool → (Bool → Pool → Prop) → Prop} {g : List Slot → Pool → (D → Pool → Prop) → Prop} {base : List Slot} {p : Pool} {K : List D → Pool → Prop}
theorem compW_go {g0 : α → D} (t : α → Bool) (v : α → D) (xs : List α) : ∀ acc : List D, (∀ x ∈ xs, ∀ (acc : List D) (N : List D → Pool → Prop), (t x = true → N (acc ++ [v x]) p) → (t x = false → N acc p) → bindW tg isT (g0 x) base fun s => f s p fun b q => brW b (g s q fun v q => N (acc ++ [v]) q) (N acc q)) →
    K (acc ++ (xs.filter t).map v) p → compW f g tg isT base (xs.map g0) acc p K := by
  induction xs with
  | nil => intro acc _ k; rw [List.filter_nil, List.map_nil, List.append_nil] at k; exact k
  | cons x xs ih =>
    intro acc hx k
    obtain ⟨h1, h2⟩ := List.forall_mem_cons.mp hx
    rw [List.filter_cons] at k
    refine h1 acc (fun acc p => compW f g tg isT base (xs.map g0) acc p K) (fun e => ih _ h2 ?_) fun e => ih _ h2 ?_
    · rw [if_pos e] at k; rw [List.append_assoc]; exact k
    · rw [e] at k; exact k
/-- a comprehension -/
theorem compW_map {g0 : α → D} (t : α → Bool) (v : α → D) {xs : List α} (hx : ∀ x ∈ xs, ∀ (acc : List D) (N : List D → Pool → Prop), (t x = true → N (acc ++ [v x]) p) → (t x = false → N acc p) → bindW tg isT (g0 x) base fun s => f s p fun b q => brW b (g s q fun v q => N (acc ++ [v]) q) (N acc q))
    (k : K ((xs.filter t).map v) p) : compW f g tg isT base (xs.map g0) [] p K := compW_go t v xs [] hx k
/-- one that keeps every item -/
theorem compW_all {g0 : α → D} (v : α → D) {xs : List α} (hx : ∀ x ∈ xs, ∀ (acc : List D) (N : List D → Pool → Prop), N (acc ++ [v x]) p → bindW tg isT (g0 x) base fun s => f s p fun b q => brW b (g s q fun v q => N (acc ++ [v]) q) (N acc q))
    (k : K (xs.map v) p) : compW f g tg isT base (xs.map g0) [] p K :=
  compW_map (fun _ => true) v (fun x hm acc N h _ => hx x hm acc N (h rfl)) (by rw [List.filter_eq_self.mpr fun _ _ => rfl]; exact k)
end

noncomputable def dI (l : List Int) : List D := l.map D.int
noncomputable def dN (l : List Nat) : List D := l.map fun (n : Nat) => D.int n
theorem dI_len (l : List Int) : (dI l).length = l.length := List.length_map ..
theorem dN_len (l : List Nat) : (dN l).length = l.length := List.length_map ..
theorem dI_le {l : List Int} {n : Nat} (h : l.length ≤ n) : (dI l).length ≤ n := (dI_len l).symm ▸ h
theorem dN_le {l : List Nat} {n : Nat} (h : l.length ≤ n) : (dN l).length ≤ n := (dN_len l).symm ▸ h

section
variable {K : D → Prop}
theorem idx_at {l : List D} {i : Nat} {d : D} (h1 : i < 1000000) (e : l[i]? = some d) (k : K d) : idxW l (.int (i : Nat)) K := by unfold idxW; exact ⟨⟨Int.natCast_nonneg i, Int.ofNat_lt.mpr h1⟩, d, e, k⟩
theorem idx_N {l : List Nat} {i : Nat} (h1 : i < 1000000) (h : i < l.length) (k : K (.int (l[i] : Nat))) : idxW (dN l) (.int (i : Nat)) K := idx_at h1 (by unfold dN; rw [List.getElem?_map, List.getElem?_eq_getElem h]; rfl) k
theorem idx_I {l : List Int} {i : Nat} (h1 : i < 1000000) (h : i < l.length) (k : K (.int l[i])) : idxW (dI l) (.int (i : Nat)) K := idx_at h1 (by unfold dI; rw [List.getElem?_map, List.getElem?_eq_getElem h]; rfl) k
theorem set_at {l : List D} {i : Nat} {K : Nat → Prop} (h1 : i < 1000000) (h : i < l.length) (k : K i) : setL l (.int (i : Nat)) K := by unfold setL; exact ⟨⟨Int.natCast_nonneg i, Int.ofNat_lt.mpr h1, Int.ofNat_lt.mpr h⟩, k⟩
theorem set_N {l : List Nat} {i : Nat} {K : Nat → Prop} (h1 : i < 1000000) (h : i < l.length) (k : K i) : setL (dN l) (.int (i : Nat)) K := set_at h1 (by rw [dN_len]; exact h) k
theorem dN_set (l : List Nat) (k v : Nat) : (dN l).set k (.int (v : Nat)) = dN (l.set k v) := List.map_set.symm
theorem dI_set (l : List Int) (k : Nat) (v : Int) : (dI l).set k (.int v) = dI (l.set k v) := List.map_set.symm
theorem dI_app (l : List Int) (x : Int) : dI l ++ [.int x] = dI (l ++ [x]) := (List.map_append (f := D.int) (l₁ := l) (l₂ := [x])).symm

theorem pick_range (l : List D) (c : Nat) : ∀ a : Nat, ((List.range c).map (a + ·)).filterMap (l[·]?) = (l.drop a).take c := by
  induction c with
  | zero => exact fun a => by rw [List.take_zero]; rfl
  | succ c ih =>
    intro a
    rw [List.range_succ_eq_map, List.map_cons, List.map_map, List.filterMap_cons]
    have e : ((fun x => a + x) ∘ Nat.succ) = fun x => (a + 1) + x := by funext x; exact (Nat.succ_add_eq_add_succ a x).symm
    rw [e, ih (a + 1), Nat.add_zero]
    by_cases h : a < l.length
    · rw [List.getElem?_eq_getElem h, List.drop_eq_getElem_cons h, List.take_succ_cons]
    · rw [List.getElem?_eq_none (Nat.le_of_not_lt h), List.drop_eq_nil_of_le (Nat.le_of_not_lt h), List.drop_eq_nil_of_le (Nat.le_succ_of_le (Nat.le_of_not_lt h))]
      exact (List.take_nil (i := c)).trans (List.take_nil (i := c + 1)).symm
theorem bounds_lo (k n : Nat) : sliceBounds (some (k : Int)) none none n = (((min k n : Nat) : Int), (n : Int), 1) := by
  simp only [sliceBounds, Option.getD_none]
  have : ¬ ((k : Int) < 0) := Int.not_lt.mpr (Int.natCast_nonneg k)
  simp only [if_neg this]
  simp
  omega
theorem bounds_hi (k n : Nat) : sliceBounds none (some (k : Int)) none n = (((0 : Nat) : Int), ((min k n : Nat) : Int), 1) := by
  simp only [sliceBounds, Option.getD_none]
  have : ¬ ((k : Int) < 0) := Int.not_lt.mpr (Int.natCast_nonneg k)
  simp only [if_neg this]
  simp
  omega
theorem pick_drop (l : List D) (k : Nat) : pickD l (some (k : Int)) none none = l.drop k := by
  unfold pickD
  rw [bounds_lo]
  simp only []
  rw [sliceRange_one, pick_range]
  by_cases h : k ≤ l.length
  · rw [Nat.min_eq_left h, List.take_of_length_le (Nat.le_of_eq List.length_drop)]
  · have h := Nat.le_of_lt (Nat.lt_of_not_le h)
    rw [Nat.min_eq_right h, Nat.sub_self, List.drop_eq_nil_of_le (Nat.le_refl _), List.drop_eq_nil_of_le h]; rfl
theorem pick_take (l : List D) (k : Nat) : pickD l none (some (k : Int)) none = l.take k := by
  unfold pickD
  rw [bounds_hi]
  simp only []
  rw [sliceRange_one, pick_range, List.drop_zero, Nat.sub_zero]
  by_cases h : k ≤ l.length
  · rw [Nat.min_eq_left h]
  · have h := Nat.le_of_lt (Nat.lt_of_not_le h)
    rw [Nat.min_eq_right h, List.take_of_length_le (Nat.le_refl _), List.take_of_length_le h]
theorem range_rev (n : Nat) : sliceRange ((n : Int) - 1) (-1) (-1) = (List.range n).map fun k => n - 1 - k := by
  unfold sliceRange
  simp only [show ¬ ((-1 : Int) > 0) by decide, if_false]
  have e : (if (n : Int) - 1 > -1 then ((n : Int) - 1 - -1 - -1 - 1) / (- -1) else 0).toNat = n := by
    rw [show (- -1 : Int) = 1 by decide, Int.ediv_one]
    split <;> omega
  rw [e]
  refine List.map_congr_left fun k hk => ?_
  have := List.mem_range.1 hk
  omega
theorem rev_range (n : Nat) : (List.range n).map (fun k => n - 1 - k) = (List.range n).reverse := by
  apply List.ext_getElem
  · rw [List.length_map, List.length_reverse]
  · intro i h1 h2
    rw [List.getElem_map, List.getElem_reverse, List.getElem_range, List.getElem_range, List.length_range]
theorem pick_rev (l : List D) : pickD l none none (some (-1)) = l.reverse := by
  unfold pickD
  show (sliceRange ((l.length : Int) - 1) (-1) (-1)).filterMap (l[·]?) = _
  rw [range_rev, rev_range, List.filterMap_reverse]
  have := pick_range l l.length 0
  rw [List.drop_zero, List.take_length, show (fun x => 0 + x) = (id : Nat → Nat) from funext Nat.zero_add, List.map_id] at this
  rw [this]

theorem rangeL_up (a b : Int) : rangeL a b 1 = (List.range (b - a).toNat).map fun (k : Nat) => D.int (a + (k : Int)) := by
  unfold rangeL Builtin.Range.rangeSize
  have e : (if (1 : Int) > 0 then if b > a then (b - a - 1) / 1 + 1 else 0 else if a > b then (a - b - 1) / -1 + 1 else 0).toNat = (b - a).toNat := by
    rw [if_pos (by decide), Int.ediv_one]
    split <;> omega
  rw [e]
  exact List.map_congr_left fun k _ => by rw [Int.one_mul]
theorem nat_le_lim {n : Nat} (h : n ≤ lim) : (n : Int).natAbs ≤ lim := h
theorem range_n {n : Nat} (h : n ≤ lim) (k : K (.list ((List.range n).map fun (k : Nat) => D.int (k : Int)))) : rangeE [.int (n : Int)] K := by
  unfold rangeE
  refine ⟨⟨by decide, Nat.zero_le _, h, by decide⟩, ?_⟩
  rw [rangeL_up, Int.sub_zero, Int.toNat_natCast]
  rw [show (fun k : Nat => D.int (0 + (k : Int))) = fun k : Nat => D.int (k : Int) from funext fun k => by rw [Int.zero_add]]
  exact k
theorem range_ab {a b : Nat} (h1 : a ≤ lim) (h2 : b ≤ lim) (k : K (.list ((List.range (b - a)).map fun (k : Nat) => D.int ((a + k : Nat) : Int)))) : rangeE [.int (a : Nat), .int (b : Nat)] K := by
  unfold rangeE
  refine ⟨⟨by decide, h1, h2, by decide⟩, ?_⟩
  rw [rangeL_up, show ((b : Int) - (a : Int)).toNat = b - a from Int.toNat_sub b a]
  exact k
theorem zip_map {α β : Type} (g : α → D) (h : β → D) : ∀ (xs : List α) (ys : List β), zipL (xs.map g) (ys.map h) = (xs.zip ys).map fun x => D.tup [g x.1, h x.2]
  | [], _ => rfl
  | _ :: _, [] => rfl
  | x :: xs, y :: ys => congrArg (D.tup [g x, h y] :: ·) (zip_map g h xs ys)
end
theorem nat63 {n : Nat} (h : n < 1000000) : (n : Int).natAbs < 2 ^ 63 := Nat.lt_of_lt_of_le h (by decide)
theorem lim_lt {n : Nat} (h : n < 100000) : n < lim := h

noncomputable def roomF (cs : List Int) : Int := cs.foldl (fun a c => a * 2 - c) 1
theorem roomF_snoc (pre : List Int) (d : Int) : roomF (pre ++ [d]) = roomF pre * 2 - d := List.foldl_append ..
section
variable {r : Nat} {p : Pool} {Φ : Bool → D → Pool → Prop} {ε : Pool → Prop}
theorem eval_room (hr : 0 < r) (cs : List Int) (h : cs.length ≤ lim) (k : Φ false (.int (roomF (cs.drop 1))) p) : lev r 1 [.list (dI cs)] p Φ ε := by
  refine lev_of (f := 1) rfl hr (And.intro ⟨nofun, dI_le h⟩ ?_)
  rw [show pickD (dI cs) (some 1) none none = (cs.drop 1).map D.int by rw [List.map_drop]; exact pick_drop _ 1]
  refine forW_inv (fun pre x => [.frz (.list (dI cs)), .frz (.int (roomF pre)), x]) (fun _ _ => p) (fun _ _ => True) .un trivial (fun pre d post e x _ N kn => And.intro (.inr (by decide)) ?_) fun _ _ => k
  have h := kn (.frz (.int d)) trivial
  rw [roomF_snoc] at h
  exact h
end
end Mini
end
section -- F2
namespace Mini
open PySem

/-- how many lengths are j, for each j -/
noncomputable def cntF (L : Nat) (ls : List Nat) : List Nat := (List.range (L + 1)).map fun j => ls.count j
theorem cntF_len (L : Nat) (ls : List Nat) : (cntF L ls).length = L + 1 := by unfold cntF; rw [List.length_map, List.length_range]
theorem cntF_nil (L : Nat) : List.replicate ((L : Int) + 1).toNat (D.int 0) = dN (cntF L []) := by
  unfold dN cntF
  rw [List.map_map, show ((L : Int) + 1).toNat = L + 1 from rfl, ← List.length_range (n := L + 1), ← List.map_const', List.length_range]; rfl
theorem cntF_at {L : Nat} {ls : List Nat} {i : Nat} (h : i < (cntF L ls).length) : (cntF L ls)[i] = ls.count i := by
  unfold cntF at h ⊢
  rw [List.getElem_map, List.getElem_range]
theorem cntF_snoc (L d : Nat) (pre : List Nat) : (cntF L pre).set d (pre.count d + 1) = cntF L (pre ++ [d]) := by
  apply List.ext_getElem
  · rw [List.length_set, cntF_len, cntF_len]
  · intro i h1 h2
    rw [List.getElem_set, cntF_at, cntF_at, List.count_append, List.count_singleton]
    by_cases e : d = i
    · rw [if_pos e, e, beq_self_eq_true]; rfl
    · rw [if_neg e, if_neg (by rw [beq_iff_eq]; exact e)]; rfl
section
variable {r : Nat} {p : Pool} {Φ : Bool → D → Pool → Prop} {ε : Pool → Prop}
theorem eval_counts (hr : 0 < r) (ls : List Nat) {L : Nat} (h : ls.length ≤ lim) (hL : L < 100000) (hl : ∀ l ∈ ls, l ≤ L) (k : Φ false (.list (dN (cntF L ls))) p) : lev r 0 [.list (dN ls), .int (L : Nat)] p Φ ε := by
  refine lev_of (f := 0) rfl hr (And.intro ⟨Int.le_add_one (Int.natCast_nonneg L), Int.ofNat_le.mpr hL⟩ ?_)
  rw [cntF_nil]
  refine forW_inv (fun pre x => [.frz (.list (dN ls)), .frz (.int (L : Nat)), .own (dN (cntF L pre)), x]) (fun _ _ => p) (fun _ _ => True) .un trivial (fun pre d post e x _ N kn => ?_) fun _ _ => k
  have hd : d ≤ L := hl d (by rw [e]; exact List.mem_append_right _ List.mem_cons_self)
  have hd2 : d < (cntF L pre).length := by rw [cntF_len]; exact Nat.lt_succ_of_le hd
  have hd3 : d < 1000000 := Nat.lt_of_le_of_lt hd (Nat.lt_of_lt_of_le hL (by decide))
  refine brT (decide_eq_true (Int.natCast_nonneg d)) (brF (congrArg not (decide_eq_true (Int.ofNat_le.mpr hd))) (idx_N hd3 hd2 (set_N hd3 hd2 ?_)))
  have h := kn (.frz (.int d)) trivial
  rw [← cntF_snoc, ← cntF_at hd2, ← dN_set] at h
  exact h

end
/-- the positive counts, each with its place -/
noncomputable def usedP (cs : List Int) : List (Int × Int) := (cs.zipIdx.filter fun x => decide (0 < x.1)).map fun x => (x.1, (x.2 : Int))
theorem usedP_app (cs : List Int) (c : Int) : usedP (cs ++ [c]) = usedP cs ++ (if 0 < c then [(c, (cs.length : Int))] else []) := by
  unfold usedP
  rw [List.zipIdx_append, List.filter_append, List.map_append, Nat.zero_add]
  congr 1
  by_cases h : 0 < c
  · rw [if_pos h, show List.filter (fun x : Int × Nat => decide (0 < x.1)) ([c].zipIdx cs.length) = [(c, cs.length)] from List.filter_cons_of_pos (decide_eq_true h)]; rfl
  · rw [if_neg h, show List.filter (fun x : Int × Nat => decide (0 < x.1)) ([c].zipIdx cs.length) = [] from List.filter_cons_of_neg (by rw [decide_eq_true_iff]; exact h)]; rfl
theorem zipIdx_nd : ∀ (cs : List Int) (k : Nat), (cs.zipIdx k).Pairwise fun a b => a.2 ≠ b.2
  | [], _ => .nil
  | _ :: cs, k => .cons (fun b hb => Nat.ne_of_lt (List.le_snd_of_mem_zipIdx hb)) (zipIdx_nd cs (k + 1))
theorem usedP_nd (cs : List Int) : (usedP cs).Nodup := List.pairwise_map.mpr (((zipIdx_nd cs 0).filter _).imp fun h e => h (Int.ofNat.inj (congrArg Prod.snd e)))
theorem usedP_len (cs : List Int) : (usedP cs).length ≤ cs.length := by
  unfold usedP
  rw [List.length_map]
  exact Nat.le_trans (List.length_filter_le ..) (Nat.le_of_eq List.length_zipIdx)
theorem mem_snoc {α : Type} {p : α → Prop} {l : List α} {x : α} (h : ∀ y ∈ l, p y) (hx : p x) : ∀ y ∈ l ++ [x], p y := fun y hy => (List.mem_append.mp hy).elim (h y) fun q => List.mem_singleton.mp q ▸ hx
theorem mem_mid {α : Type} {pre post : List α} {x : α} {l : List α} (e : l = pre ++ x :: post) : x ∈ l := by rw [e]; exact List.mem_append_right _ List.mem_cons_self
theorem len_mid {α : Type} {pre post : List α} {x : α} {l : List α} (e : l = pre ++ x :: post) : pre.length < l.length := by rw [e, List.length_append]; exact Nat.lt_add_of_pos_right (Nat.succ_pos _)
theorem get_mid {α : Type} {pre post : List α} {x : α} {l : List α} (e : l = pre ++ x :: post) : l[pre.length]? = some x := by rw [e, List.getElem?_append_right (Nat.le_refl _), Nat.sub_self]; rfl
theorem fits_i {i : Int} (h : i.natAbs < 10 ^ 10) : fitsText (.frz (.int i)) = true := decide_eq_true h
theorem all1 {α : Type} {f : α → Bool} {x : α} (h : f x = true) : [x].all f = true := by rw [List.all_cons, h]; rfl
section
variable {r : Nat} {p : Pool} {Φ : Bool → D → Pool → Prop} {ε : Pool → Prop}
theorem eval_used (hr : 0 < r) (cs : List Int) (h : cs.length < 64) (hc : ∀ c ∈ cs, c < 0 → c.natAbs < 10 ^ 10) (k : (∀ c ∈ cs, 0 ≤ c) → Φ true (.list ((isort leP (usedP cs)).map pairD)) p) (e : (∃ c ∈ cs, c < 0) → ε p) : lev r 3 [.list (dI cs)] p Φ ε := by
  refine lev_of (f := 3) rfl hr (And.intro (Nat.zero_le _) (And.intro (dI_le (Nat.le_trans (Nat.le_of_lt h) (by decide))) ?_))
  refine forE_inv (fun pre s => [.frz (.list (dI cs)), .own ((usedP pre).map pairD), s.1, s.2]) (fun _ _ => p) (fun pre _ => ∀ c ∈ pre, 0 ≤ c) ((.un, .un) : Slot × Slot) (fun _ h => (List.not_mem_nil h).elim) ?_ ?_
  · intro pre d post he s hp N kn
    refine And.intro rfl (brD (fun h0 => ?_) fun h0 => ?_)
    · exact And.intro (all1 (fits_i (hc d (mem_mid he) h0))) (e ⟨d, mem_mid he, h0⟩)
    · have hp2 := mem_snoc hp (Int.not_lt.mp h0)
      refine brD (fun h1 => ?_) fun h1 => ?_
      · refine And.intro (Nat.le_of_ble_eq_true rfl) (And.intro (lim_lt ?_) ?_)
        · rw [List.length_map]; exact Nat.lt_of_le_of_lt (Nat.le_trans (usedP_len pre) (Nat.le_of_lt (len_mid he))) (Nat.lt_trans h (by decide))
        · have h := kn (.frz (.int (pre.length : Nat)), .frz (.int d)) hp2
          rw [usedP_app, if_pos h1, List.map_append] at h
          exact h
      · have h := kn (.frz (.int (pre.length : Nat)), .frz (.int d)) hp2
        rw [usedP_app, if_neg h1, List.append_nil] at h
        exact h
  · exact fun s hp => Or.inr ⟨usedP cs, rfl, Nat.lt_of_le_of_lt (usedP_len cs) h, usedP_nd cs, k hp⟩
end
end Mini
end
section -- F3
namespace Mini
open PySem Mk

theorem zip_snoc {α β : Type} {x : β} : ∀ {a : List α} {b : List β} (h : b.length < a.length), a.zip (b ++ [x]) = a.zip b ++ [(a[b.length], x)]
  | [], _, h => absurd h (Nat.not_lt_zero _)
  | _ :: _, [], _ => congrArg (_ :: ·) List.zip_nil_right
  | _ :: a, _ :: b, h => congrArg (_ :: ·) (zip_snoc (a := a) (b := b) (Nat.lt_of_succ_lt_succ h))
noncomputable def costZ : List (Int × Nat) → Int
  | [] => 0
  | x :: r => x.1 * (x.2 : Int) + costZ r
theorem costZ_snoc (x : Int × Nat) : ∀ a : List (Int × Nat), costZ (a ++ [x]) = costZ a + x.1 * (x.2 : Int)
  | [] => by show x.1 * (x.2 : Int) + 0 = 0 + _; rw [Int.add_zero, Int.zero_add]
  | y :: a => by show _ + costZ (a ++ [x]) = _ + costZ a + _; rw [costZ_snoc x a, Int.add_assoc]
theorem cost_zip : ∀ (cs : List Int) (ls : List Nat), cost cs ls = costZ (cs.zip ls)
  | [], [] => rfl
  | [], _ :: _ => rfl
  | _ :: _, [] => rfl
  | c :: cs, l :: ls => congrArg (c * (l : Int) + ·) (cost_zip cs ls)
theorem cost_snoc (d : Int) : ∀ (cs : List Int) (ls : List Nat), cost (cs ++ [d]) ls = cost cs ls + d * ((ls[cs.length]?.getD 0 : Nat) : Int)
  | [], [] => by show (0 : Int) = 0 + d * 0; rw [Int.mul_zero]; rfl
  | [], l :: _ => by show d * (l : Int) + 0 = 0 + d * (l : Int); rw [Int.add_zero, Int.zero_add]
  | _ :: _, [] => by show (0 : Int) = 0 + d * 0; rw [Int.mul_zero]; rfl
  | _ :: cs, _ :: ls => by show _ + cost (cs ++ [d]) ls = _ + cost cs ls + _; rw [cost_snoc d cs ls, Int.add_assoc]; rfl
noncomputable def plF (f : List Nat) (ps : List ((Int × Int) × Nat)) : List Nat := ps.foldl (fun f x => f.set x.1.2.toNat x.2) f
theorem plF_len : ∀ (ps : List ((Int × Int) × Nat)) (f : List Nat), (plF f ps).length = f.length
  | [], _ => rfl
  | x :: ps, f => (plF_len ps (f.set x.1.2.toNat x.2)).trans List.length_set
theorem plF_snoc (f : List Nat) (ps : List ((Int × Int) × Nat)) (x : (Int × Int) × Nat) : plF f (ps ++ [x]) = (plF f ps).set x.1.2.toNat x.2 := List.foldl_append ..
section
variable {r : Nat} {p : Pool} {Φ : Bool → D → Pool → Prop} {ε : Pool → Prop}
theorem eval_total (hr : 0 < r) (cs : List Int) (ls : List Nat) (h1 : cs.length ≤ lim) (h2 : ls.length ≤ lim) (hl : ∀ l ∈ ls, l < 1000000) (k : Φ false (.int (cost cs ls)) p) : lev r 15 [.list (dI cs), .list (dN ls)] p Φ ε := by
  refine lev_of (f := 15) rfl hr (And.intro ⟨dI_le h1, dN_le h2⟩ ?_)
  rw [show zipL (dI cs) (dN ls) = (cs.zip ls).map fun x => D.tup [.int x.1, .int (x.2 : Nat)] from zip_map ..]
  refine forW_inv (fun pre s => [.frz (.list (dI cs)), .frz (.list (dN ls)), .frz (.int (costZ pre)), s.1, s.2]) (fun _ _ => p) (fun _ _ => True) ((.un, .un) : Slot × Slot) trivial ?_ ?_
  · intro pre d post e s _ N kn
    refine And.intro rfl (And.intro (.inr (nat63 (hl d.2 (List.of_mem_zip (mem_mid e)).2))) ?_)
    have h := kn (.frz (.int d.1), .frz (.int (d.2 : Nat))) trivial
    rw [costZ_snoc] at h
    exact h
  · exact fun s _ => by rw [cost_zip] at k; exact k
/-- every used place below has a length -/
noncomputable def Told (cs : List Int) (ls : List Nat) (n : Nat) : Prop := ∀ i (h : i < cs.length), i < n → 0 < cs[i] → i < ls.length ∧ ls[i]?.getD 0 ≠ 0
theorem Told.snoc {cs : List Int} {ls : List Nat} {n : Nat} {d : Int} (h : Told cs ls n) (hd : cs[n]? = some d) (h1 : 0 < d → n < ls.length ∧ ls[n]?.getD 0 ≠ 0) : Told cs ls (n + 1) := fun i hi hn hp =>
  (Nat.lt_or_eq_of_le (Nat.le_of_lt_succ hn)).elim (fun q => h i hi q hp) fun q => by
    subst q
    rw [List.getElem?_eq_getElem hi] at hd
    cases hd
    exact h1 hp
theorem eval_bits (hr : 0 < r) (cs : List Int) (ls : List Nat) (h1 : cs.length ≤ lim) (h2 : ls.length ≤ lim) (hl : ∀ l ∈ ls, l < 1000000) (hc : ∀ c ∈ cs, 0 ≤ c) (k : Told cs ls cs.length → Φ false (.int (cost cs ls)) p)
    (e : (∃ i, ∃ (h : i < cs.length), 0 < cs[i] ∧ ls[i]?.getD 0 = 0) → ε p) : lev r 4 [.list (dI cs), .list (dN ls)] p Φ ε := by
  refine lev_of (f := 4) rfl hr (And.intro (dI_le h1) ?_)
  refine forE_inv (fun pre s => [.frz (.list (dI cs)), .frz (.list (dN ls)), .frz (.int (cost pre ls)), s.1, s.2]) (fun _ _ => p) (fun pre _ => Told cs ls pre.length) ((.un, .un) : Slot × Slot) (fun _ _ h => absurd h (Nat.not_lt_zero _)) ?_ ?_
  · intro pre d post he s hp N kn
    have hlen := len_mid he
    have hget := get_mid he
    have hb : pre.length < 100000 := Nat.lt_of_lt_of_le hlen h1
    have hb6 : pre.length < 1000000 := Nat.lt_trans hb (by decide)
    have bad : 0 < d → ls[pre.length]?.getD 0 = 0 → fitsText (.frz (.int (pre.length : Nat))) = true ∧ ε p := fun h0 hz => ⟨fits_i (Nat.lt_trans hb (by decide)), e ⟨pre.length, hlen, by rw [List.getElem?_eq_getElem hlen] at hget; cases hget; exact h0, hz⟩⟩
    have done := fun h => kn (.frz (.int (pre.length : Nat)), .frz (.int d)) (len_snoc pre d ▸ hp.snoc hget h)
    refine And.intro rfl (brD (fun h0 => And.intro (dN_le h2) (brD (fun h3 => brT rfl ?_) fun h3 => ?_)) fun h0 => ?_)
    · have b := bad h0 (by rw [List.getElem?_eq_none (Int.ofNat_le.mp (dN_len ls ▸ h3))]; rfl)
      exact And.intro (all1 b.1) b.2
    · have h4 : pre.length < ls.length := Int.ofNat_lt.mp (dN_len ls ▸ Int.not_le.mp h3)
      have hg : ls[pre.length]?.getD 0 = ls[pre.length] := by rw [List.getElem?_eq_getElem h4]; rfl
      refine idx_N hb6 h4 (brD (fun h5 => ?_) fun h5 => ?_)
      · have b := bad h0 (hg.trans (Int.ofNat.inj h5))
        exact And.intro (all1 b.1) b.2
      · refine idx_N hb6 h4 (And.intro (.inr (nat63 (hl _ (List.getElem_mem _)))) ?_)
        have h := done fun _ => ⟨h4, fun q => h5 (congrArg Int.ofNat (hg.symm.trans q))⟩
        rw [cost_snoc, hg] at h
        exact h
    · have h := done fun h => absurd h h0
      rw [cost_snoc, show d * _ = 0 by rw [Int.le_antisymm (Int.not_lt.mp h0) (hc d (mem_mid he)), Int.zero_mul], Int.add_zero] at h
      exact h
  · exact fun s hp => k hp
theorem eval_placed (hr : 0 < r) (n : Nat) (rows : List (Int × Int)) (ds : List Nat) (hn : n ≤ 100000) (hd : ds.length = rows.length) (h3 : ds.length ≤ lim) (hm : ∀ r ∈ rows, ∃ i : Nat, r.2 = (i : Int) ∧ i < n) (k : Φ false (.list (dN (plF (List.replicate n 0) (rows.zip ds)))) p) :
    lev r 5 [.int (n : Nat), .list (rows.map pairD), .list (dN ds)] p Φ ε := by
  refine lev_of (f := 5) rfl hr (And.intro ⟨Int.natCast_nonneg n, Int.ofNat_le.mpr hn⟩ (And.intro (dN_le h3) ?_))
  rw [show List.replicate ((n : Int)).toNat (D.int 0) = dN (plF (List.replicate n 0) (rows.zip [])) by rw [List.zip_nil_right]; exact (List.map_replicate (f := fun n : Nat => D.int n) (n := n) (a := 0)).symm]
  refine forE_inv (fun pre s => [.frz (.int (n : Nat)), .frz (.list (rows.map pairD)), .frz (.list (dN ds)), .own (dN (plF (List.replicate n 0) (rows.zip pre))), s.1, s.2]) (fun _ _ => p) (fun _ _ => True) ((.un, .un) : Slot × Slot) trivial ?_ ?_
  rotate_left
  · exact fun s _ => k
  intro pre d post e s _ N kn
  have hlen : pre.length < rows.length := hd ▸ len_mid e
  obtain ⟨i, hi, hin⟩ := hm _ (List.getElem_mem hlen)
  have hb : pre.length < 1000000 := Nat.lt_of_lt_of_le (len_mid e) (Nat.le_trans h3 (by decide))
  refine And.intro rfl (idx_at (d := pairD rows[pre.length]) hb (by rw [List.getElem?_map, List.getElem?_eq_getElem hlen]; rfl) (idx_at (i := 1) (d := .int (rows[pre.length]).2) (by decide) rfl ?_))
  show setW _ 3 (.int (rows[pre.length]).2) _ _ _
  rw [hi]
  refine set_N (Nat.lt_of_lt_of_le hin (Nat.le_trans hn (by decide))) (by rw [plF_len, List.length_replicate]; exact hin) ?_
  have h := kn (.frz (.int (pre.length : Nat)), .frz (.int (d : Nat))) trivial
  rw [zip_snoc hlen, plF_snoc, hi, ← dN_set] at h
  exact h
theorem eval_croom (hr : 0 < r) (m L : Nat) (hL : 1 ≤ L) (hL2 : L ≤ 1000) (hm : m < 10 ^ 10) (k : m ≤ 2 ^ L → ∀ b d, Φ b d p) (e : 2 ^ L < m → ε p) : lev r 8 [.int (m : Nat), .int (L : Nat)] p Φ ε := by
  have e1 : (if (0 : Int) < (L : Int) then (L : Int) else 0) = (L : Int) := if_pos (Int.ofNat_lt.mpr hL)
  have pw : ((1 : Int) * 2 ^ ((L : Int)).toNat) = ((2 ^ L : Nat) : Int) := by rw [Int.one_mul]; exact (Int.natCast_pow 2 L).symm
  have main : brW (decide (((1 : Int) * 2 ^ ((L : Int)).toNat) < (m : Int))) (([0, 1].all fun x => fitsText (sg [.frz (.int (m : Nat)), .frz (.int (L : Nat))] x)) = true ∧ ε p) (Φ false .none p) := by
    rw [pw]
    refine brD (fun h => ⟨?_, e (Int.ofNat_lt.mp h)⟩) fun h => k (Int.ofNat_le.mp (Int.not_lt.mp h)) _ _
    show (fitsText (.frz (.int (m : Nat))) && (fitsText (.frz (.int (L : Nat))) && true)) = true
    rw [fits_i (i := (m : Int)) hm, fits_i (i := (L : Int)) (Nat.lt_of_le_of_lt hL2 (by decide))]; rfl
  have shl : (0 ≤ (L : Int) ∧ (L : Int) ≤ 1000 ∧ (1 : Int).natAbs < 2 ^ 64) := ⟨Int.natCast_nonneg L, Int.ofNat_le.mpr hL2, by decide⟩
  have go : brW false True True := ⟨fun _ => trivial, fun _ => trivial⟩
  refine lev_of (f := 8) rfl hr (brD (fun h0 => brF (decide_eq_false (Int.not_lt.mpr (Int.ofNat_le.mpr hL))) ?_) fun h0 => brF rfl ?_)
  · show ((0 ≤ (if (0 : Int) < (L : Int) then (L : Int) else 0) ∧ _) ∧ _)
    rw [e1]
    exact And.intro shl main
  · show ((0 ≤ (if (0 : Int) < (L : Int) then (L : Int) else 0) ∧ _) ∧ _)
    rw [e1]
    exact And.intro shl main
end
end Mini
end
section -- F4
namespace Mini
open PySem Mk

noncomputable def dB (l : List Bool) : List D := l.map D.bool
noncomputable def flags (r : List (Int × Bool)) : List Bool := r.map (·.2)
theorem mrg_T {w ps : List Int} {i j : Nat} (hi : i < w.length) (hj : ps.length ≤ j ∨ ∃ h : j < ps.length, w[i] ≤ ps[j]) : mrg (w.drop i) (ps.drop j) = (w[i], true) :: mrg (w.drop (i + 1)) (ps.drop j) := by
  rw [List.drop_eq_getElem_cons hi]
  rcases hj with hj | ⟨hj, h⟩
  · rw [List.drop_eq_nil_of_le hj, mrg]
  · rw [List.drop_eq_getElem_cons hj, mrg, if_pos h]
theorem mrg_F {w ps : List Int} {i j : Nat} (hj : j < ps.length) (hi : w.length ≤ i ∨ ∃ h : i < w.length, ¬ w[i] ≤ ps[j]) : mrg (w.drop i) (ps.drop j) = (ps[j], false) :: mrg (w.drop i) (ps.drop (j + 1)) := by
  rw [List.drop_eq_getElem_cons hj]
  rcases hi with hi | ⟨hi, h⟩
  · rw [List.drop_eq_nil_of_le hi, mrg, mrg]; rfl
  · rw [List.drop_eq_getElem_cons hi, mrg, if_neg h]
/-- where merged stands -/
structure MI (w ps : List Int) (k i j : Nat) (r : List (Int × Bool)) : Prop where
  hi : i ≤ w.length
  hj : j ≤ ps.length
  hr : r ++ mrg (w.drop i) (ps.drop j) = mrg w ps
  hk : k + i + j = w.length + ps.length
  hl : r.length = i + j
theorem nums_snoc (r : List (Int × Bool)) (x : Int × Bool) : dI (nums (r ++ [x])) = dI (nums r) ++ [.int x.1] := by unfold dI nums; rw [List.map_append, List.map_append]; rfl
theorem flags_snoc (r : List (Int × Bool)) (x : Int × Bool) : dB (flags (r ++ [x])) = dB (flags r) ++ [.bool x.2] := by unfold dB flags; rw [List.map_append, List.map_append]; rfl
theorem MI.T {w ps : List Int} {k i j : Nat} {r : List (Int × Bool)} (h : MI w ps k i j r) (hi : i < w.length) (hj : ps.length ≤ j ∨ ∃ h : j < ps.length, w[i] ≤ ps[j]) : ∃ k', k = k' + 1 ∧ MI w ps k' (i + 1) j (r ++ [(w[i], true)]) := by
  have h1 := h.hk
  have h2 := h.hj
  refine ⟨k - 1, by clear hj; omega, hi, h2, by rw [List.append_assoc, ← h.hr, mrg_T hi hj]; rfl, by clear hj; omega, by rw [len_snoc, h.hl]; exact Nat.add_right_comm i j 1⟩
theorem MI.F {w ps : List Int} {k i j : Nat} {r : List (Int × Bool)} (h : MI w ps k i j r) (hj : j < ps.length) (hi : w.length ≤ i ∨ ∃ h : i < w.length, ¬ w[i] ≤ ps[j]) : ∃ k', k = k' + 1 ∧ MI w ps k' i (j + 1) (r ++ [(ps[j], false)]) := by
  have h1 := h.hk
  have h2 := h.hi
  refine ⟨k - 1, by clear hi; omega, h2, hj, by rw [List.append_assoc, ← h.hr, mrg_F hj hi]; rfl, by clear hi; omega, by rw [len_snoc, h.hl]; rfl⟩
theorem lt_len {l : List Int} {i : Nat} : ((i : Int) < ((dI l).length : Int)) ↔ i < l.length := by rw [dI_len]; exact Int.ofNat_lt
theorem eq_len {l : List Int} {i : Nat} : ((i : Int) = ((dI l).length : Int)) ↔ i = l.length := by rw [dI_len]; exact Int.ofNat_inj
noncomputable def mgB2 : St := .cons (.app [] 3 (.var 6)) (.cons (.ite [] (.var 6) (.cons (.app [] 2 (.subv 0 (.var 4))) (.cons (.aug [] 4 .add (.int 1)) .nil)) (.cons (.app [] 2 (.subv 1 (.var 5))) (.cons (.aug [] 5 .add (.int 1)) .nil))) .nil)
noncomputable def mgE : Ex := .or (.cmp .eq (.var 5) (.lenv 1)) (.and (.cmp .lt (.var 4) (.lenv 0)) (.cmp .le (.subv 0 (.var 4)) (.subv 1 (.var 5))))
noncomputable def mgS (w ps : List Int) (i j : Nat) (r : List (Int × Bool)) (x : Slot) : List Slot := [.frz (.list (dI w)), .frz (.list (dI ps)), .own (dI (nums r)), .own (dB (flags r)), .frz (.int (i : Nat)), .frz (.int (j : Nat)), x]
section
variable {r : Nat} {p : Pool} {Φ : Bool → D → Pool → Prop} {ε : Pool → Prop} {C : Calls} {w ps : List Int} {k i j : Nat} {rr : List (Int × Bool)} {x : Slot} {Q : Fl → List Slot → Pool → Prop}
theorem mg_big {n : Nat} (h : w.length + ps.length < 100) (q : n ≤ w.length + ps.length) : n < lim := Nat.lt_trans (Nat.lt_of_le_of_lt q h) (by decide)
theorem mg_turn (h : w.length + ps.length < 100) (hI : MI w ps k i j rr) (hx : i < w.length ∨ j < ps.length) (kn : ∀ k' i' j' r' b, k = k' + 1 → MI w ps k' i' j' r' → Q .next (mgS w ps i' j' r' (.frz (.bool b))) p) :
    ex C (.cons (.assign [] 6 mgE) mgB2) (mgS w ps i j rr x) p Q ε := by
  have hlen : rr.length < lim := mg_big h (hI.hl ▸ Nat.add_le_add hI.hi hI.hj)
  have g2 : (dI (nums rr)).length < lim := by rw [dI_len, nums_len]; exact hlen
  have g3 : (dB (flags rr)).length < lim := by unfold dB flags; rw [List.length_map, List.length_map]; exact hlen
  have b1 : i < w.length → i < 1000000 := fun q => Nat.lt_trans (mg_big h (Nat.le_trans (Nat.le_of_lt q) (Nat.le_add_right _ _))) (by decide)
  have b2 : j < ps.length → j < 1000000 := fun q => Nat.lt_trans (mg_big h (Nat.le_trans (Nat.le_of_lt q) (Nat.le_add_left _ _))) (by decide)
  have l1 : (dI w).length ≤ lim := dI_le (Nat.le_of_lt (mg_big h (Nat.le_add_right _ _)))
  have l2 : (dI ps).length ≤ lim := dI_le (Nat.le_of_lt (mg_big h (Nat.le_add_left _ _)))
  have ct : ∀ hi : i < w.length, (ps.length ≤ j ∨ ∃ h : j < ps.length, w[i] ≤ ps[j]) → ex C mgB2 (mgS w ps i j rr (.frz (.bool true))) p Q ε := fun hi hc => by
    obtain ⟨k2, e, hI2⟩ := hI.T hi hc
    have h := kn k2 (i + 1) j (rr ++ [(w[i], true)]) true e hI2
    unfold mgS at h
    rw [nums_snoc, flags_snoc] at h
    exact And.intro g3 (brT rfl (idx_I (b1 hi) hi (And.intro g2 h)))
  have cf : ∀ hj : j < ps.length, (w.length ≤ i ∨ ∃ h : i < w.length, ¬ w[i] ≤ ps[j]) → ex C mgB2 (mgS w ps i j rr (.frz (.bool false))) p Q ε := fun hj hc => by
    obtain ⟨k2, e, hI2⟩ := hI.F hj hc
    have h := kn k2 i (j + 1) (rr ++ [(ps[j], false)]) false e hI2
    unfold mgS at h
    rw [nums_snoc, flags_snoc] at h
    exact And.intro g3 (brF rfl (idx_I (b2 hj) hj (And.intro g2 h)))
  refine And.intro l2 (brD (fun q => ct (hx.resolve_right fun w => Nat.ne_of_lt w (eq_len.mp q)) (.inl (Nat.le_of_eq (eq_len.mp q).symm))) fun q => ?_)
  have hj := Nat.lt_of_le_of_ne hI.hj fun w => q (eq_len.mpr w)
  refine And.intro l1 (brD (fun q1 => idx_I (b1 (lt_len.mp q1)) (lt_len.mp q1) (idx_I (b2 hj) hj ?_)) fun q1 => cf hj (.inl (Nat.le_of_not_lt fun w => q1 (lt_len.mpr w))))
  by_cases hc : w[i]'(lt_len.mp q1) ≤ ps[j]
  · show ex C mgB2 (mgS w ps i j rr (.frz (.bool (decide _)))) p Q ε
    rw [decide_eq_true hc]; exact ct (lt_len.mp q1) (.inr ⟨hj, hc⟩)
  · show ex C mgB2 (mgS w ps i j rr (.frz (.bool (decide _)))) p Q ε
    rw [decide_eq_false hc]; exact cf hj (.inr ⟨lt_len.mp q1, hc⟩)
theorem exWhile {c : Ex} {b rs : St} {S : Type} (mk : S → List Slot) (pl : S → Pool) (I : Nat → S → Prop) (k : Nat) (s : S) (hk : k < 100) (h : I k s) {sl : List Slot} (e : sl = mk s) (e2 : p = pl s)
    (hs : ∀ k s, I k s → ∀ N : List Slot → Pool → Prop, (∀ k' s, k = k' + 1 → I k' s → N (mk s) (pl s)) → ev C c (mk s) (pl s) (fun _ d q => asB d fun t => brW t (ex C b (mk s) q (fun fl t q => loopW fl (N t q) fun a b => Q (.ret a b) t q) ε) (ex C rs (mk s) q Q ε)) ε) :
    ex C (.cons (.whil c b) rs) sl p Q ε := by
  subst e e2; exact whileW_inv (n := 100) mk pl I k s hk h hs
theorem eval_merged (hr : 0 < r) (w ps : List Int) (h : w.length + ps.length < 100) (k : Φ false (.tup [.list (dI (nums (mrg w ps))), .list (dB (flags (mrg w ps)))]) p) : lev r 9 [.list (dI w), .list (dI ps)] p Φ ε := by
  refine lev_of (f := 9) rfl hr (And.intro (Nat.zero_le _) (And.intro (Nat.zero_le _) (And.intro rfl ?_)))
  show ex (lev (rank 9)) _ _ p _ ε
  refine exWhile (fun s => mgS w ps s.1 s.2.1 s.2.2.1 s.2.2.2) (fun _ => p) (fun k s => MI w ps k s.1 s.2.1 s.2.2.1) (w.length + ps.length) ((0, 0, [], .un) : Nat × Nat × List (Int × Bool) × Slot) h ⟨Nat.zero_le _, Nat.zero_le _, rfl, rfl, rfl⟩ rfl rfl ?_
  intro k' s hI N kn
  have turn := fun hx => mg_turn (C := lev (rank 9)) (x := s.2.2.2) (Q := fun fl t q => loopW fl (N t q) fun a b => endW (.ret a b) fun b d => Φ b d q) (p := p) (ε := ε) h hI hx fun k' i' j' r' b e hI => kn k' (i', j', r', .frz (.bool b)) e hI
  refine And.intro (dI_le (Nat.le_of_lt (mg_big h (Nat.le_add_right _ _)))) (brD (fun q => brT rfl (turn (.inl (lt_len.mp q)))) fun q => And.intro (dI_le (Nat.le_of_lt (mg_big h (Nat.le_add_left _ _)))) (brD (fun q2 => turn (.inr (lt_len.mp q2))) fun q2 => ?_))
  have e := hI.hr
  rw [List.drop_eq_nil_of_le (Nat.le_of_not_lt fun w => q (lt_len.mpr w)), List.drop_eq_nil_of_le (Nat.le_of_not_lt fun w => q2 (lt_len.mpr w)), mrg, List.map_nil, List.append_nil] at e
  rw [← e] at k
  exact And.intro (Nat.le_of_ble_eq_true rfl) k
end
end Mini
end
section -- F5
namespace Mini
open PySem Mk

theorem ex_fz1 {C : Calls} {x y : Nat} {e : Ex} {r : St} {sl sl' : List Slot} {p : Pool} {Q : Fl → List Slot → Pool → Prop} {E : Pool → Prop} (h : freeze1 sl x = sl') (k : ex C (.cons (.assign [] y e) r) sl' p Q E) : ex C (.cons (.assign [x] y e) r) sl p Q E := by
  subst h; exact k
theorem prs_map : ∀ r : List Int, prs r = (List.range (r.length / 2)).map fun k => r.getD (2 * k) 0 + r.getD (2 * k + 1) 0
  | [] => rfl
  | [_] => by rw [List.length_singleton]; rfl
  | a :: b :: r => by
    have e : (a :: b :: r).length / 2 = r.length / 2 + 1 := Nat.add_div_right r.length (Nat.succ_pos 1)
    rw [e, List.range_succ_eq_map, List.map_cons, List.map_map, prs, prs_map r]; rfl
theorem range_2 {K : D → Prop} (n : Nat) (h : n ≤ lim) (k : K (.list ((List.range (n / 2)).map fun (k : Nat) => D.int ((2 * k : Nat) : Int)))) : rangeE [.int 0, .int ((n : Int) - 1), .int 2] K := by
  unfold rangeE
  refine ⟨⟨by decide, by decide, by unfold lim at *; omega, by decide⟩, ?_⟩
  have : (Builtin.Range.rangeSize 0 ((n : Int) - 1) 2).toNat = n / 2 := by
    unfold Builtin.Range.rangeSize
    rw [if_pos (by decide)]
    split <;> omega
  unfold rangeL
  rw [this, show (fun k : Nat => D.int (0 + 2 * (k : Int))) = fun k : Nat => D.int ((2 * k : Nat) : Int) from funext fun k => congrArg D.int (Int.zero_add _)]
  exact k
theorem row_len_le (w : List Int) : ∀ k, (row w k).length ≤ 2 * w.length
  | 0 => Nat.zero_le _
  | k + 1 => by have := row_len w k; have := row_len_le w k; omega
theorem mrg_trues (w ps : List Int) : trues (mrg w ps) = w.length := by
  have h := mrg_take w ps (mrg w ps).length (Nat.le_refl _)
  rw [List.take_length] at h
  have e := mrg_len w ps
  omega
theorem trues_take (r : List (Int × Bool)) (m : Nat) : trues (r.take m) ≤ m ∧ trues (r.take m) ≤ trues r :=
  ⟨Nat.le_trans List.countP_le_length (List.length_take_le m r), (List.take_sublist m r).countP_le⟩
theorem bump_get : ∀ (j : Nat) (ds : List Nat), (Mk.bump j ds)[j]? = ds[j]?
  | 0, [] => rfl
  | 0, _ :: _ => rfl
  | j + 1, [] => rfl
  | j + 1, d :: ds => bump_get j ds
theorem bump_zero : ∀ ds : List Nat, Mk.bump 0 ds = ds
  | [] => rfl
  | _ :: _ => rfl
theorem bump_step : ∀ (j : Nat) (ds : List Nat) (h : j < ds.length), (Mk.bump j ds).set j (ds[j] + 1) = Mk.bump (j + 1) ds
  | 0, [], h => absurd h (Nat.not_lt_zero _)
  | 0, d :: ds, h => by rw [bump_zero, Mk.bump, bump_zero]; rfl
  | j + 1, [], h => absurd h (Nat.not_lt_zero _)
  | j + 1, d :: ds, h => congrArg ((d + 1) :: ·) (bump_step j ds (Nat.lt_of_succ_lt_succ h))

noncomputable def flagD (w : List Int) (i : Nat) : D := .list (dB (flags (row w (i + 1))))
theorem flag_rev (w : List Int) (L : Nat) : ((List.range L).map (flagD w)).reverse = (List.range L).map fun k => flagD w (L - 1 - k) := by
  rw [← List.map_reverse, ← rev_range, List.map_map]; rfl
noncomputable def pkS (w : List Int) (L : Nat) (l : List D) (s3 a b c : Slot) : List Slot := [.frz (.list (dI w)), .frz (.int (L : Nat)), .own l, s3, a, b, c, .un, .un, .un, .un, .un]
noncomputable def pkB1 : St := (.cons (.assign [3] 5 (.comp [0] false [none, some 3] (.bin .add (.subv 1 (.var 0)) (.subv 1 (.bin .add (.var 0) (.int 1)))) (.range (.cons (.int 0) (.cons (.bin .sub (.lenv 3) (.int 1)) (.cons (.int 2) .nil)))) (.bool true))) (.cons (.unp [5] [3, 6] (.call 9 (.cons (.var 0) (.cons (.var 5) .nil)))) (.cons (.app [] 2 (.var 6)) .nil)))
section
variable {r : Nat} {p : Pool} {Φ : Bool → D → Pool → Prop} {ε : Pool → Prop} {w : List Int} {L k : Nat} {Q : Fl → List Slot → Pool → Prop}
theorem pk_row (h30 : w.length ≤ 30) (hk : k < lim) {s3 a b c : Slot} (h3 : s3 = .own (dI (nums (row w k))) ∨ s3 = .frz (.list (dI (nums (row w k))))) (kn : ∀ b c, Q .next (pkS w L ((List.range (k + 1)).map (flagD w)) (.frz (.list (dI (nums (row w (k + 1)))))) a b c) p) :
    ex (lev 1) pkB1 (pkS w L ((List.range k).map (flagD w)) s3 a b c) p Q ε := by
  have hl : (nums (row w k)).length ≤ 60 := by rw [nums_len]; have := row_len_le w k; omega
  have hl2 : (dI (nums (row w k))).length ≤ lim := dI_le (Nat.le_trans hl (by decide))
  refine ex_fz1 (sl' := pkS w L ((List.range k).map (flagD w)) (.frz (.list (dI (nums (row w k))))) a b c) (by rcases h3 with rfl | rfl <;> rfl) ?_
  refine And.intro hl2 (range_2 _ hl2 ?_)
  refine (And.intro (by rw [List.length_map, List.length_range]; exact Nat.le_trans (Nat.div_le_self _ _) hl2) ?_)
  rw [dI_len]
  refine compW_all (fun j => .int ((nums (row w k)).getD (2 * j) 0 + (nums (row w k)).getD (2 * j + 1) 0)) (fun j hj acc N kn => And.intro (fun _ => ?_) nofun) ?_
  · have hj : 2 * j + 1 < (nums (row w k)).length := by have := List.mem_range.mp hj; omega
    have hj1 := Nat.lt_of_succ_lt hj
    refine idx_I (i := 2 * j) (by omega) hj1 (idx_I (i := 2 * j + 1) (by omega) hj ?_)
    rw [List.getD_eq_getElem?_getD, List.getD_eq_getElem?_getD, List.getElem?_eq_getElem hj, List.getElem?_eq_getElem hj1] at kn
    exact kn
  · rw [show (List.range ((nums (row w k)).length / 2)).map (fun j => D.int ((nums (row w k)).getD (2 * j) 0 + (nums (row w k)).getD (2 * j + 1) 0)) = dI (prs (nums (row w k))) by rw [prs_map]; unfold dI; rw [List.map_map]; rfl]
    refine eval_merged (Nat.succ_pos 0) w (prs (nums (row w k))) (by rw [prs_len]; omega) (And.intro rfl (And.intro (by rw [List.length_map, List.length_range]; exact hk) ?_))
    have h := kn (.frz (.list (dI (prs (nums (row w k)))))) (.frz (flagD w k))
    rw [List.range_succ, List.map_append] at h
    exact h

noncomputable def pkT (w : List Int) (L m : Nat) (ds : List Nat) (s3 a b c x y z : Slot) : List Slot := [.frz (.list (dI w)), .frz (.int (L : Nat)), .frz (.list ((List.range L).map (flagD w))), s3, a, b, c, .own (dN ds), .frz (.int (m : Nat)), x, y, z]
noncomputable def pkB2 : St := (.cons (.assign [] 9 (.int 0)) (.cons (.for_ [] [10] false (.slice (.var 6) .none (.var 8) .none) (.cons (.aug [] 9 .add (.bi .int (.cons (.var 10) .nil))) .nil)) (.cons (.for_ [] [11] false (.range (.cons (.var 9) .nil)) (.cons (.augS [] 7 (.var 11) .add (.int 1)) .nil)) (.cons (.assign [] 8 (.bin .mul (.int 2) (.bin .sub (.var 8) (.var 9)))) .nil))))
theorem pk_lap {f : List (Int × Bool)} {m : Nat} {ds : List Nat} {s3 a b x y z : Slot} (hf : f.length ≤ 100) (hd : ds.length ≤ 30) (ht : trues (f.take m) ≤ ds.length) (kn : ∀ y z, Q .next (pkT w L (2 * (m - trues (f.take m))) (Mk.bump (trues (f.take m)) ds) s3 a b (.frz (.list (dB (flags f)))) (.frz (.int (trues (f.take m) : Nat))) y z) p) :
    ex (lev 1) pkB2 (pkT w L m ds s3 a b (.frz (.list (dB (flags f)))) x y z) p Q ε := by
  have htm := (trues_take f m).1
  refine And.intro ⟨nofun, by unfold dB flags; rw [List.length_map, List.length_map]; exact Nat.le_trans hf (by decide)⟩ ?_
  rw [show pickD (dB (flags f)) none (some (m : Int)) none = ((f.take m).map (·.2)).map D.bool by rw [pick_take]; unfold dB flags; rw [List.map_take, List.map_take]]
  refine forW_inv (fun pre s => pkT w L m ds s3 a b (.frz (.list (dB (flags f)))) (.frz (.int (pre.countP id : Nat))) s z) (fun _ _ => p) (fun _ _ => True) y trivial (fun pre d post e s _ N kn => ?_) fun s _ => ?_
  · have h := kn (.frz (.bool d)) trivial
    rw [List.countP_append, show List.countP id [d] = if d = true then 1 else 0 from (List.countP_cons ..).trans (Nat.zero_add _)] at h
    cases d
    · exact h
    · exact h
  rw [show List.countP id ((f.take m).map (·.2)) = trues (f.take m) from List.countP_map ..]
  refine range_n (Nat.le_trans ht (Nat.le_trans hd (by decide))) ?_
  refine forR_inv (fun j u => pkT w L m (Mk.bump j ds) s3 a b (.frz (.list (dB (flags f)))) (.frz (.int (trues (f.take m) : Nat))) s u) (fun _ _ => p) (fun _ _ => True) z trivial (fun j hj u _ N kn => ?_) fun u _ => ?_
  · have hj3 := Nat.lt_of_lt_of_le hj ht
    have hj2 : j < (Mk.bump j ds).length := by rw [bump_len]; exact hj3
    have hb : j < 1000000 := by omega
    have hg : (Mk.bump j ds)[j] = ds[j] := by
      have := bump_get j ds
      rw [List.getElem?_eq_getElem hj2, List.getElem?_eq_getElem hj3] at this
      exact Option.some.inj this
    refine idx_N hb hj2 (set_N hb hj2 ?_)
    have h := kn (.frz (.int (j : Nat))) trivial
    rw [← bump_step j ds hj3, ← hg] at h
    unfold pkT at h
    rw [← dN_set] at h
    exact h
  · have h := kn s u
    unfold pkT at h
    rw [show ((2 * (m - trues (f.take m)) : Nat) : Int) = 2 * ((m : Int) - (trues (f.take m) : Nat)) by omega] at h
    exact And.intro (.inl (by decide)) h
theorem two_sub {n : Nat} (h : 1 ≤ n) : (2 * (n : Int) - 2) = ((2 * n - 2 : Nat) : Int) := by omega
theorem eval_pkg (hr : 1 < r) (w : List Int) (L : Nat) (hw : 1 ≤ w.length) (hw2 : w.length ≤ 30) (hL : L ≤ 1000) (k : Φ false (.list (dN (pkg w L))) p) : lev r 10 [.list (dI w), .int (L : Nat)] p Φ ε := by
  have hwl : w.length ≤ lim := Nat.le_trans hw2 (by decide)
  refine lev_of (f := 10) rfl hr (And.intro (Nat.zero_le _) (And.intro (Nat.zero_le _) (And.intro rfl (range_n (Nat.le_trans hL (by decide)) ?_))))
  refine forR_inv (fun k s => pkS w L ((List.range k).map (flagD w)) s.1 s.2.1 s.2.2.1 s.2.2.2) (fun _ _ => p) (fun k s => s.1 = .own (dI (nums (row w k))) ∨ s.1 = .frz (.list (dI (nums (row w k))))) ((.own (dI (nums (row w 0))), .un, .un, .un) : Slot × Slot × Slot × Slot) (.inl rfl) (fun k hk s hI N kn => ?_) fun s hI => ?_
  · exact pk_row (Q := fun fl t q => loopW fl (N t q) fun a b => _) hw2 (Nat.lt_of_lt_of_le hk (Nat.le_trans hL (by decide))) hI fun b c => kn (_, _, b, c) (.inr rfl)
  refine And.intro (dI_le hwl) (And.intro ⟨Int.natCast_nonneg _, Int.ofNat_le.mpr (dI_le hwl)⟩ (And.intro (dI_le hwl) (And.intro (.inl (by decide)) (And.intro rfl ?_))))
  refine And.intro (by rw [List.length_map, List.length_range]; exact Nat.le_trans hL (by decide)) ?_
  rw [flag_rev, dI_len, two_sub hw, show List.replicate ((w.length : Nat) : Int).toNat (D.int 0) = dN (List.replicate w.length 0) from (List.map_replicate (f := fun n : Nat => D.int n) (n := w.length) (a := 0)).symm]
  refine forR_inv (fun _ t => pkT w L t.1 t.2.1 s.1 s.2.1 s.2.2.1 t.2.2.1 t.2.2.2.1 t.2.2.2.2.1 t.2.2.2.2.2) (fun _ _ => p) (fun k t => t.2.1.length = w.length ∧ pd w (L - k) t.1 t.2.1 = pkg w L) ((2 * w.length - 2, List.replicate w.length 0, s.2.2.2, .un, .un, .un) : Nat × List Nat × Slot × Slot × Slot × Slot) ⟨List.length_replicate, rfl⟩ (fun k hk t hI N kn => ?_) fun t hI => ?_
  · obtain ⟨h1, h2⟩ := hI
    rw [show L - k = (L - 1 - k) + 1 by omega, pd] at h2
    have hl : (row w (L - 1 - k + 1)).length ≤ 100 := by have := row_len_le w (L - 1 - k + 1); omega
    have ht : trues ((row w (L - 1 - k + 1)).take t.1) ≤ t.2.1.length := by
      have := (trues_take (row w (L - 1 - k + 1)) t.1).2
      rw [h1, ← mrg_trues w (prs (nums (row w (L - 1 - k))))]; exact this
    refine pk_lap (f := row w (L - 1 - k + 1)) (Q := fun fl t q => loopW fl (N t q) fun a b => _) hl (h1 ▸ hw2) ht fun y z => kn (_, _, _, _, _, _) ⟨by rw [bump_len]; exact h1, ?_⟩
    rw [show L - (k + 1) = L - 1 - k by omega]; exact h2
  · have e := hI.2
    rw [Nat.sub_self, pd] at e
    rw [← e] at k
    exact k
end
end Mini
end
section -- F6
namespace Mini
open PySem Mk

noncomputable def rowsF (cs : List Int) : List (Int × Int) := isort leP (usedP cs)
noncomputable def wF (cs : List Int) : List Int := (rowsF cs).map (·.1)
noncomputable def llF (cs : List Int) (L : Nat) : List Nat := plF (List.replicate cs.length 0) ((rowsF cs).zip (if (wF cs).length < 2 then List.replicate (wF cs).length 1 else pkg (wF cs) L))
theorem rowsF_mem {cs : List Int} {r : Int × Int} (h : r ∈ rowsF cs) : ∃ i : Nat, r.2 = (i : Int) ∧ ∃ hi : i < cs.length, cs[i] = r.1 ∧ 0 < r.1 := by
  have h := (isort_perm leP (usedP cs)).mem_iff.1 h
  unfold usedP at h
  obtain ⟨x, hx, rfl⟩ := List.mem_map.1 h
  obtain ⟨hx, hp⟩ := List.mem_filter.1 hx
  obtain ⟨h1, h2, h3⟩ := List.mem_zipIdx hx
  rw [Nat.zero_add] at h2
  exact ⟨x.2, rfl, h2, h3.symm, of_decide_eq_true hp⟩
theorem wF_len (cs : List Int) : (wF cs).length = (rowsF cs).length := List.length_map ..
theorem rowsF_len (cs : List Int) : (rowsF cs).length ≤ cs.length := Nat.le_trans (Nat.le_of_eq (isort_perm leP (usedP cs)).length_eq) (usedP_len cs)
theorem pd_len (w : List Int) : ∀ (k m : Nat) (ds : List Nat), (pd w k m ds).length = ds.length
  | 0, _, _ => rfl
  | k + 1, m, ds => (pd_len w k _ _).trans (bump_len ..)
theorem pkg_len (w : List Int) (L : Nat) : (pkg w L).length = w.length := (pd_len ..).trans List.length_replicate
theorem pos_L {L : Nat} : (0 : Int) ≤ (L : Int) := Int.natCast_nonneg L
section
variable {r : Nat} {p : Pool} {Φ : Bool → D → Pool → Prop} {ε : Pool → Prop} {Q : Fl → List Slot → Pool → Prop}
theorem eval_least (hr : 2 < r) (cs : List Int) (L : Nat) (h : cs.length ≤ 12) (hc : ∀ c ∈ cs, c < 0 → c.natAbs < 10 ^ 10) (h1 : 1 ≤ L) (h2 : L ≤ 1000) (k : (∀ c ∈ cs, 0 ≤ c) → (wF cs).length ≤ 2 ^ L → Φ false (.list (dN (llF cs L))) p) (e : (∃ c ∈ cs, c < 0) ∨ 2 ^ L < (wF cs).length → ε p) :
    lev r 11 [.list (dI cs), .int (L : Nat)] p Φ ε := by
  have hw : (wF cs).length ≤ 12 := by rw [wF_len]; exact Nat.le_trans (rowsF_len cs) h
  have hl : ((isort leP (usedP cs)).map pairD).length = (wF cs).length := by rw [List.length_map, wF_len]; rfl
  have l2 : ((isort leP (usedP cs)).map pairD).length ≤ lim := by rw [hl]; exact Nat.le_trans hw (by decide)
  have lc := dI_le (Nat.le_trans h (by decide : 12 ≤ lim))
  have hn : cs.length ≤ 100000 := Nat.le_trans h (by decide)
  have hrows : ∀ r ∈ rowsF cs, ∃ i : Nat, r.2 = (i : Int) ∧ i < cs.length := fun r hr => let ⟨i, e, hi, _⟩ := rowsF_mem hr; ⟨i, e, hi⟩
  unfold llF at k
  refine lev_of (f := 11) rfl hr (eval_used (Nat.succ_pos 1) cs (Nat.lt_of_le_of_lt h (by decide)) hc (fun hp => And.intro l2 ?_) fun h => e (.inl h))
  rw [hl]
  refine eval_croom (Nat.succ_pos 1) (wF cs).length L h1 h2 (Nat.lt_of_le_of_lt hw (by decide)) (fun hm b d => And.intro l2 ?_) fun h => e (.inr h)
  have k := k hp hm
  rw [hl]
  refine brD (fun hs => And.intro lc (And.intro l2 ?_)) fun hs => And.intro lc (And.intro l2 ?_)
  · rw [if_pos (Int.ofNat_lt.mp hs)] at k
    rw [hl, dI_len]
    refine And.intro ⟨pos_L, Int.ofNat_le.mpr (Nat.le_trans hw (by decide))⟩ ?_
    rw [show List.replicate ((wF cs).length : Int).toNat (D.int 1) = dN (List.replicate (wF cs).length 1) from (List.map_replicate (f := fun n : Nat => D.int n) (n := (wF cs).length) (a := 1)).symm]
    exact eval_placed (Nat.succ_pos 1) cs.length (rowsF cs) _ hn (List.length_replicate.trans (wF_len cs)) (by rw [List.length_replicate]; exact Nat.le_trans hw (by decide)) hrows k
  · have hs : ¬ (wF cs).length < 2 := fun q => hs (Int.ofNat_lt.mpr q)
    rw [if_neg hs] at k
    rw [dI_len]
    refine compW_all (fun r : Int × Int => .int r.1) (fun r hr acc N kn => And.intro rfl (And.intro (fun _ => kn) nofun)) ?_
    rw [show (isort leP (usedP cs)).map (fun r => D.int r.1) = dI (wF cs) by unfold dI wF; rw [List.map_map]; rfl]
    exact eval_pkg (Nat.le_refl 2) (wF cs) L (by omega) (Nat.le_trans hw (by decide)) h2 (eval_placed (Nat.succ_pos 1) cs.length (rowsF cs) _ hn ((pkg_len _ _).trans (wF_len cs)) (by rw [pkg_len]; exact Nat.le_trans hw (by decide)) hrows k)
theorem eval_pool (hr : 0 < r) (is : List Int) (h : is.length ≤ lim) (k : ∀ x : Int, Φ true (.list [.int x, .int 0]) p) : lev r 12 [.list (dI is)] p Φ ε := by
  refine lev_of (f := 12) rfl hr (And.intro ⟨nofun, dI_le h⟩ ?_)
  rw [show pickD (dI is) none (some 24) none = (is.take 24).map D.int from (pick_take (dI is) 24).trans List.map_take.symm]
  refine forW_inv (fun _ s => [.frz (.list (dI is)), .frz (.int s.1), s.2]) (fun _ _ => p) (fun _ _ => True) ((0, .un) : Int × Slot) trivial ?_ fun s _ => ?_
  rotate_left
  · exact And.intro (Nat.le_of_ble_eq_true rfl) (k s.1)
  exact fun pre d post e s _ N kn => And.intro (.inr (by decide)) (And.intro (.inl (by decide)) (And.intro ⟨by decide, by decide, by decide⟩ (And.intro (by decide) (kn (_, .frz (.int d)) trivial))))
theorem mod_nat {m : Nat} (h : 1 ≤ m) (x : Int) : ∃ n : Nat, n < m ∧ x % (m : Int) = (n : Int) := by
  have hm : (0 : Int) < (m : Int) := Int.ofNat_lt.mpr h
  obtain ⟨n, e⟩ := Int.eq_ofNat_of_zero_le (Int.emod_nonneg x (Int.ne_of_gt hm))
  exact ⟨n, Int.ofNat_lt.mp (e ▸ Int.emod_lt_of_pos x hm), e⟩
theorem eval_take (hr : 0 < r) {m : Nat} (h : 1 ≤ m) (h2 : m < 1000000) {a b : Int} (k : ∀ n : Nat, n < m → ∀ a b, Φ false (.int (n : Nat)) (some (a, b))) : lev r 13 [.pool, .int (m : Nat)] (some (a, b)) Φ ε := by
  have hm : (0 : Int) < (m : Int) := Int.ofNat_lt.mpr h
  have at0 : ∀ {a b : Int} {K : D → Prop}, K (.int a) → idxW [.int a, .int b] (.int 0) K := fun k => idx_at (i := 0) (by decide) rfl k
  have at1 : ∀ {a b : Int} {K : D → Prop}, K (.int b) → idxW [.int a, .int b] (.int 1) K := fun k => idx_at (i := 1) (by decide) rfl k
  refine lev_of (f := 13) rfl hr (at0 (brD (fun h0 => ?_) fun h0 => ?_))
  · obtain ⟨n, hn, e⟩ := mod_nat h a
    refine at0 (And.intro hm (at0 (And.intro ⟨hm, Int.ofNat_lt.mpr (Nat.lt_trans h2 (by decide))⟩ (.inl ⟨rfl, ?_⟩))))
    have h := k n hn (a / (m : Int)) b
    rw [← e] at h
    exact h
  · obtain ⟨n, hn, e⟩ := mod_nat h (7 * (b + 1) + 3)
    refine at1 (.inr ⟨rfl, at1 (And.intro (.inl (by decide)) (And.intro hm ?_))⟩)
    have h := k n hn a (b + 1)
    rw [← e] at h
    exact h
end
end Mini
end
section -- F7
namespace Mini
open PySem Mk

noncomputable def lcS (M s : Nat) (cs : List Int) (x4 x5 x6 x7 x8 x9 : Slot) : List Slot := [.frz .pool, .frz (.int (M : Nat)), .frz (.int (s : Nat)), .own (dI cs), x4, x5, x6, x7, x8, x9]
theorem mem_set {cs : List Int} {i : Nat} {v : Int} (hc : ∀ c ∈ cs, 0 ≤ c) (h : 0 ≤ v) : ∀ c ∈ cs.set i v, 0 ≤ c := fun x hx => (List.mem_or_eq_of_mem_set hx).elim (hc x) fun e => e ▸ h
theorem set_I {l : List Int} {i : Nat} {K : Nat → Prop} (h1 : i < 1000000) (h : i < l.length) (k : K i) : setL (dI l) (.int (i : Nat)) K := set_at h1 (by rw [dI_len]; exact h) k
section
variable {r : Nat} {Φ : Bool → D → Pool → Prop} {ε : Pool → Prop} {Q : Fl → List Slot → Pool → Prop} {M s k : Nat} {cs : List Int} {x6 x7 x8 x9 : Slot}
/-- one of the steps that may change the count -/
theorem lc_step {st rs : St} {x6 x7 x8 x9 : Slot} {c : Int} {a b : Int} (h0 : 0 ≤ c) (h : ∀ {c : Int} {a b : Int}, 0 ≤ c → ∀ N : List Slot → Pool → Prop, (∀ c a b, 0 ≤ c → N (lcS M s cs (.frz (.int (k : Nat))) (.frz (.int c)) x6 x7 x8 x9) (some (a, b))) → ex (lev 1) st (lcS M s cs (.frz (.int (k : Nat))) (.frz (.int c)) x6 x7 x8 x9) (some (a, b)) (fun f t q => seqW f (N t q) fun f => Q f t q) ε)
    (kk : ∀ {c : Int} {a b : Int}, 0 ≤ c → ex (lev 1) rs (lcS M s cs (.frz (.int (k : Nat))) (.frz (.int c)) x6 x7 x8 x9) (some (a, b)) Q ε) : ex (lev 1) (.cons st rs) (lcS M s cs (.frz (.int (k : Nat))) (.frz (.int c)) x6 x7 x8 x9) (some (a, b)) Q ε :=
  h h0 (fun t q => ex (lev 1) rs t q Q ε) fun _ _ _ h => kk h
theorem lc25 (n : Nat) : (0 : Int) ≤ 10 ^ (25 : Int).toNat + (n : Int) := Int.add_nonneg (Int.le_of_lt (Int.pow_pos (by decide))) (Int.natCast_nonneg n)
noncomputable def lcB : St := (.cons (.ite [2] (.cmp .eq (.var 2) (.int 1)) (.cons (.assign [] 5 (.int 3)) .nil) .nil) (.cons (.ite [2] (.and (.cmp .eq (.var 2) (.int 2)) (.cmp .gt (.var 4) (.int 1))) (.cons (.assign [] 5 (.bin .add (.bin .add (.subv 3 (.bin .sub (.var 4) (.int 1))) (.subv 3 (.bin .sub (.var 4) (.int 2)))) (.call 13 (.cons (.var 0) (.cons (.int 2) .nil))))) .nil) .nil) (.cons (.ite [2] (.cmp .eq (.var 2) (.int 3)) (.cons (.assign [] 5 (.bin .shl (.int 1) (.bin .mul (.int 2) (.var 4)))) .nil) .nil) (.cons (.ite [2] (.cmp .eq (.var 2) (.int 4)) (.cons (.assign [] 5 (.bin .add (.bin .pow (.int 10) (.int 25)) (.call 13 (.cons (.var 0) (.cons (.int 1000) .nil))))) .nil) .nil) (.cons (.ite [2] (.and (.cmp .gt (.var 2) (.int 4)) (.cmp .eq (.call 13 (.cons (.var 0) (.cons (.int 3) .nil))) (.int 0))) (.cons (.assign [] 5 (.int 0)) .nil) .nil) (.cons (.app [] 3 (.var 5)) .nil))))))
theorem lc_body (hk : k < 10) (hlen : cs.length = k) (hc : ∀ c ∈ cs, 0 ≤ c) {c a b : Int} (h0 : 0 ≤ c) (kn : ∀ c a b, 0 ≤ c → Q .next (lcS M s (cs ++ [c]) (.frz (.int (k : Nat))) (.frz (.int c)) x6 x7 x8 x9) (some (a, b))) :
    ex (lev 1) lcB (lcS M s cs (.frz (.int (k : Nat))) (.frz (.int c)) x6 x7 x8 x9) (some (a, b)) Q ε := by
  refine lc_step h0 ?_ fun h0 => ?_
  · exact fun h N kn => brD (fun _ => kn _ _ _ (by decide)) fun _ => kn _ _ _ h
  refine lc_step h0 ?_ fun h0 => ?_
  · refine fun h N kn => brD (fun _ => brD (fun h2 => ?_) fun _ => kn _ _ _ h) fun _ => brF rfl (kn _ _ _ h)
    have h2 : 1 < k := Int.ofNat_lt.mp h2
    have i1 : k - 1 < cs.length := by rw [hlen]; exact Nat.sub_lt (Nat.lt_of_succ_lt h2) (Nat.succ_pos 0)
    have i2 : k - 2 < cs.length := by rw [hlen]; exact Nat.sub_lt (Nat.lt_of_succ_lt h2) (Nat.succ_pos 1)
    have b1 : k - 1 < 1000000 := Nat.lt_of_le_of_lt (Nat.sub_le _ _) (Nat.lt_trans hk (by decide))
    have b2 : k - 2 < 1000000 := Nat.lt_of_le_of_lt (Nat.sub_le _ _) (Nat.lt_trans hk (by decide))
    show idxW (dI cs) (.int ((k : Int) - 1)) _
    rw [show (k : Int) - 1 = ((k - 1 : Nat) : Int) from (Int.ofNat_sub (Nat.le_of_lt h2)).symm]
    refine idx_I b1 i1 ?_
    show idxW (dI cs) (.int ((k : Int) - 2)) _
    rw [show (k : Int) - 2 = ((k - 2 : Nat) : Int) from (Int.ofNat_sub h2).symm]
    exact idx_I b2 i2 (eval_take (Nat.succ_pos 0) (by decide) (by decide) fun n _ a b => kn _ _ _ (Int.add_nonneg (Int.add_nonneg (hc _ (List.getElem_mem i1)) (hc _ (List.getElem_mem i2))) (Int.natCast_nonneg n)))
  refine lc_step h0 ?_ fun h0 => ?_
  · refine fun h N kn => brD (fun _ => And.intro (.inl (by decide)) (And.intro ⟨Int.mul_nonneg (by decide) (Int.natCast_nonneg _), ?_, by decide⟩ (kn _ _ _ ?_))) fun _ => kn _ _ _ h
    · exact Int.le_trans (Int.mul_le_mul_of_nonneg_left (Int.ofNat_le.mpr (Nat.le_of_lt hk)) (by decide)) (by decide)
    · rw [Int.one_mul]; exact Int.le_of_lt (Int.pow_pos (by decide))
  refine lc_step h0 ?_ fun h0 => ?_
  · exact fun h N kn => brD (fun _ => And.intro ⟨by decide, by decide, by decide⟩ (eval_take (m := 1000) (Nat.succ_pos 0) (by decide) (by decide) fun n _ a b => kn _ _ _ (lc25 n))) fun _ => kn _ _ _ h
  refine lc_step h0 ?_ fun {c a b} h0 => ?_
  · exact fun h N kn => brD (fun _ => eval_take (m := 3) (Nat.succ_pos 0) (by decide) (by decide) fun n _ a b => brD (fun _ => kn _ _ _ (Int.le_refl 0)) fun _ => kn _ _ _ h) fun _ => brF rfl (kn _ _ _ h)
  have h := kn c a b h0
  unfold lcS at h
  rw [← dI_app] at h
  exact And.intro (by rw [dI_len, hlen]; exact Nat.lt_trans hk (by decide)) h

theorem lc_zero {x4 x5 : Slot} {a b : Int} (hM : cs.length = M) (h2 : 1 ≤ M) (hM2 : M < 1000000) (hc : ∀ c ∈ cs, 0 ≤ c) (kn : ∀ cs : List Int, cs.length = M → (∀ c ∈ cs, 0 ≤ c) → ∀ a b, Q .next (lcS M s cs x4 x5 x6 x7 x8 x9) (some (a, b))) :
    ex (lev 1) (.ite [] (.cmp .eq (.call 13 (.cons (.var 0) (.cons (.int 3) .nil))) (.int 0)) (.cons (.setS [] 3 (.call 13 (.cons (.var 0) (.cons (.var 1) .nil))) (.int 0)) .nil) .nil) (lcS M s cs x4 x5 x6 x7 x8 x9) (some (a, b)) Q ε := by
  refine eval_take (m := 3) (Nat.succ_pos 0) (by decide) (by decide) fun n _ a b => brD (fun _ => ?_) fun _ => kn cs hM hc a b
  refine eval_take (Nat.succ_pos 0) h2 hM2 fun n hn a b => set_I (Nat.lt_trans hn hM2) (hM ▸ hn) ?_
  have h := kn (cs.set n 0) (List.length_set.trans hM) (mem_set hc (Int.le_refl 0)) a b
  unfold lcS at h
  rw [← dI_set] at h
  exact h
noncomputable def lcB2 : St := (.cons (.tupA [] [7, 8] (.cons (.call 13 (.cons (.var 0) (.cons (.var 1) .nil))) (.cons (.call 13 (.cons (.var 0) (.cons (.var 1) .nil))) .nil))) (.cons (.assign [7] 9 (.subv 3 (.var 7))) (.cons (.setS [8, 7] 3 (.var 7) (.subv 3 (.var 8))) (.cons (.setS [8] 3 (.var 8) (.var 9)) .nil))))
theorem lc_swap {x4 x5 : Slot} {a b : Int} (hM : cs.length = M) (h2 : 1 ≤ M) (hM2 : M < 1000000) (hc : ∀ c ∈ cs, 0 ≤ c) (kn : ∀ cs : List Int, cs.length = M → (∀ c ∈ cs, 0 ≤ c) → ∀ x7 x8 x9 a b, Q .next (lcS M s cs x4 x5 x6 x7 x8 x9) (some (a, b))) :
    ex (lev 1) lcB2 (lcS M s cs x4 x5 x6 x7 x8 x9) (some (a, b)) Q ε := by
  refine eval_take (Nat.succ_pos 0) h2 hM2 fun i hi a b => eval_take (Nat.succ_pos 0) h2 hM2 fun j hj a b => And.intro rfl ?_
  have hi' : i < cs.length := hM ▸ hi
  have hj' : j < cs.length := hM ▸ hj
  refine idx_I (Nat.lt_trans hi hM2) hi' (idx_I (Nat.lt_trans hj hM2) hj' (set_I (Nat.lt_trans hi hM2) hi' ?_))
  have h := kn ((cs.set i cs[j]).set j cs[i]) (by rw [List.length_set, List.length_set]; exact hM) (mem_set (mem_set hc (hc _ (List.getElem_mem hj'))) (hc _ (List.getElem_mem hi'))) (.frz (.int (i : Nat))) (.frz (.int (j : Nat))) (.frz (.int cs[i])) a b
  unfold lcS at h
  rw [← dI_set, ← dI_set] at h
  exact set_at (Nat.lt_trans hj hM2) (by rw [List.length_set, dI_len]; exact hj') h
theorem eval_lcounts (hr : 1 < r) {a b : Int} (kk : ∀ cs : List Int, 2 ≤ cs.length → cs.length ≤ 10 → (∀ c ∈ cs, 0 ≤ c) → ∀ a b, Φ false (.list (dI cs)) (some (a, b))) : lev r 14 [.pool] (some (a, b)) Φ ε := by
  refine lev_of (f := 14) rfl hr (eval_take (m := 9) (Nat.succ_pos 0) (by decide) (by decide) fun m hm a b => eval_take (m := 6) (Nat.succ_pos 0) (by decide) (by decide) fun s hs a b => And.intro rfl ?_)
  have e : (2 : Int) + (m : Int) = ((2 + m : Nat) : Int) := rfl
  rw [e]
  have h1 : 2 ≤ 2 + m := Nat.le_add_right 2 m
  have h2 : 2 + m ≤ 10 := Nat.add_le_add_left (Nat.le_of_lt_succ hm) 2
  generalize 2 + m = M at h1 h2 ⊢
  have b1 : 1 ≤ M := Nat.le_of_succ_le h1
  have b2 : M < 1000000 := Nat.lt_of_le_of_lt h2 (by decide)
  refine And.intro (Nat.zero_le _) (range_n (Nat.le_trans h2 (by decide)) ?_)
  refine forR_inv (fun k t => lcS M s t.1 t.2.1 t.2.2.1 .un .un .un .un) (fun _ t => some t.2.2.2) (fun k t => t.1.length = k ∧ ∀ c ∈ t.1, 0 ≤ c) (([], .un, .un, (a, b)) : List Int × Slot × Slot × Int × Int) ⟨rfl, fun _ h => (List.not_mem_nil h).elim⟩ (fun k hk t hI N kn => ?_) fun t hI => ?_
  · refine eval_take (m := 9) (Nat.succ_pos 0) (by decide) (by decide) fun n _ a b => ?_
    show ex (lev 1) _ _ _ _ _
    exact lc_body (Q := fun fl t q => loopW fl (N t q) fun a b => _) (Nat.lt_of_lt_of_le hk h2) hI.1 hI.2 (Int.add_nonneg (by decide) (Int.natCast_nonneg n)) fun c a b h => kn (t.1 ++ [c], _, _, a, b) ⟨by rw [len_snoc, hI.1], mem_snoc hI.2 h⟩
  · show ex (lev 1) _ _ _ _ _
    refine join (S := List Int × Int × Int) (fun u => lcS M s u.1 t.2.1 t.2.2.1 .un .un .un .un) (fun u => some u.2) (fun u => u.1.length = M ∧ ∀ c ∈ u.1, 0 ≤ c) (fun N kn => ?_) fun u hu => ?_
    · exact lc_zero hI.1 b1 b2 hI.2 fun cs h1 h2 a b => kn (cs, a, b) ⟨h1, h2⟩
    · refine eval_take (m := 3) (Nat.succ_pos 0) (by decide) (by decide) fun n hn a b => range_n (Nat.le_trans (Nat.le_of_lt hn) (by decide)) ?_
      refine forR_inv (fun k v => lcS M s v.1 t.2.1 t.2.2.1 v.2.1 v.2.2.1 v.2.2.2.1 v.2.2.2.2.1) (fun _ v => some v.2.2.2.2.2) (fun k v => v.1.length = M ∧ ∀ c ∈ v.1, 0 ≤ c) ((u.1, .un, .un, .un, .un, (a, b)) : List Int × Slot × Slot × Slot × Slot × Int × Int) hu (fun k hk v hI N kn => ?_) fun v hI => ?_
      · exact lc_swap (x6 := .frz (.int (k : Nat))) (Q := fun fl t q => loopW fl (N t q) fun a b => _) hI.1 b1 b2 hI.2 fun cs h1 h2 x7 x8 x9 a b => kn (cs, _, x7, x8, x9, a, b) ⟨h1, h2⟩
      · exact kk v.1 (hI.1 ▸ h1) (hI.1 ▸ h2) hI.2 _ _
end
end Mini
end
section -- Q3
namespace Mk
open Mini

theorem kr_snoc (L : Nat) : ∀ (ls : List Nat) (l : Nat), kr L (ls ++ [l]) = kr L ls + 2 ^ (L - l)
  | [], l => (Nat.add_zero _).trans (Nat.zero_add _).symm
  | a :: ls, l => by show _ + kr L (ls ++ [l]) = _ + kr L ls + _; rw [kr_snoc L ls l, Nat.add_assoc]
theorem cost_snoc2 (c : Int) (l : Nat) : ∀ (us : List Int) (ls : List Nat), ls.length = us.length → cost (us ++ [c]) (ls ++ [l]) = cost us ls + c * (l : Int)
  | [], [], _ => (Int.add_zero _).trans (Int.zero_add _).symm
  | u :: us, a :: ls, h => by
    show u * (a : Int) + cost (us ++ [c]) (ls ++ [l]) = u * (a : Int) + cost us ls + _
    rw [cost_snoc2 c l us ls (Nat.succ.inj h), Int.add_assoc]

/-- lengths of a row, 1 to L -/
noncomputable def In1 (L n : Nat) (ls : List Nat) : Prop := ls.length = n ∧ ∀ l ∈ ls, 1 ≤ l ∧ l ≤ L
noncomputable def IsMin (us : List Int) (L : Nat) (m : Int) : Prop :=
  (∃ ls, In1 L us.length ls ∧ kr L ls ≤ 2 ^ L ∧ cost us ls = m) ∧ ∀ ls, In1 L us.length ls → kr L ls ≤ 2 ^ L → m ≤ cost us ls

noncomputable def Best (us : List Int) (L : Nat) (b : List (Option Int)) : Prop :=
  b.length = 2 ^ L + 1 ∧ (∀ s v, b[s]? = some (some v) → ∃ ls, In1 L us.length ls ∧ kr L ls = s ∧ cost us ls = v) ∧
  ∀ ls, In1 L us.length ls → kr L ls ≤ 2 ^ L → ∃ v, b[kr L ls]? = some (some v) ∧ v ≤ cost us ls
noncomputable def Later (b : List (Option Int)) (c : Int) (L i j : Nat) (r : List (Option Int)) : Prop :=
  r.length = 2 ^ L + 1 ∧ (∀ t v, r[t]? = some (some v) → ∃ s l tot, b[s]? = some (some tot) ∧ 1 ≤ l ∧ l ≤ L ∧ t = s + 2 ^ (L - l) ∧ v = tot + c * (l : Int)) ∧
  ∀ s l tot, (s < i ∨ (s = i ∧ l ≤ j)) → b[s]? = some (some tot) → 1 ≤ l → l ≤ L → s + 2 ^ (L - l) ≤ 2 ^ L → ∃ v, r[s + 2 ^ (L - l)]? = some (some v) ∧ v ≤ tot + c * (l : Int)

theorem none_at {n t : Nat} {v : Int} (h : (List.replicate n (none : Option Int))[t]? = some (some v)) : False := by
  obtain ⟨q, e⟩ := List.getElem?_eq_some_iff.mp h
  rw [List.getElem_replicate] at e
  cases e
theorem best0 (L : Nat) : Best [] L ((List.replicate (2 ^ L + 1) none).set 0 (some 0)) := by
  refine ⟨List.length_set.trans List.length_replicate, fun s v h => ?_, fun ls h hk => ?_⟩
  · by_cases hs : 0 = s
    · subst hs
      rw [List.getElem?_set_self (by rw [List.length_replicate]; exact Nat.succ_pos _)] at h
      cases h
      exact ⟨[], ⟨rfl, nofun⟩, rfl, rfl⟩
    · rw [List.getElem?_set_ne hs] at h
      exact (none_at h).elim
  · cases List.eq_nil_of_length_eq_zero h.1
    exact ⟨0, List.getElem?_set_self (by rw [List.length_replicate]; exact Nat.succ_pos _), Int.le_refl 0⟩
theorem later0 (b : List (Option Int)) (c : Int) (L : Nat) : Later b c L 0 0 (List.replicate (2 ^ L + 1) none) :=
  ⟨List.length_replicate, fun _ _ h => (none_at h).elim, fun s l _ h _ h1 _ _ => by omega⟩
theorem later_none {b r : List (Option Int)} {c : Int} {L i : Nat} (h : Later b c L i 0 r) (hb : b[i]? = some none) : Later b c L (i + 1) 0 r := by
  refine ⟨h.1, h.2.1, fun s l tot hs hbs h1 h2 h3 => ?_⟩
  have : s < i := by
    rcases hs with hs | hs
    · rcases Nat.lt_succ_iff_lt_or_eq.1 hs with h | h
      · exact h
      · subst h; rw [hb] at hbs; cases hbs
    · exact absurd (Nat.le_trans h1 hs.2) (Nat.not_succ_le_zero 0)
  exact h.2.2 s l tot (.inl this) hbs h1 h2 h3
theorem later_full {b r : List (Option Int)} {c : Int} {L i : Nat} (h : Later b c L i L r) : Later b c L (i + 1) 0 r := by
  refine ⟨h.1, h.2.1, fun s l tot hs hbs h1 h2 h3 => ?_⟩
  exact h.2.2 s l tot (by omega) hbs h1 h2 h3
theorem later_keep {b r : List (Option Int)} {c : Int} {L i j : Nat} {tot : Int} (h : Later b c L i j r) (hb : b[i]? = some (some tot))
    (hk : 2 ^ L < i + 2 ^ (L - (j + 1)) ∨ ∃ o, r[i + 2 ^ (L - (j + 1))]? = some (some o) ∧ o ≤ tot + c * ((j + 1 : Nat) : Int)) : Later b c L i (j + 1) r := by
  refine ⟨h.1, h.2.1, fun s l tot' hs hbs h1 h2 h3 => ?_⟩
  by_cases hn : s = i ∧ l = j + 1
  · obtain ⟨rfl, rfl⟩ := hn
    rw [hb] at hbs
    cases hbs
    exact hk.elim (fun q => absurd h3 (Nat.not_le_of_lt q)) id
  · exact h.2.2 s l tot' (by omega) hbs h1 h2 h3
theorem later_set {b r : List (Option Int)} {c : Int} {L i j : Nat} {tot : Int} (h : Later b c L i j r) (hb : b[i]? = some (some tot)) (hj : j + 1 ≤ L)
    (ht : i + 2 ^ (L - (j + 1)) ≤ 2 ^ L) (hk : ∀ o, r[i + 2 ^ (L - (j + 1))]? = some (some o) → tot + c * ((j + 1 : Nat) : Int) < o) :
    Later b c L i (j + 1) (r.set (i + 2 ^ (L - (j + 1))) (some (tot + c * ((j + 1 : Nat) : Int)))) := by
  refine ⟨List.length_set.trans h.1, fun t v hv => ?_, fun s l tot' hs hbs h1 h2 h3 => ?_⟩
  · rw [List.getElem?_set] at hv
    by_cases e : i + 2 ^ (L - (j + 1)) = t
    · rw [if_pos e] at hv
      split at hv
      · exact ⟨i, j + 1, tot, hb, Nat.succ_le_succ (Nat.zero_le j), hj, e.symm, (Option.some.inj (Option.some.inj hv)).symm⟩
      · cases hv
    · rw [if_neg e] at hv
      exact h.2.1 t v hv
  · rw [List.getElem?_set]
    by_cases e : i + 2 ^ (L - (j + 1)) = s + 2 ^ (L - l)
    · rw [if_pos e, if_pos (by rw [h.1]; exact Nat.lt_succ_of_le ht)]
      refine ⟨_, rfl, ?_⟩
      by_cases hn : s = i ∧ l = j + 1
      · obtain ⟨rfl, rfl⟩ := hn
        rw [hb] at hbs
        cases hbs
        exact Int.le_refl _
      · obtain ⟨o, ho, hle⟩ := h.2.2 s l tot' (by omega) hbs h1 h2 h3
        rw [← e] at ho
        exact Int.le_trans (Int.le_of_lt (hk o ho)) hle
    · rw [if_neg e]
      by_cases hn : s = i ∧ l = j + 1
      · obtain ⟨rfl, rfl⟩ := hn
        exact absurd rfl e
      · exact h.2.2 s l tot' (by omega) hbs h1 h2 h3
theorem in_snoc {L n l : Nat} {ls : List Nat} (h : In1 L n ls) (h1 : 1 ≤ l) (h2 : l ≤ L) : In1 L (n + 1) (ls ++ [l]) := ⟨by rw [len_snoc, h.1], mem_snoc h.2 ⟨h1, h2⟩⟩
theorem in_split {L n : Nat} : ∀ {ls : List Nat}, In1 L (n + 1) ls → ∃ l0 l, ls = l0 ++ [l] ∧ In1 L n l0 ∧ 1 ≤ l ∧ l ≤ L := fun {ls} h => by
  have hne : ls ≠ [] := fun e => by rw [e] at h; exact Nat.noConfusion h.1
  obtain ⟨l0, l, rfl⟩ : ∃ l0 l, ls = l0 ++ [l] := ⟨_, _, (List.dropLast_concat_getLast hne).symm⟩
  exact ⟨l0, l, rfl, ⟨Nat.succ.inj ((len_snoc l0 l).symm.trans h.1), fun x hx => h.2 x (List.mem_append_left _ hx)⟩, h.2 l (List.mem_append_right _ List.mem_cons_self)⟩
theorem later_done {us : List Int} {b r : List (Option Int)} {c : Int} {L : Nat} (hb : Best us L b) (h : Later b c L b.length 0 r) : Best (us ++ [c]) L r := by
  refine ⟨h.1, fun t v hv => ?_, fun ls hl hk => ?_⟩
  · obtain ⟨s, l, tot, h1, h2, h3, rfl, rfl⟩ := h.2.1 t v hv
    obtain ⟨ls, a1, rfl, rfl⟩ := hb.2.1 s tot h1
    exact ⟨ls ++ [l], len_snoc us c ▸ in_snoc a1 h2 h3, kr_snoc .., cost_snoc2 _ _ _ _ a1.1⟩
  · obtain ⟨l0, l, rfl, hl, h1, h2⟩ := in_split (len_snoc us c ▸ hl)
    rw [kr_snoc] at hk ⊢
    rw [cost_snoc2 _ _ _ _ hl.1]
    have hk0 := Nat.le_trans (Nat.le_add_right _ _) hk
    obtain ⟨w, hw, hle⟩ := hb.2.2 l0 hl hk0
    obtain ⟨v, hv, hle2⟩ := h.2.2 (kr L l0) l w (.inl (by rw [hb.1]; exact Nat.lt_succ_of_le hk0)) hw h1 h2 hk
    exact ⟨v, hv, Int.le_trans hle2 (Int.add_le_add_right hle _)⟩
theorem best_min {us : List Int} {L : Nat} {b : List (Option Int)} (h : Best us L b) (hL : 1 ≤ L) (hn : us.length ≤ 2 ^ L) : b.filterMap id ≠ [] ∧ ∀ m ∈ b.filterMap id, (∀ x ∈ b.filterMap id, m ≤ x) → IsMin us L m := by
  have all : ∀ ls, In1 L us.length ls → kr L ls ≤ 2 ^ L → ∃ v, v ∈ b.filterMap id ∧ v ≤ cost us ls := by
    intro ls h1 h2
    obtain ⟨v, hv, hle⟩ := h.2.2 ls h1 h2
    exact ⟨v, List.mem_filterMap.2 ⟨some v, List.mem_of_getElem? hv, rfl⟩, hle⟩
  obtain ⟨v, hv, _⟩ := all (List.replicate us.length L) ⟨List.length_replicate, fun l hl => (List.eq_of_mem_replicate hl).symm ▸ ⟨hL, Nat.le_refl L⟩⟩ (by rw [kr_rep, Nat.sub_self, Nat.pow_zero, Nat.mul_one]; exact hn)
  refine ⟨List.ne_nil_of_mem hv, fun m hm hle => ⟨?_, fun ls h1 h2 => ?_⟩⟩
  · obtain ⟨o, ho, e⟩ := List.mem_filterMap.1 hm
    obtain ⟨s, hs⟩ := List.getElem?_of_mem ho
    have e : o = some m := e
    rw [e] at hs
    have hs2 : s < b.length := (List.getElem?_eq_some_iff.mp hs).1
    obtain ⟨ls, a1, a2, a3⟩ := h.2.1 _ _ hs
    exact ⟨ls, a1, by rw [a2]; rw [h.1] at hs2; exact Nat.le_of_lt_succ hs2, a3⟩
  · obtain ⟨v, hv, h⟩ := all ls h1 h2
    exact Int.le_trans (hle v hv) h
end Mk
end
section -- F8
namespace Mini
open PySem Mk

noncomputable def optD : Option Int → D
  | none => .none
  | some i => .int i
noncomputable def dO (l : List (Option Int)) : List D := l.map optD
theorem dO_len (l : List (Option Int)) : (dO l).length = l.length := List.length_map ..
theorem dO_set (l : List (Option Int)) (k : Nat) (v : Int) : (dO l).set k (.int v) = dO (l.set k (some v)) := (List.map_set (f := optD) (a := some v)).symm
theorem idx_O {K : D → Prop} {l : List (Option Int)} {i : Nat} {v : Option Int} (h1 : i < 1000000) (h : l[i]? = some v) (k : K (optD v)) : idxW (dO l) (.int (i : Nat)) K := idx_at h1 (by unfold dO; rw [List.getElem?_map, h]; rfl) k
noncomputable def dpS (us : List Int) (L : Nat) (s3 x4 x5 x6 x7 x8 x9 : Slot) : List Slot := [.frz (.list (dI us)), .frz (.int (L : Nat)), .frz (.int ((2 ^ L : Nat) : Int)), s3, x4, x5, x6, x7, x8, x9, .un]
section
variable {r : Nat} {p : Pool} {Φ : Bool → D → Pool → Prop} {ε : Pool → Prop} {Q : Fl → List Slot → Pool → Prop} {C : Calls} {us : List Int} {L i j : Nat} {b rr : List (Option Int)} {c tot : Int} {x3 x4 x6 x7 x8 x9 : Slot}
theorem asg {e : Ex} {x : Nat} {rs : St} {sl : List Slot} {v : D} (h : ∀ K : Bool → D → Pool → Prop, K false v p → ev C e sl p K ε) (k : ex C rs (sl.set x (.frz v)) p Q ε) : ex C (.cons (.assign [] x e) rs) sl p Q ε := h _ k
theorem for_fz {x : Nat} {tg : List Nat} {t : Bool} {it : Ex} {bd rs : St} {sl sl' : List Slot} (h : freeze1 sl x = sl') (k : ex C (.cons (.for_ [] tg t it bd) rs) sl' p Q ε) : ex C (.cons (.for_ [x] tg t it bd) rs) sl p Q ε := by subst h; exact k
theorem sub_pow {L j : Nat} (hj : j ≤ L) : (1 : Int) * 2 ^ ((L : Int) - (j : Int)).toNat = ((2 ^ (L - j) : Nat) : Int) := by
  rw [Int.one_mul, ← Int.ofNat_sub hj]; exact (Int.natCast_pow 2 (L - j)).symm
theorem sub_ok {L j : Nat} (hj : j ≤ L) (hL : L ≤ 1000) : 0 ≤ (L : Int) - (j : Int) ∧ (L : Int) - (j : Int) ≤ 1000 ∧ (1 : Int).natAbs < 2 ^ 64 := by
  rw [← Int.ofNat_sub hj]
  exact ⟨Int.natCast_nonneg _, Int.ofNat_le.mpr (Nat.le_trans (Nat.sub_le _ _) hL), by decide⟩
theorem pow_nat (L : Nat) : (1 : Int) * 2 ^ ((L : Int)).toNat = ((2 ^ L : Nat) : Int) := (Int.one_mul _).trans (Int.natCast_pow 2 L).symm
theorem shl_ok {L : Nat} (h : L ≤ 1000) : 0 ≤ (L : Int) ∧ (L : Int) ≤ 1000 ∧ (1 : Int).natAbs < 2 ^ 64 := ⟨Int.natCast_nonneg L, Int.ofNat_le.mpr h, by decide⟩
theorem pow_le {L : Nat} (h : L ≤ 10) : 2 ^ L < 2000 := Nat.lt_of_le_of_lt (Nat.pow_le_pow_right (by decide) h) (by decide)
noncomputable def dpB3 : St := (.cons (.assign [] 9 (.bin .add (.var 6) (.bin .shl (.int 1) (.bin .sub (.var 1) (.var 8))))) (.cons (.ite [] (.and (.cmp .le (.var 9) (.var 2)) (.or (.cmp .is_ (.subv 5 (.var 9)) .none) (.cmp .lt (.bin .add (.var 7) (.bin .mul (.var 4) (.var 8))) (.subv 5 (.var 9))))) (.cons (.setS [] 5 (.var 9) (.bin .add (.var 7) (.bin .mul (.var 4) (.var 8)))) .nil) .nil) .nil))
theorem dp_step (hL : L ≤ 10) (hj : j + 1 ≤ L) (hr : Later b c L i j rr) (hd : b[i]? = some (some tot)) (kn : ∀ r x9, Later b c L i (j + 1) r → Q .next (dpS us L x3 (.frz (.int c)) (.own (dO r)) (.frz (.int (i : Nat))) (.frz (.int tot)) (.frz (.int ((j + 1 : Nat) : Int))) x9) p) :
    ex C dpB3 (dpS us L x3 (.frz (.int c)) (.own (dO rr)) (.frz (.int (i : Nat))) (.frz (.int tot)) (.frz (.int ((j + 1 : Nat) : Int))) x9) p Q ε := by
  have hL2 : L ≤ 1000 := Nat.le_trans hL (by decide)
  have small : (c.natAbs < 2 ^ 63 ∨ ((j + 1 : Nat) : Int).natAbs < 2 ^ 63) := .inr (nat63 (Nat.lt_of_le_of_lt hj (Nat.lt_of_le_of_lt hL (by decide))))
  refine asg (v := .int ((i + 2 ^ (L - (j + 1)) : Nat) : Int)) (fun K k => And.intro (sub_ok hj hL2) ?_) ?_
  · rw [Int.natCast_add, ← sub_pow hj] at k
    exact k
  refine brD (fun h => ?_) fun h => brF rfl (kn rr _ (later_keep hr hd (.inl (Nat.lt_of_not_le fun q => h (Int.ofNat_le.mpr q)))))
  have h : i + 2 ^ (L - (j + 1)) ≤ 2 ^ L := Int.ofNat_le.mp h
  have hlt : i + 2 ^ (L - (j + 1)) < rr.length := by rw [hr.1]; exact Nat.lt_succ_of_le h
  have hb : i + 2 ^ (L - (j + 1)) < 1000000 := Nat.lt_of_le_of_lt h (Nat.lt_trans (pow_le hL) (by decide))
  have wr : (∀ o, rr[i + 2 ^ (L - (j + 1))]? = some (some o) → tot + c * ((j + 1 : Nat) : Int) < o) → ex C (.cons (.setS [] 5 (.var 9) (.bin .add (.var 7) (.bin .mul (.var 4) (.var 8)))) .nil) (dpS us L x3 (.frz (.int c)) (.own (dO rr)) (.frz (.int (i : Nat))) (.frz (.int tot)) (.frz (.int ((j + 1 : Nat) : Int))) (.frz (.int ((i + 2 ^ (L - (j + 1)) : Nat) : Int)))) p (fun f t q => seqW f (ex C .nil t q Q ε) fun f => Q f t q) ε := fun ho => by
    have h := kn _ (.frz (.int ((i + 2 ^ (L - (j + 1)) : Nat) : Int))) (later_set hr hd hj h ho)
    unfold dpS at h
    rw [← dO_set] at h
    exact And.intro small (set_at hb (by rw [dO_len]; exact hlt) h)
  rcases hv : rr[i + 2 ^ (L - (j + 1))]? with _ | _ | o
  · exact absurd (List.getElem?_eq_none_iff.mp hv) (Nat.not_le_of_lt hlt)
  · exact idx_O hb hv (brT rfl (brT rfl (wr fun o q => by rw [hv] at q; cases q)))
  · refine idx_O hb hv (brF rfl (And.intro small (idx_O hb hv (brD (fun q => wr fun o q2 => ?_) fun q => ?_))))
    · rw [hv] at q2; cases q2; exact q
    · exact kn rr _ (later_keep hr hd (.inr ⟨o, hv, Int.not_lt.mp q⟩))
noncomputable def dpB2 : St := (.cons (.ite [] (.cmp .is_ (.var 7) .none) (.cons .cont .nil) .nil) (.cons (.for_ [] [8] false (.range (.cons (.int 1) (.cons (.bin .add (.var 1) (.int 1)) .nil))) dpB3) .nil))
theorem dp_item {v : Option Int} (hL : L ≤ 10) (hr : Later b c L i 0 rr) (hd : b[i]? = some v) (kn : ∀ fl r x8 x9, (fl = .next ∨ fl = .cont) → Later b c L (i + 1) 0 r → Q fl (dpS us L x3 (.frz (.int c)) (.own (dO r)) (.frz (.int (i : Nat))) (.frz (optD v)) x8 x9) p) :
    ex C dpB2 (dpS us L x3 (.frz (.int c)) (.own (dO rr)) (.frz (.int (i : Nat))) (.frz (optD v)) x8 x9) p Q ε := by
  rcases v with _ | tot
  · exact brT rfl (kn _ _ _ _ (.inr rfl) (later_none hr hd))
  · refine brF rfl (range_ab (a := 1) (b := L + 1) (by decide) (Nat.le_trans (Nat.succ_le_succ hL) (by decide)) ?_)
    refine forR_inv (n := L) (fun j s => dpS us L x3 (.frz (.int c)) (.own (dO s.1)) (.frz (.int (i : Nat))) (.frz (.int tot)) s.2.1 s.2.2) (fun _ _ => p) (fun j s => Later b c L i j s.1) ((rr, x8, x9) : List (Option Int) × Slot × Slot) hr (fun j hj s hI N kn => ?_) fun s hI => ?_
    · rw [Nat.add_comm 1 j]
      exact dp_step (Q := fun fl t q => loopW fl (N t q) fun a b => _) hL hj hI hd fun r x9 h => kn (r, _, x9) h
    · exact kn _ _ _ _ (.inl rfl) (later_full hI)
theorem dp_none {sl : List Slot} {x : Nat} {rs : St} (hL : L ≤ 10) (h : sg sl 2 = .frz (.int ((2 ^ L : Nat) : Int))) (k : ex C rs (sl.set x (.own (dO (List.replicate (2 ^ L + 1) none)))) p Q ε) : ex C (.cons (.assign [] x (.comp [0] false [none] .none (.range (.cons (.bin .add (.var 2) (.int 1)) .nil)) (.bool true))) rs) sl p Q ε := by
  have hb : 2 ^ L + 1 ≤ lim := Nat.le_trans (pow_le hL) (by decide)
  show frzW (sg sl 2) _
  rw [h]
  refine range_n (n := 2 ^ L + 1) hb (And.intro (by rw [List.length_map, List.length_range]; exact hb) (compW_all (fun _ => .none) (fun j hj acc N kn => And.intro (fun _ => kn) nofun) ?_))
  rw [List.map_const', List.length_range]
  rw [show dO (List.replicate (2 ^ L + 1) none) = List.replicate (2 ^ L + 1) .none from List.map_replicate] at k
  exact k

noncomputable def dpB : St := (.cons (.assign [] 5 (.comp [0] false [none] .none (.range (.cons (.bin .add (.var 2) (.int 1)) .nil)) (.bool true))) (.cons (.for_ [3] [6, 7] true (.enum (.var 3)) dpB2) (.cons (.assign [5] 3 (.var 5)) .nil)))
theorem dp_count (hL : L ≤ 10) {pre : List Int} (h3 : x3 = .own (dO b) ∨ x3 = .frz (.list (dO b))) (hb : Best pre L b) {x5 : Slot} (kn : ∀ r x5 x6 x7 x8 x9, Best (pre ++ [c]) L r → Q .next (dpS us L (.frz (.list (dO r))) (.frz (.int c)) x5 x6 x7 x8 x9) p) :
    ex C dpB (dpS us L x3 (.frz (.int c)) x5 x6 x7 x8 x9) p Q ε := by
  refine dp_none hL rfl ?_
  refine for_fz (sl' := dpS us L (.frz (.list (dO b))) (.frz (.int c)) (.own (dO (List.replicate (2 ^ L + 1) none))) x6 x7 x8 x9) (by rcases h3 with rfl | rfl <;> rfl) (And.intro (by rw [dO_len, hb.1]; exact Nat.le_trans (pow_le hL) (by decide)) ?_)
  refine forE_inv (g := optD) (fun pre s => dpS us L (.frz (.list (dO b))) (.frz (.int c)) (.own (dO s.1)) s.2.1 s.2.2.1 s.2.2.2.1 s.2.2.2.2) (fun _ _ => p) (fun pre s => Later b c L pre.length 0 s.1) ((List.replicate (2 ^ L + 1) none, x6, x7, x8, x9) : List (Option Int) × Slot × Slot × Slot × Slot) (later0 b c L) (fun pre d post e s hI N kn => ?_) fun s hI => ?_
  · refine And.intro rfl ?_
    refine dp_item (Q := fun fl t q => loopW fl (N t q) fun a b => _) hL hI (get_mid e) fun fl r x8 x9 hfl h => ?_
    have h := kn (r, .frz (.int (pre.length : Nat)), .frz (optD d), x8, x9) (len_snoc pre d ▸ h)
    rcases hfl with rfl | rfl
    · exact h
    · exact h
  · exact kn _ _ _ _ _ _ (later_done hb hI)
theorem filter_O : ∀ b : List (Option Int), (b.filter Option.isSome).map optD = dI (b.filterMap id)
  | [] => rfl
  | none :: b => filter_O b
  | some i :: b => congrArg (D.int i :: ·) (filter_O b)
theorem eval_dp (hr : 0 < r) (us : List Int) (L : Nat) (hL : 1 ≤ L) (hL2 : L ≤ 10) (hn : us.length ≤ 2 ^ L) (k : ∀ fl m, IsMin us L m → Φ fl (.int m) p) : lev r 16 [.list (dI us), .int (L : Nat)] p Φ ε := by
  refine lev_of (f := 16) rfl hr (asg (v := .int ((2 ^ L : Nat) : Int)) (fun K k => And.intro (shl_ok (Nat.le_trans hL2 (by decide))) ?_) ?_)
  · rw [← pow_nat] at k
    exact k
  show ex (lev (rank 16)) _ _ p _ ε
  refine dp_none hL2 rfl (set_at (i := 0) (by decide) (by rw [dO_len, List.length_replicate]; exact Nat.succ_pos _) ?_)
  refine forW_inv (fun pre s => dpS us L s.2.1 s.2.2.1 s.2.2.2.1 s.2.2.2.2.1 s.2.2.2.2.2.1 s.2.2.2.2.2.2.1 s.2.2.2.2.2.2.2) (fun _ _ => p) (fun pre s => (s.2.1 = .own (dO s.1) ∨ s.2.1 = .frz (.list (dO s.1))) ∧ Best pre L s.1) (((List.replicate (2 ^ L + 1) none).set 0 (some 0), .own ((dO (List.replicate (2 ^ L + 1) none)).set 0 (.int 0)), .un, .un, .un, .un, .un, .un) : List (Option Int) × Slot × Slot × Slot × Slot × Slot × Slot × Slot) ⟨.inl (congrArg Slot.own (dO_set _ _ _)), best0 L⟩ (fun pre d post e s hI N kn => ?_) fun s hI => ?_
  · exact dp_count (Q := fun fl t q => loopW fl (N t q) fun a b => _) hL2 hI.1 hI.2 fun r x5 x6 x7 x8 x9 h => kn (r, _, _, x5, x6, x7, x8, x9) ⟨.inr rfl, h⟩
  · obtain ⟨hne, hmin⟩ := best_min hI.2 hL hn
    have h3 := hI.1
    refine ex_fz1 (sl' := dpS us L (.frz (.list (dO s.1))) s.2.2.1 s.2.2.2.1 s.2.2.2.2.1 s.2.2.2.2.2.1 s.2.2.2.2.2.2.1 s.2.2.2.2.2.2.2) (by unfold dpS; rcases h3 with q | q <;> rw [q] <;> rfl) (And.intro (by rw [dO_len, hI.2.1]; exact Nat.le_trans (pow_le hL2) (by decide)) ?_)
    refine compW_map (g0 := optD) Option.isSome optD (fun o _ acc N h1 h2 => ?_) ?_
    · cases o
      · exact brF rfl (h2 rfl)
      · exact brT rfl (h1 rfl)
    · rw [filter_O]
      refine And.intro (Nat.zero_le _) (Or.inl ⟨s.1.filterMap id, [], rfl, rfl, brN (fun _ => ?_) fun q => absurd q hne⟩)
      obtain ⟨a, t, e⟩ := List.exists_cons_of_ne_nil hne
      rw [e] at hmin ⊢
      exact ⟨a, t, rfl, fun m h1 h2 => k _ _ (hmin m h1 h2)⟩
end
end Mini
end
section -- F9
namespace Mini
open PySem Mk

noncomputable def dR (rs : List (List Nat)) : List D := rs.map fun r => D.list (dN r)
noncomputable def extR (L : Nat) (rs : List (List Nat)) : List (List Nat) := rs.flatMap fun r => (List.range L).map fun j => r ++ [1 + j]
theorem extR_snoc (L : Nat) (rs : List (List Nat)) (r : List Nat) : extR L (rs ++ [r]) = extR L rs ++ (List.range L).map fun j => r ++ [1 + j] := by
  unfold extR; rw [List.flatMap_append, List.flatMap_singleton]
theorem extR_len (L : Nat) : ∀ rs : List (List Nat), (extR L rs).length = rs.length * L
  | [] => (Nat.zero_mul L).symm
  | r :: rs => by
    have := extR_len L rs
    unfold extR at *
    rw [List.flatMap_cons, List.length_append, List.length_map, List.length_range, List.length_cons, Nat.succ_mul, this, Nat.add_comm]
theorem extR_mem (L k : Nat) (rs : List (List Nat)) (h : ∀ ls, ls ∈ rs ↔ In1 L k ls) (ls : List Nat) : ls ∈ extR L rs ↔ In1 L (k + 1) ls := by
  unfold extR
  rw [List.mem_flatMap]
  constructor
  · rintro ⟨r, hr, h2⟩
    obtain ⟨j, hj, rfl⟩ := List.mem_map.mp h2
    exact in_snoc ((h r).1 hr) (Nat.le_add_right 1 j) (Nat.add_comm j 1 ▸ List.mem_range.mp hj)
  · intro q
    obtain ⟨l0, l, rfl, h0, h1, h2⟩ := in_split q
    exact ⟨l0, (h l0).2 h0, List.mem_map.mpr ⟨l - 1, List.mem_range.mpr (Nat.lt_of_lt_of_le (Nat.sub_lt h1 (Nat.succ_pos 0)) h2), by rw [Nat.add_sub_cancel' h1]⟩⟩
theorem dR_app (rs : List (List Nat)) (r : List Nat) : dR rs ++ [D.list (dN r)] = dR (rs ++ [r]) := (List.map_append (l₁ := rs) (l₂ := [r])).symm
theorem dR_len (rs : List (List Nat)) : (dR rs).length = rs.length := List.length_map ..
theorem dN_app (l : List Nat) (n : Nat) : dN l ++ [.int (n : Nat)] = dN (l ++ [n]) := (List.map_append (f := fun n : Nat => D.int n) (l₁ := l) (l₂ := [n])).symm
section
variable {r : Nat} {p : Pool} {Φ : Bool → D → Pool → Prop} {ε : Pool → Prop} {Q : Fl → List Slot → Pool → Prop} {C : Calls} {n L k : Nat} {x3 x4 x5 x6 : Slot} {us : List Int}
noncomputable def rwS (n L : Nat) (s2 x3 x4 x5 x6 : Slot) : List Slot := [.frz (.int (n : Nat)), .frz (.int (L : Nat)), s2, x3, x4, x5, x6]
noncomputable def rwB : St := (.cons (.for_ [] [6] false (.range (.cons (.int 1) (.cons (.bin .add (.var 1) (.int 1)) .nil))) (.cons (.app [] 4 (.bin .add (.var 5) (.list (.cons (.var 6) .nil)))) .nil)) .nil)
theorem rw_row {s2 : Slot} (hL : L ≤ 4) {rs : List (List Nat)} {w : List Nat} (hw : w.length ≤ 100) (hl : rs.length ≤ 255) (kn : ∀ x6, Q .next (rwS n L s2 x3 (.own (dR (extR L (rs ++ [w])))) (.frz (.list (dN w))) x6) p) :
    ex C rwB (rwS n L s2 x3 (.own (dR (extR L rs))) (.frz (.list (dN w))) x6) p Q ε := by
  refine range_ab (a := 1) (b := L + 1) (by decide) (Nat.le_trans (Nat.succ_le_succ hL) (by decide)) ?_
  rw [← List.append_nil (extR L rs)]
  refine forR_inv (n := L) (fun j s => rwS n L s2 x3 (.own (dR (extR L rs ++ (List.range j).map fun j => w ++ [1 + j]))) (.frz (.list (dN w))) s) (fun _ _ => p) (fun _ _ => True) x6 trivial (fun j hj s _ N kn => ?_) fun s _ => ?_
  · have h := kn (.frz (.int ((1 + j : Nat) : Int))) trivial
    rw [List.range_succ, List.map_append, ← List.append_assoc] at h
    unfold rwS at h
    rw [List.map_singleton, ← dR_app, ← dN_app] at h
    refine And.intro (Nat.le_of_ble_eq_true rfl) (And.intro (by rw [dN_len]; exact Nat.le_trans (Nat.succ_le_succ hw) (by decide)) (And.intro ?_ h))
    rw [dR_len, List.length_append, extR_len, List.length_map, List.length_range]
    exact Nat.lt_of_le_of_lt (Nat.add_le_add (Nat.mul_le_mul hl hL) (Nat.le_trans (Nat.le_of_lt hj) hL)) (by decide)
  · rw [extR_snoc] at kn
    exact kn s
theorem eval_rows (hr : 0 < r) (n L : Nat) (hn : n ≤ 4) (hL2 : L ≤ 4) (k : ∀ fl rs, (∀ ls, ls ∈ rs ↔ In1 L n ls) → Φ fl (.list (dR rs)) p) : lev r 17 [.int (n : Nat), .int (L : Nat)] p Φ ε := by
  refine lev_of (f := 17) rfl hr (And.intro (Nat.zero_le _) (And.intro (Nat.le_of_ble_eq_true rfl) (range_n (Nat.le_trans hn (by decide)) ?_)))
  refine forR_inv (fun k s => rwS n L s.2.1 s.2.2.1 s.2.2.2.1 s.2.2.2.2.1 s.2.2.2.2.2) (fun _ _ => p) (fun k s => (s.2.1 = .own (dR s.1) ∨ s.2.1 = .frz (.list (dR s.1))) ∧ s.1.length = L ^ k ∧ ∀ ls, ls ∈ s.1 ↔ In1 L k ls) (([[]], .own [.list []], .un, .un, .un, .un) : List (List Nat) × Slot × Slot × Slot × Slot × Slot) ⟨.inl rfl, rfl, fun ls => ?_⟩ (fun k hk s hI N kn => ?_) fun s hI => ?_
  · exact ⟨fun h => List.mem_singleton.mp h ▸ ⟨rfl, nofun⟩, fun h => List.mem_singleton.mpr (List.eq_nil_of_length_eq_zero h.1)⟩
  · obtain ⟨h3, h4, h5⟩ := hI
    refine And.intro (Nat.zero_le _) ?_
    show ex (lev (rank 17)) _ _ p _ ε
    refine for_fz (sl' := rwS n L (.frz (.list (dR s.1))) (.frz (.int (k : Nat))) (.own (dR (extR L []))) s.2.2.2.2.1 s.2.2.2.2.2) (by rcases h3 with q | q <;> rw [q] <;> rfl) ?_
    refine forW_inv (fun pre u => rwS n L (.frz (.list (dR s.1))) (.frz (.int (k : Nat))) (.own (dR (extR L pre))) u.1 u.2) (fun _ _ => p) (fun _ _ => True) ((s.2.2.2.2.1, s.2.2.2.2.2) : Slot × Slot) trivial (fun pre w post e u _ N kn => ?_) fun u _ => ?_
    · have hb : L ^ k ≤ 256 := Nat.le_trans (Nat.pow_le_pow_left hL2 k) (Nat.le_trans (Nat.pow_le_pow_right (by decide) (Nat.le_trans (Nat.le_of_lt hk) hn)) (by decide))
      have hlen := len_mid e
      rw [h4] at hlen
      exact rw_row (Q := fun fl t q => loopW fl (N t q) fun a b => _) hL2 (by rw [((h5 w).1 (mem_mid e)).1]; exact Nat.le_trans (Nat.le_of_lt hk) (Nat.le_trans hn (by decide))) (Nat.le_of_lt_succ (Nat.lt_of_lt_of_le hlen hb)) fun x6 => kn (_, x6) trivial
    · exact kn (extR L s.1, _, _, _, _, _) ⟨.inr rfl, by rw [extR_len, h4, Nat.pow_succ], extR_mem L k s.1 h5⟩
  · obtain ⟨h3, h4, h5⟩ := hI
    rcases h3 with q | q
    · show ex (lev (rank 17)) _ _ p _ ε
      unfold rwS
      rw [q]
      exact k _ _ h5
    · show ex (lev (rank 17)) _ _ p _ ε
      unfold rwS
      rw [q]
      exact k _ _ h5

noncomputable def Bst (us : List Int) (L : Nat) (pre : List (List Nat)) (b : Option Int) : Prop :=
  (∀ m, b = some m → ∃ ls ∈ pre, kr L ls ≤ 2 ^ L ∧ cost us ls = m) ∧ ∀ ls ∈ pre, kr L ls ≤ 2 ^ L → ∃ m, b = some m ∧ m ≤ cost us ls
theorem bst_keep {pre : List (List Nat)} {b : Option Int} {r : List Nat} (h : Bst us L pre b) (hr : kr L r ≤ 2 ^ L → ∃ m, b = some m ∧ m ≤ cost us r) : Bst us L (pre ++ [r]) b :=
  ⟨fun m hm => let ⟨ls, h1, h2⟩ := h.1 m hm; ⟨ls, List.mem_append_left _ h1, h2⟩, mem_snoc h.2 hr⟩
theorem bst_set {pre : List (List Nat)} {b : Option Int} {r : List Nat} (h : Bst us L pre b) (hk : kr L r ≤ 2 ^ L) (hb : ∀ m, b = some m → cost us r ≤ m) : Bst us L (pre ++ [r]) (some (cost us r)) :=
  ⟨fun _ hm => ⟨r, List.mem_append_right _ List.mem_cons_self, hk, Option.some.inj hm⟩, mem_snoc (fun ls hl hk => let ⟨m, hm, hle⟩ := h.2 ls hl hk; ⟨_, rfl, Int.le_trans (hb m hm) hle⟩) fun _ => ⟨_, rfl, Int.le_refl _⟩⟩
noncomputable def brS (us : List Int) (L : Nat) (b : Option Int) (x3 x4 x5 x6 : Slot) : List Slot := [.frz (.list (dI us)), .frz (.int (L : Nat)), .frz (optD b), x3, x4, x5, x6]
noncomputable def brB : St := (.cons (.assign [] 4 (.int 0)) (.cons (.for_ [] [5] false (.var 3) (.cons (.aug [] 4 .add (.bin .shl (.int 1) (.bin .sub (.var 1) (.var 5)))) .nil)) (.cons (.ite [] (.cmp .le (.var 4) (.bin .shl (.int 1) (.var 1))) (.cons (.assign [] 6 (.call 15 (.cons (.var 0) (.cons (.var 3) .nil)))) (.cons (.ite [6] (.or (.cmp .is_ (.var 2) .none) (.cmp .lt (.var 6) (.var 2))) (.cons (.assign [6] 2 (.var 6)) .nil) .nil) .nil)) .nil) .nil)))
theorem br_row {b : Option Int} {pre : List (List Nat)} {w : List Nat} (hL : L ≤ 4) (hu : us.length ≤ 4) (hw : In1 L us.length w) (hb : Bst us L pre b) (kn : ∀ b x4 x5 x6, Bst us L (pre ++ [w]) b → Q .next (brS us L b (.frz (.list (dN w))) x4 x5 x6) p) :
    ex (lev 1) brB (brS us L b (.frz (.list (dN w))) x4 x5 x6) p Q ε := by
  have hL2 : L ≤ 1000 := Nat.le_trans hL (by decide)
  refine forW_inv (fun pre s => brS us L b (.frz (.list (dN w))) (.frz (.int (kr L pre : Nat))) s x6) (fun _ _ => p) (fun _ _ => True) x5 trivial (fun pre l post e s _ N kn => ?_) fun s _ => ?_
  · have hl := (hw.2 l (mem_mid e)).2
    have h := kn (.frz (.int (l : Nat))) trivial
    rw [kr_snoc] at h
    unfold brS at h
    rw [Int.natCast_add, ← sub_pow hl] at h
    exact And.intro (sub_ok hl hL2) h
  · refine And.intro (shl_ok hL2) (brD (fun q => ?_) fun q => ?_)
    · rw [pow_nat] at q
      have q := Int.ofNat_le.mp q
      refine eval_total (Nat.succ_pos 0) us w (Nat.le_trans hu (by decide)) (by rw [hw.1]; exact Nat.le_trans hu (by decide)) (fun l hl => Nat.lt_of_le_of_lt (hw.2 l hl).2 (Nat.lt_of_le_of_lt hL (by decide))) ?_
      cases b with
      | none => exact brT rfl (brT rfl (kn (some (cost us w)) _ _ _ (bst_set hb q nofun)))
      | some m => exact brF rfl (brD (fun q2 => kn (some (cost us w)) _ _ _ (bst_set hb q fun m' e => Option.some.inj e ▸ Int.le_of_lt q2)) fun q2 => kn (some m) _ _ _ (bst_keep hb fun _ => ⟨m, rfl, Int.not_lt.mp q2⟩))
    · exact kn b _ _ _ (bst_keep hb fun h => absurd (by rw [pow_nat]; exact Int.ofNat_le.mpr h) q)
theorem eval_byrows (hr : 1 < r) (us : List Int) (L : Nat) (hn : us.length ≤ 4) (hL : 1 ≤ L) (hL2 : L ≤ 4) (hroom : us.length ≤ 2 ^ L) (k : ∀ m, IsMin us L m → Φ false (.int m) p) : lev r 18 [.list (dI us), .int (L : Nat)] p Φ ε := by
  refine lev_of (f := 18) rfl hr (And.intro (dI_le (Nat.le_trans hn (by decide))) ?_)
  rw [dI_len]
  refine eval_rows (Nat.succ_pos 0) us.length L hn hL2 fun fl rs hm => ?_
  refine forW_inv (fun pre s => brS us L s.1 s.2.1 s.2.2.1 s.2.2.2.1 s.2.2.2.2) (fun _ _ => p) (fun pre s => Bst us L pre s.1) ((none, .un, .un, .un, .un) : Option Int × Slot × Slot × Slot × Slot) ⟨nofun, nofun⟩ (fun pre w post e s hI N kn => ?_) fun s hI => ?_
  · exact br_row (Q := fun fl t q => loopW fl (N t q) fun a b => _) hL2 hn ((hm w).1 (mem_mid e)) hI fun b x4 x5 x6 h => kn (b, _, x4, x5, x6) h
  · obtain ⟨m, e, _⟩ := hI.2 (List.replicate us.length L) ((hm _).2 ⟨List.length_replicate, fun l hl => (List.eq_of_mem_replicate hl).symm ▸ ⟨hL, Nat.le_refl L⟩⟩) (by rw [kr_rep, Nat.sub_self, Nat.pow_zero, Nat.mul_one]; exact hroom)
    obtain ⟨ls, a1, a2, a3⟩ := hI.1 m e
    have h := k m ⟨⟨ls, (hm ls).1 a1, a2, a3⟩, fun ls h1 h2 => let ⟨m', e', h⟩ := hI.2 ls ((hm ls).2 h1) h2; Option.some.inj (e.symm.trans e') ▸ h⟩
    show ex (lev (rank 18)) _ _ p _ ε
    unfold brS
    rw [e]
    exact h
end
end Mini
end
section -- Q4
namespace Mk
open Mini

/-- merging the two least of a rising list -/
noncomputable def huF : Nat → List Int → Int
  | k + 1, a :: b :: r => (a + b) + huF k (isort leI (r ++ [a + b]))
  | _, _ => 0

theorem asc_leI {l : List Int} : l.Pairwise (fun a b => leI a b = true) ↔ Asc l := by
  exact ⟨fun h => h.imp leI_iff.mp, fun h => h.imp leI_iff.mpr⟩
theorem isort_asc (l : List Int) : Asc (isort leI l) := asc_leI.1 (isort_sorted totI l)
theorem asc_unique {a b : List Int} (h1 : Asc a) (h2 : Asc b) (hp : a.Perm b) : a = b :=
  hp.eq_of_pairwise (fun _ _ _ _ => Int.le_antisymm) h1 h2

theorem huF_HT : ∀ (k : Nat) (l : List Int), Asc l → l.length = k + 1 → ∀ v : List (Int × Nat), (v.map (·.1)).Perm l → ∃ H, HT v (huF k l) H := by
  intro k
  induction k with
  | zero =>
    intro l _ hl v hv
    have h1 : v.length = 1 := (List.length_map ..).symm.trans (hv.length_eq.trans hl)
    match v, h1 with
    | [(x, h)], _ => exact ⟨h, HT.one x h⟩
  | succ k ih =>
    intro l hs hl v hv
    obtain ⟨v', hp, hsv⟩ := exists_sorted v
    have e : v'.map (·.1) = l := by
      refine asc_unique ?_ hs ((hp.map _).trans hv)
      unfold Asc
      rw [List.pairwise_map]
      exact hsv.imp fun h => h.elim Int.le_of_lt fun q => Int.le_of_eq q.1
    subst e
    rcases v' with _ | ⟨A, _ | ⟨B, R⟩⟩
    · cases hl
    · cases hl
    · rw [List.map_cons, List.map_cons] at *
      have h1 := List.pairwise_cons.1 hsv
      have h2 := List.pairwise_cons.1 h1.2
      have hlen : (isort leI (R.map (·.1) ++ [A.1 + B.1])).length = k + 1 := by
        rw [(isort_perm leI _).length_eq, len_snoc]; exact Nat.succ.inj hl
      obtain ⟨H, t⟩ := ih (isort leI (R.map (·.1) ++ [A.1 + B.1])) (isort_asc _) hlen ((A.1 + B.1, max A.2 B.2 + 1) :: R) ((List.perm_append_comm (l₁ := [A.1 + B.1])).trans (isort_perm leI _).symm)
      refine ⟨H, ?_⟩
      have := HT.step hp.symm (h1.1 B List.mem_cons_self) h2.1 t
      have e2 : huF (k + 1) (A.1 :: B.1 :: R.map (·.1)) = huF k (isort leI (R.map (·.1) ++ [A.1 + B.1])) + A.1 + B.1 := by
        rw [huF, Int.add_comm, Int.add_assoc]
      rw [e2]; exact this

theorem HT.unique {v : List (Int × Nat)} {c c' : Int} {H H' : Nat} (hp : ∀ x ∈ v, 0 < x.1) (t : HT v c H) (t' : HT v c' H') : c = c' := by
  obtain ⟨l1, a1, a2, a3, a4⟩ := t.attained
  obtain ⟨l2, b1, b2, b3, b4⟩ := t'.attained
  have h1 := (t.low hp v.length l2 b1 (fun l hl => Nat.le_of_succ_le (b2 l hl)) (Nat.le_of_eq (b4 _ (Nat.le_succ _)))).1
  have h2 := (t'.low hp v.length l1 a1 (fun l hl => Nat.le_of_succ_le (a2 l hl)) (Nat.le_of_eq (a4 _ (Nat.le_succ _)))).1
  exact Int.le_antisymm (b3 ▸ h1) (a3 ▸ h2)

/-- room is taken alike at a greater longest length -/
theorem kr_scale (L d : Nat) : ∀ ls : List Nat, (∀ l ∈ ls, l ≤ L) → kr (L + d) ls = 2 ^ d * kr L ls
  | [], _ => rfl
  | l :: ls, h => by
    rw [kr, kr, kr_scale L d ls fun x hx => h x (List.mem_cons_of_mem _ hx), Nat.mul_add, ← Nat.pow_add, Nat.add_comm L d, Nat.add_sub_assoc (h l List.mem_cons_self)]
theorem feas_more {L M n : Nat} {ls : List Nat} (h : L ≤ M) (hf : Feas L n ls) : Feas M n ls := by
  obtain ⟨d, rfl⟩ : ∃ d, M = L + d := ⟨M - L, (Nat.add_sub_cancel' h).symm⟩
  refine ⟨hf.1, fun l hl => Nat.le_trans (hf.2.1 l hl) h, ?_⟩
  rw [kr_scale L d ls hf.2.1, Nat.pow_add, Nat.mul_comm (2 ^ L)]
  exact Nat.mul_le_mul_left _ hf.2.2
theorem feas_less {L M n : Nat} {ls : List Nat} (hf : Feas M n ls) (h : L ≤ M) (hl : ∀ l ∈ ls, l ≤ L) : Feas L n ls := by
  obtain ⟨d, rfl⟩ : ∃ d, M = L + d := ⟨M - L, (Nat.add_sub_cancel' h).symm⟩
  refine ⟨hf.1, hl, ?_⟩
  have := hf.2.2
  rw [kr_scale L d ls hl, Nat.pow_add, Nat.mul_comm (2 ^ L)] at this
  exact Nat.le_of_mul_le_mul_left this (Nat.two_pow_pos d)
theorem feas_room {L n : Nat} {ls : List Nat} (hf : Feas L n ls) : n ≤ 2 ^ L := by
  refine Nat.le_trans ?_ hf.2.2
  rw [← hf.1]
  clear hf
  induction ls with
  | nil => exact Nat.le_refl _
  | cons l ls ih => rw [List.length_cons, kr, Nat.add_comm]; exact Nat.add_le_add (Nat.two_pow_pos (L - l)) ih
theorem items_len (w : List Int) : (items w).length = w.length := List.length_map ..
theorem items_pos {w : List Int} (hp : ∀ x ∈ w, 0 < x) : ∀ x ∈ items w, 0 < x.1 := by
  intro x hx
  obtain ⟨y, hy, rfl⟩ := List.mem_map.1 hx
  exact hp y hy
/-- with room enough the least row is what merging the two least comes to -/
theorem pkg_wide (w : List Int) (hw : Asc w) (hp : ∀ x ∈ w, 0 < x) (h2 : 2 ≤ w.length) {c : Int} {H : Nat} (t : HT (items w) c H) (L : Nat) (hL : w.length ≤ L + 1) : cost w (pkg w L) = c := by
  have hroom : w.length ≤ 2 ^ L := by
    exact Nat.le_trans hL Nat.lt_two_pow_self
  obtain ⟨f, _, _, _, low⟩ := pkg_spec w hw hp h2 L hroom
  have h1 := (t.low (items_pos hp) L (pkg w L) (by rw [items_len]; exact f.1) f.2.1 f.2.2).1
  rw [costv_items] at h1
  obtain ⟨l1, a1, a2, a3, a4⟩ := t.attained
  rw [items_len] at a1 a2 a4
  rw [costv_items] at a3
  have h3 := low l1 ⟨a1, fun l hl => Nat.le_of_succ_le_succ (Nat.le_trans (a2 l hl) hL), Nat.le_of_eq (a4 L hL)⟩
  exact Int.le_antisymm (a3 ▸ h3) h1
end Mk
end
section -- F10
namespace Mini
open PySem Mk

section
variable {r : Nat} {p : Pool} {Φ : Bool → D → Pool → Prop} {ε : Pool → Prop}
theorem eval_ordered (hr : 0 < r) (cs : List Int) (ls : List Nat) (h1 : cs.length ≤ lim) (h2 : ls.length ≤ lim) (ho : ∀ x ∈ cs.zip ls, ∀ y ∈ cs.zip ls, 0 < y.1 → y.1 < x.1 → x.2 ≤ y.2) (k : Φ false (.bool true) p) : lev r 21 [.list (dI cs), .list (dN ls)] p Φ ε := by
  have ez : zipL (dI cs) (dN ls) = (cs.zip ls).map fun x => D.tup [.int x.1, .int (x.2 : Nat)] := zip_map ..
  refine lev_of (f := 21) rfl hr (And.intro ⟨dI_le h1, dN_le h2⟩ ?_)
  rw [ez]
  refine forW_inv (fun _ s => [.frz (.list (dI cs)), .frz (.list (dN ls)), s.1, s.2.1, s.2.2.1, s.2.2.2]) (fun _ _ => p) (fun _ _ => True) ((.un, .un, .un, .un) : Slot × Slot × Slot × Slot) trivial ?_ ?_
  rotate_left
  · exact fun s _ => k
  refine fun pre d post e s _ N kn => And.intro rfl (And.intro ⟨dI_le h1, dN_le h2⟩ ?_)
  rw [ez]
  refine forW_inv (fun _ s => [.frz (.list (dI cs)), .frz (.list (dN ls)), .frz (.int d.1), .frz (.int (d.2 : Nat)), s.1, s.2]) (fun _ _ => p) (fun _ _ => True) ((s.2.2.1, s.2.2.2) : Slot × Slot) trivial ?_ ?_
  rotate_left
  · exact fun s _ => kn (.frz (.int d.1), .frz (.int (d.2 : Nat)), s.1, s.2) trivial
  intro pre2 d2 post2 e2 s _ N2 kn2
  have h := kn2 (.frz (.int d2.1), .frz (.int (d2.2 : Nat))) trivial
  exact And.intro rfl (brD (fun c1 => brD (fun c2 => brF (decide_eq_false fun q => Nat.not_le_of_lt (Int.ofNat_lt.mp q) (ho d (mem_mid e) d2 (mem_mid e2) c1 c2)) h) fun _ => brF rfl h) fun _ => brF rfl h)
theorem eval_brefused (hr : 1 < r) (cs : List Int) (ls : List Nat) (h1 : cs.length ≤ lim) (h2 : ls.length ≤ lim) (hl : ∀ l ∈ ls, l < 1000000) (hc : ∀ c ∈ cs, 0 ≤ c) (hb : ∃ i, ∃ (h : i < cs.length), 0 < cs[i] ∧ ls[i]?.getD 0 = 0) (k : Φ false (.bool true) p) : lev r 23 [.list (dI cs), .list (dN ls)] p Φ ε :=
  lev_of (f := 23) rfl hr (eval_bits (Nat.succ_pos 0) cs ls h1 h2 hl hc (fun t => let ⟨i, hi, h0, h⟩ := hb; absurd h (t i hi hi h0).2) fun _ => k)
theorem eval_lrefused (hr : 3 < r) (cs : List Int) (L : Nat) (h : cs.length ≤ 12) (hc : ∀ c ∈ cs, c < 0 → c.natAbs < 10 ^ 10) (h1 : 1 ≤ L) (h2 : L ≤ 1000) (hb : (∃ c ∈ cs, c < 0) ∨ 2 ^ L < (wF cs).length) (k : Φ false (.bool true) p) : lev r 24 [.list (dI cs), .int (L : Nat)] p Φ ε :=
  lev_of (f := 24) rfl hr (eval_least (Nat.le_refl 3) cs L h hc h1 h2 (fun hp hm => hb.elim (fun ⟨c, hc, hn⟩ => absurd (hp c hc) (Int.not_le.mpr hn)) fun q => absurd hm (Nat.not_le_of_lt q)) fun _ => k)
theorem isort_len (l : List Int) : (isort leI l).length = l.length := (isort_perm leI l).length_eq
theorem eval_lmerged (hr : 0 < r) (us : List Int) (h : us.length ≤ 60) (k : ∀ m, m = huF (us.length - 1) (isort leI us) → Φ false (.int m) p) : lev r 19 [.list (dI us)] p Φ ε := by
  refine lev_of (f := 19) rfl hr (Or.inl ⟨us, rfl, Nat.lt_of_le_of_lt h (by decide), And.intro rfl ?_⟩)
  show ex (lev (rank 19)) _ _ p _ ε
  refine exWhile (fun s => [.frz (.list (dI us)), .own (dI s.1), .frz (.int s.2.1), s.2.2]) (fun _ => p) (fun k s => s.1.length ≤ us.length ∧ k = s.1.length ∧ s.2.1 + huF (s.1.length - 1) s.1 = huF (us.length - 1) (isort leI us)) us.length ((isort leI us, 0, .un) : List Int × Int × Slot) (Nat.lt_of_le_of_lt h (by decide)) ⟨Nat.le_of_eq (isort_len us), (isort_len us).symm, by rw [isort_len]; exact Int.zero_add _⟩ rfl rfl ?_
  rintro k2 ⟨l, f, x⟩ ⟨hl, hk, hf⟩ N kn
  have hl60 := Nat.le_trans hl h
  have hlim : l.length ≤ lim := Nat.le_trans hl60 (by decide)
  refine And.intro (dI_le hlim) (brD (fun q => ?_) fun q => ?_)
  · match l, q with
    | [], q => exact absurd q (show ¬ (1 : Int) < ((0 : Nat) : Int) by decide)
    | [_], q => exact absurd q (Int.lt_irrefl 1)
    | a :: b :: t, _ =>
      have ht : t.length + 2 ≤ 60 := hl60
      have hlen : (isort leI (t ++ [a + b])).length = t.length + 1 := by rw [isort_len, len_snoc]
      have h := kn (t.length + 1) (isort leI (t ++ [a + b]), f + (a + b), .frz (.int (a + b))) hk ⟨by rw [hlen]; exact Nat.le_of_succ_le hl, hlen.symm, by rw [hlen]; exact (Int.add_assoc _ _ _).trans hf⟩
      refine idx_I (i := 0) (by decide) (Nat.succ_pos _) (idx_I (i := 1) (by decide) (Nat.succ_lt_succ (Nat.succ_pos _)) (And.intro ⟨nofun, dI_le hlim⟩ (And.intro (Nat.le_of_ble_eq_true rfl) ?_)))
      show (pickD (dI (a :: b :: t)) (some ((2 : Nat) : Int)) none none).length + 1 ≤ lim ∧ sortW (pickD (dI (a :: b :: t)) (some ((2 : Nat) : Int)) none none ++ [.int (a + b)]) _
      rw [pick_drop]
      exact And.intro (Nat.le_trans (Nat.succ_le_succ (Nat.le_of_eq (dI_len t))) (Nat.le_trans (Nat.le_of_succ_le ht) (by decide))) (Or.inl ⟨t ++ [a + b], dI_app t (a + b), by rw [len_snoc]; exact Nat.lt_of_lt_of_le ht (by decide), h⟩)
  · have hl1 : l.length ≤ 1 := Nat.le_of_not_lt fun w => q (by rw [dI_len]; exact Int.ofNat_lt.mpr w)
    rw [Nat.sub_eq_zero_of_le hl1] at hf
    exact k f ((Int.add_zero f).symm.trans hf)
end
end Mini
end
section -- F11
namespace Mini
open PySem Mk

noncomputable def kq (j : Nat) : List Nat → Nat
  | [] => 0
  | l :: ls => (if 0 < l ∧ l ≤ j then 2 ^ (j - l) else 0) + kq j ls
theorem kq_zero : ∀ ls : List Nat, kq 0 ls = 0
  | [] => rfl
  | l :: ls => by rw [kq, if_neg fun h => Nat.not_le_of_lt h.1 h.2, kq_zero ls]
theorem kq_succ (j : Nat) : ∀ ls : List Nat, kq (j + 1) ls = 2 * kq j ls + ls.count (j + 1)
  | [] => rfl
  | l :: ls => by
    rw [kq, kq, kq_succ j ls, List.count_cons]
    by_cases c : 0 < l ∧ l ≤ j
    · rw [if_pos c, if_pos ⟨c.1, Nat.le_succ_of_le c.2⟩, if_neg (by rw [beq_iff_eq]; exact fun e => Nat.not_succ_le_self j (Nat.le_trans (Nat.le_of_eq e.symm) c.2)), Nat.succ_sub c.2, Nat.pow_succ]; omega
    · rw [if_neg c]
      by_cases c2 : l = j + 1
      · rw [c2, if_pos ⟨Nat.succ_pos j, Nat.le_refl _⟩, if_pos (beq_self_eq_true _), Nat.sub_self]; omega
      · rw [if_neg fun h => c ⟨h.1, Nat.le_of_lt_succ (Nat.lt_of_le_of_ne h.2 c2)⟩, if_neg (by rw [beq_iff_eq]; exact c2), Nat.zero_add, Nat.zero_add]; rfl
theorem kq_kp (L : Nat) : ∀ ls : List Nat, (∀ l ∈ ls, l ≤ L) → kq L ls = kp L ls
  | [], _ => rfl
  | l :: ls, h => by
    rw [kq, kp, kq_kp L ls fun x hx => h x (List.mem_cons_of_mem _ hx)]
    congr 1
    by_cases c : 0 < l
    · rw [if_pos c, if_pos ⟨c, h l List.mem_cons_self⟩]
    · rw [if_neg c, if_neg fun h => c h.1]
theorem room_kq (ls : List Nat) : ∀ j : Nat, roomF ((List.range j).map fun i => ((ls.count (i + 1) : Nat) : Int)) = (2 ^ j : Nat) - (kq j ls : Nat)
  | 0 => by rw [kq_zero]; rfl
  | j + 1 => by
    rw [List.range_succ, List.map_append, List.map_singleton, roomF_snoc, room_kq ls j, kq_succ, Nat.pow_succ]; omega
theorem room_cnt (ls : List Nat) (L : Nat) (hl : ∀ l ∈ ls, l ≤ L) : roomF (((cntF L ls).map fun n : Nat => (n : Int)).drop 1) = (2 ^ L : Nat) - (kp L ls : Nat) := by
  rw [← kq_kp L ls hl, ← room_kq]
  unfold cntF
  rw [List.range_succ_eq_map, List.map_cons, List.map_cons, List.map_map, List.map_map]; rfl
theorem dN_dI (l : List Nat) : dN l = dI (l.map fun n : Nat => (n : Int)) := (List.map_map (f := fun n : Nat => (n : Int)) (g := D.int) (l := l)).symm
theorem cnt_idx {K : D → Prop} {L i : Nat} {ls : List Nat} (h1 : i < 1000000) (h : i ≤ L) (k : K (.int (ls.count i : Nat))) : idxW (dN (cntF L ls)) (.int (i : Nat)) K := by
  have hi : i < (cntF L ls).length := by rw [cntF_len]; exact Nat.lt_succ_of_le h
  rw [← cntF_at hi] at k
  exact idx_N h1 hi k
section
variable {r : Nat} {p : Pool} {Φ : Bool → D → Pool → Prop} {ε : Pool → Prop}
theorem eval_roomN (hr : 0 < r) {ls : List Nat} {L : Nat} (hL : L < lim) (hl : ∀ l ∈ ls, l ≤ L) (k : Φ false (.int ((2 ^ L : Nat) - (kp L ls : Nat))) p) : lev r 1 [.list (dN (cntF L ls))] p Φ ε := by
  rw [← room_cnt ls L hl] at k
  rw [dN_dI]
  exact eval_room hr _ (by rw [List.length_map, cntF_len]; exact hL) k
theorem eval_check2 (hr : 1 < r) (ls : List Nat) (L : Nat) (h : ls.length ≤ lim) (hL1 : 1 ≤ L) (hL : L < lim) (hl : ∀ l ∈ ls, l ≤ L) (hu : ls.count 0 < ls.length) (hk : kp L ls ≤ 2 ^ L)
    (hk2 : kp L ls = 2 ^ L ∨ (ls.length = ls.count 0 + 1 ∧ ls.count 1 = 1)) (k : ∀ b d, Φ b d p) : lev r 2 [.list (dN ls), .int (L : Nat), .bool true] p Φ ε := by
  refine lev_of (f := 2) rfl hr (eval_counts (Nat.succ_pos 0) ls h hL hl (And.intro (dN_le h) (cnt_idx (i := 0) (by decide) (Nat.zero_le _) ?_)))
  rw [dN_len]
  refine brF (decide_eq_false fun q => Nat.ne_of_gt hu (Int.ofNat.inj (Int.sub_eq_zero.mp q))) ?_
  refine eval_roomN (Nat.succ_pos 0) hL hl (brF (decide_eq_false (Int.not_lt.mpr (Int.sub_nonneg_of_le (Int.ofNat_le.mpr hk)))) (brD (fun c => ?_) fun _ => brF rfl (k _ _)))
  obtain ⟨k1, k2⟩ := hk2.resolve_left fun q => Int.lt_irrefl 0 (by rw [q, Int.sub_self] at c; exact c)
  exact brT rfl (brT (decide_eq_true (by omega)) (cnt_idx (i := 1) (by decide) hL1 (brF (by rw [k2]; rfl) (k _ _))))
end
end Mini
end
section -- Q5
namespace Mk
open Mini

theorem lift_zip {α : Type} {a b : List α} (h : a.Perm b) : ∀ ds : List Nat, ds.length = a.length → ∃ ds' : List Nat, ds'.length = b.length ∧ (a.zip ds).Perm (b.zip ds') := by
  induction h with
  | nil => intro ds h; exact ⟨ds, h, by simp⟩
  | cons x _ ih =>
    intro ds h
    match ds, h with
    | d :: ds, h =>
      obtain ⟨ds', h1, h2⟩ := ih ds (by simpa using h)
      exact ⟨d :: ds', by simp [h1], by simpa using h2.cons (x, d)⟩
  | swap x y l =>
    intro ds h
    match ds, h with
    | d :: d' :: ds, h => exact ⟨d' :: d :: ds, by simpa using h, by simpa using List.Perm.swap ..⟩
  | trans _ _ i j =>
    intro ds h
    obtain ⟨d1, h1, h2⟩ := i ds h
    obtain ⟨d2, k1, k2⟩ := j d1 h1
    exact ⟨d2, k1, h2.trans k2⟩

theorem plF_snoc : ∀ (ps : List ((Int × Int) × Nat)) (f : List Nat) (x : Nat), (∀ q ∈ ps, q.1.2.toNat < f.length) → plF (f ++ [x]) ps = plF f ps ++ [x]
  | [], _, _, _ => rfl
  | q :: ps, f, x, h => by
    have h0 := h q (by simp)
    show plF ((f ++ [x]).set q.1.2.toNat q.2) ps = plF (f.set q.1.2.toNat q.2) ps ++ [x]
    rw [List.set_append_left _ _ h0]
    exact plF_snoc ps _ x fun y hy => by rw [List.length_set]; exact h y (by simp [hy])
theorem usedP_lt (cs : List Int) : ∀ r ∈ usedP cs, 0 < r.1 ∧ 0 ≤ r.2 ∧ r.2 < cs.length := by
  intro r hr
  unfold usedP at hr
  obtain ⟨x, hx, rfl⟩ := List.mem_map.1 hr
  obtain ⟨hx, hp⟩ := List.mem_filter.1 hx
  obtain ⟨h1, h2, h3⟩ := List.mem_zipIdx hx
  refine ⟨by simpa using hp, ?_, ?_⟩ <;> simp <;> omega

theorem snoc_ind {α : Type} {P : List α → Prop} (h0 : P []) (hs : ∀ l x, P l → P (l ++ [x])) (l : List α) : P l := by
  have : ∀ l : List α, P l.reverse := by
    intro l
    induction l with
    | nil => exact h0
    | cons x l ih => rw [List.reverse_cons]; exact hs _ _ ih
  have h := this l.reverse
  rwa [List.reverse_reverse] at h

theorem usedP_asc (cs : List Int) : (usedP cs).Pairwise (fun a b => a.2 < b.2) := by
  induction cs using snoc_ind with
  | h0 => exact .nil
  | hs cs c ih =>
    rw [usedP_app]
    split
    · rw [List.pairwise_append]
      refine ⟨ih, by simp, fun a ha b hb => ?_⟩
      have : b = (c, (cs.length : Int)) := by simpa using hb
      subst this
      exact (usedP_lt cs a ha).2.2
    · simpa using ih
theorem usedP_fst (cs : List Int) : (usedP cs).map (·.1) = cs.filter (fun c => decide (0 < c)) := by
  induction cs using snoc_ind with
  | h0 => rfl
  | hs cs c ih =>
    rw [usedP_app, List.map_append, ih, List.filter_append]
    congr 1
    by_cases h : 0 < c <;> simp [h]

theorem placed_used (cs : List Int) : ∀ ds : List Nat, ds.length = (usedP cs).length →
    (cs.zip (plF (List.replicate cs.length 0) ((usedP cs).zip ds))).filter (fun x => decide (0 < x.1)) = ((usedP cs).zip ds).map (fun x => (x.1.1, x.2)) ∧
    ∀ x ∈ cs.zip (plF (List.replicate cs.length 0) ((usedP cs).zip ds)), x.1 ≤ 0 → x.2 = 0 := by
  induction cs using snoc_ind with
  | h0 =>
    intro ds h
    have : ds = [] := by simpa [usedP] using h
    subst this
    simp [usedP]
  | hs cs c ih =>
    intro ds h
    rw [usedP_app] at h ⊢
    have hrep : List.replicate (cs ++ [c]).length 0 = List.replicate cs.length 0 ++ [0] := by
      simp [List.replicate_succ']
    rw [hrep]
    have hb : ∀ ds : List Nat, ∀ q ∈ (usedP cs).zip ds, q.1.2.toNat < (List.replicate cs.length 0).length := by
      intro ds q hq
      have := usedP_lt cs q.1 (List.of_mem_zip (l₂ := ds) (b := q.2) hq).1
      simp; omega
    by_cases h0 : 0 < c
    · rw [if_pos h0] at h ⊢
      have hne : ds ≠ [] := by intro e; subst e; simp at h
      obtain ⟨d0, d, rfl⟩ : ∃ d0 d, ds = d0 ++ [d] := ⟨_, _, (List.dropLast_concat_getLast hne).symm⟩
      have hl : d0.length = (usedP cs).length := by simpa using h
      obtain ⟨i1, i2⟩ := ih d0 hl
      rw [List.zip_append hl.symm]
      have e1 : plF (List.replicate cs.length 0 ++ [0]) ((usedP cs).zip d0 ++ [((c, (cs.length : Int)), d)]) = plF (List.replicate cs.length 0) ((usedP cs).zip d0) ++ [d] := by
        rw [plF, List.foldl_append]
        show (plF (List.replicate cs.length 0 ++ [0]) ((usedP cs).zip d0)).set _ d = _
        rw [plF_snoc _ _ _ (hb d0)]
        have : ((cs.length : Int)).toNat = (plF (List.replicate cs.length 0) ((usedP cs).zip d0)).length := by rw [plF_len]; simp
        simp only [this]
        simp
      show (List.filter _ ((cs ++ [c]).zip (plF _ ((usedP cs).zip d0 ++ [((c, (cs.length : Int)), d)]))) = _) ∧ ∀ x ∈ (cs ++ [c]).zip (plF _ ((usedP cs).zip d0 ++ [((c, (cs.length : Int)), d)])), _
      rw [e1, List.zip_append (by rw [plF_len]; simp), List.filter_append, i1]
      refine ⟨by simp [h0], fun x hx hx0 => ?_⟩
      rcases List.mem_append.1 hx with hx | hx
      · exact i2 x hx hx0
      · have : x = (c, d) := by simpa using hx
        subst this; simp at hx0; omega
    · rw [if_neg h0, List.append_nil] at h ⊢
      obtain ⟨i1, i2⟩ := ih ds h
      rw [plF_snoc _ _ _ (hb ds), List.zip_append (by rw [plF_len]; simp), List.filter_append, i1]
      refine ⟨by simp [h0], fun x hx hx0 => ?_⟩
      rcases List.mem_append.1 hx with hx | hx
      · exact i2 x hx hx0
      · have : x = (c, 0) := by simpa using hx
        subst this; rfl

theorem pw_inj {α : Type} {f : α → Int} {l : List α} (h : l.Pairwise (fun a b => f a < f b)) : ∀ x ∈ l, ∀ y ∈ l, f x = f y → x = y := by
  induction l with
  | nil => intro x hx; simp at hx
  | cons a l ih =>
    have h1 := List.pairwise_cons.1 h
    intro x hx y hy e
    rcases List.mem_cons.1 hx with rfl | hx1 <;> rcases List.mem_cons.1 hy with rfl | hy1
    · rfl
    · have := h1.1 y hy1; omega
    · have := h1.1 x hx1; omega
    · exact ih h1.2 x hx1 y hy1 e
theorem zip_pw {α : Type} {R : α → α → Prop} {l : List α} (h : l.Pairwise R) : ∀ ds : List Nat, (l.zip ds).Pairwise (fun a b => R a.1 b.1) := by
  induction l with
  | nil => intro ds; simp
  | cons a l ih =>
    intro ds
    have h1 := List.pairwise_cons.1 h
    match ds with
    | [] => simp
    | d :: ds =>
      rw [List.zip_cons_cons]
      exact List.pairwise_cons.2 ⟨fun x hx => h1.1 x.1 (List.of_mem_zip (b := x.2) hx).1, ih h1.2 ds⟩

noncomputable def plc (cs : List Int) (ds : List Nat) : List Nat := plF (List.replicate cs.length 0) ((rowsF cs).zip ds)
theorem plc_len (cs : List Int) (ds : List Nat) : (plc cs ds).length = cs.length := by unfold plc; rw [plF_len]; simp
theorem plc_spec (cs : List Int) (ds : List Nat) (h : ds.length = (wF cs).length) :
    ((cs.zip (plc cs ds)).filter (fun x => decide (0 < x.1))).Perm ((wF cs).zip ds) ∧ ∀ x ∈ cs.zip (plc cs ds), x.1 ≤ 0 → x.2 = 0 := by
  rw [wF_len] at h
  have hp : (rowsF cs).Perm (usedP cs) := isort_perm leP (usedP cs)
  obtain ⟨ds', h1, h2⟩ := lift_zip hp ds h
  have hz := zip_pw (usedP_asc cs) ds'
  have e : plc cs ds = plF (List.replicate cs.length 0) ((usedP cs).zip ds') := by
    refine h2.foldl_eq' (fun x hx y hy z => ?_) _
    by_cases c : x = y
    · subst c; rfl
    · refine List.set_comm _ _ fun e => c ?_
      have hx' := h2.mem_iff.1 hx
      have hy' := h2.mem_iff.1 hy
      have a1 := usedP_lt cs x.1 (List.of_mem_zip (b := x.2) hx').1
      have a2 := usedP_lt cs y.1 (List.of_mem_zip (b := y.2) hy').1
      exact pw_inj (f := fun q : (Int × Int) × Nat => q.1.2) hz x hx' y hy' (by omega)
  obtain ⟨i1, i2⟩ := placed_used cs ds' h1
  rw [e]
  refine ⟨?_, i2⟩
  rw [i1]
  refine (h2.symm.map _).trans ?_
  have : ((rowsF cs).zip ds).map (fun x => (x.1.1, x.2)) = (wF cs).zip ds := by
    unfold wF
    rw [List.zip_map_left]
    rfl
  rw [this]

theorem wF_asc (cs : List Int) : Asc (wF cs) := by
  unfold Asc wF
  rw [List.pairwise_map]
  exact (isort_sorted totP (usedP cs)).imp fun h => (leP_iff.mp h).elim Int.le_of_lt fun q => Int.le_of_eq q.1
theorem wF_perm (cs : List Int) : (wF cs).Perm (cs.filter (fun c => decide (0 < c))) := by
  rw [← usedP_fst]
  exact (isort_perm leP (usedP cs)).map _
theorem wF_pos (cs : List Int) : ∀ x ∈ wF cs, 0 < x := fun x hx => by
  have := (List.mem_filter.1 ((wF_perm cs).mem_iff.1 hx)).2
  simpa using this
theorem wF_isort (cs : List Int) : isort leI (cs.filter (fun c => decide (0 < c))) = wF cs :=
  asc_unique (isort_asc _) (wF_asc cs) ((isort_perm leI _).trans (wF_perm cs).symm)

theorem costZ_perm {a b : List (Int × Nat)} (h : a.Perm b) : costZ a = costZ b := by
  induction h with
  | nil => rfl
  | cons x _ ih => simp only [costZ, ih]
  | swap x y l => simp only [costZ]; omega
  | trans _ _ i j => rw [i, j]
theorem costZ_filter : ∀ l : List (Int × Nat), (∀ x ∈ l, x.1 ≤ 0 → x.2 = 0) → costZ (l.filter (fun x => decide (0 < x.1))) = costZ l
  | [], _ => rfl
  | x :: l, h => by
    have i := costZ_filter l fun y hy => h y (by simp [hy])
    by_cases c : 0 < x.1
    · rw [List.filter_cons_of_pos (by simpa using c)]
      simp only [costZ, i]
    · rw [List.filter_cons_of_neg (by simpa using c)]
      have := h x (by simp) (by omega)
      simp only [costZ, i, this]; simp
theorem plc_cost (cs : List Int) (ds : List Nat) (h : ds.length = (wF cs).length) : cost cs (plc cs ds) = cost (wF cs) ds := by
  obtain ⟨h1, h2⟩ := plc_spec cs ds h
  rw [cost_zip, cost_zip, ← costZ_filter _ h2, costZ_perm h1]

/-- the lengths above nought are the depths -/
theorem plc_perm (cs : List Int) (ds : List Nat) (h : ds.length = (wF cs).length) (hp : ∀ d ∈ ds, 0 < d) : ((plc cs ds).filter (fun l => decide (0 < l))).Perm ds := by
  obtain ⟨h1, h2⟩ := plc_spec cs ds h
  have e1 : plc cs ds = (cs.zip (plc cs ds)).map Prod.snd := by rw [List.map_snd_zip (by rw [plc_len]; exact Nat.le_refl _)]
  have e2 : ds = ((wF cs).zip ds).map Prod.snd := by rw [List.map_snd_zip (by omega)]
  have h3 := h1.map Prod.snd
  rw [← e2] at h3
  have e3 : (plc cs ds).filter (fun l => decide (0 < l)) = ((cs.zip (plc cs ds)).filter (fun x => decide (0 < x.1))).map Prod.snd := by
    conv => lhs; rw [e1]
    rw [List.filter_map]
    congr 1
    refine List.filter_congr fun x hx => ?_
    show decide (0 < x.2) = decide (0 < x.1)
    by_cases c : 0 < x.1
    · have : x.2 ∈ ds := by
        refine h3.mem_iff.1 (List.mem_map.2 ⟨x, List.mem_filter.2 ⟨hx, by simpa using c⟩, rfl⟩)
      have := hp _ this
      simp [c, this]
    · have := h2 x hx (by omega)
      simp [c, this]
  rw [e3]; exact h3
theorem plc_iff (cs : List Int) (ds : List Nat) (h : ds.length = (wF cs).length) (hp : ∀ d ∈ ds, 0 < d) : ∀ x ∈ cs.zip (plc cs ds), (0 < x.1 → x.2 ∈ ds) ∧ (x.1 ≤ 0 → x.2 = 0) := by
  obtain ⟨h1, h2⟩ := plc_spec cs ds h
  refine fun x hx => ⟨fun c => ?_, h2 x hx⟩
  have := h1.mem_iff.1 (List.mem_filter.2 ⟨hx, by simpa using c⟩)
  exact (List.of_mem_zip (a := x.1) this).2
theorem plc_mem (cs : List Int) (ds : List Nat) (h : ds.length = (wF cs).length) (hp : ∀ d ∈ ds, 0 < d) : ∀ l ∈ plc cs ds, l = 0 ∨ l ∈ ds := by
  intro l hl
  by_cases c : 0 < l
  · exact .inr ((plc_perm cs ds h hp).mem_iff.1 (List.mem_filter.2 ⟨hl, by simpa using c⟩))
  · exact .inl (by omega)
theorem plc_mem' (cs : List Int) (ds : List Nat) (h : ds.length = (wF cs).length) (hp : ∀ d ∈ ds, 0 < d) : ∀ d ∈ ds, d ∈ plc cs ds := fun d hd =>
  (List.mem_filter.1 ((plc_perm cs ds h hp).mem_iff.2 hd)).1
theorem kp_filter (L : Nat) : ∀ ls : List Nat, kp L ls = kr L (ls.filter (fun l => decide (0 < l)))
  | [] => rfl
  | l :: ls => by
    by_cases c : 0 < l
    · rw [List.filter_cons_of_pos (by simpa using c)]
      simp only [kp, kr, if_pos c, kp_filter L ls]
    · rw [List.filter_cons_of_neg (by simpa using c)]
      simp only [kp, if_neg c, kp_filter L ls]; omega
theorem plc_kp (cs : List Int) (ds : List Nat) (h : ds.length = (wF cs).length) (hp : ∀ d ∈ ds, 0 < d) (L : Nat) : kp L (plc cs ds) = kr L ds := by
  rw [kp_filter, kr_perm L (plc_perm cs ds h hp)]
theorem plc_count1 (cs : List Int) (ds : List Nat) (h : ds.length = (wF cs).length) (hp : ∀ d ∈ ds, 0 < d) : (plc cs ds).count 1 = ds.count 1 := by
  have h1 := (plc_perm cs ds h hp).count_eq 1
  rw [← h1, List.count_filter (by decide)]
theorem plc_count0 (cs : List Int) (ds : List Nat) (h : ds.length = (wF cs).length) (hp : ∀ d ∈ ds, 0 < d) : (plc cs ds).count 0 + ds.length = (plc cs ds).length := by
  rw [← (plc_perm cs ds h hp).length_eq]
  generalize plc cs ds = ls
  induction ls with
  | nil => rfl
  | cons l ls ih =>
    rw [List.count_cons, List.filter_cons, List.length_cons]
    by_cases c : 0 < l
    · have : ¬ l = 0 := by omega
      simp [c, this]; omega
    · have : l = 0 := by omega
      subst this; simp; omega
/-- falling depths for rising counts: no greater count has a longer code -/
theorem plc_ordered (cs : List Int) (ds : List Nat) (h : ds.length = (wF cs).length) (hd : Desc ds) : ∀ x ∈ cs.zip (plc cs ds), ∀ y ∈ cs.zip (plc cs ds), 0 < y.1 → y.1 < x.1 → x.2 ≤ y.2 := by
  obtain ⟨h1, h2⟩ := plc_spec cs ds h
  intro x hx y hy h0 hlt
  have hx' := h1.mem_iff.1 (List.mem_filter.2 ⟨hx, by simp; omega⟩)
  have hy' := h1.mem_iff.1 (List.mem_filter.2 ⟨hy, by simpa using h0⟩)
  have key : ∀ (w : List Int) (ds : List Nat), Asc w → Desc ds → ∀ x ∈ w.zip ds, ∀ y ∈ w.zip ds, y.1 < x.1 → x.2 ≤ y.2 := by
    intro w
    induction w with
    | nil => intro ds _ _ x hx; simp at hx
    | cons a w ih =>
      intro ds ha hd x hx y hy hlt
      match ds, hd, hx, hy with
      | [], _, hx, _ => simp at hx
      | d :: ds, hd, hx, hy =>
        have a1 := List.pairwise_cons.1 ha
        have d1 := List.pairwise_cons.1 hd
        rw [List.zip_cons_cons] at hx hy
        rcases List.mem_cons.1 hx with rfl | hx1 <;> rcases List.mem_cons.1 hy with rfl | hy1
        · omega
        · have := a1.1 y.1 (List.of_mem_zip (b := y.2) hy1).1; simp only at hlt; omega
        · exact d1.1 x.2 (List.of_mem_zip (a := x.1) hx1).2
        · exact ih ds a1.2 d1.2 x hx1 y hy1 hlt
  exact key (wF cs) ds (wF_asc cs) hd x hx' y hy' hlt

/-- minimum over rows: of counts in another order -/
theorem isMin_perm {us vs : List Int} {L : Nat} {m : Int} (h : us.Perm vs) (hm : IsMin us L m) : IsMin vs L m := by
  have go : ∀ {a b : List Int}, a.Perm b → ∀ ls, In1 L a.length ls → ∃ ls', In1 L b.length ls' ∧ kr L ls' = kr L ls ∧ cost b ls' = cost a ls := by
    intro a b hab ls hl
    obtain ⟨ls', e1, e2, e3, _⟩ := lift_perm (hab.map (fun x => (x, 0))) ls (by simpa using hl.1)
    refine ⟨ls', ⟨by simpa using e1, fun l hl' => hl.2 l (e2.mem_iff.2 hl')⟩, (kr_perm L e2).symm, ?_⟩
    have := e3
    rw [show a.map (fun x => (x, 0)) = items a from rfl, show b.map (fun x => (x, 0)) = items b from rfl, costv_items, costv_items] at this
    exact this
  refine ⟨?_, fun ls h1 h2 => ?_⟩
  · obtain ⟨ls, a1, a2, a3⟩ := hm.1
    obtain ⟨ls', b1, b2, b3⟩ := go h ls a1
    exact ⟨ls', b1, by omega, by omega⟩
  · obtain ⟨ls', b1, b2, b3⟩ := go h.symm ls h1
    have := hm.2 ls' b1 (by omega)
    omega
theorem isMin_pkg {us : List Int} {L : Nat} {m : Int} {w : List Int} (hw : Asc w) (hp : ∀ x ∈ w, 0 < x) (h2 : 2 ≤ w.length) (hL : w.length ≤ 2 ^ L) (h : us.Perm w) (hm : IsMin us L m) : m = cost w (pkg w L) := by
  obtain ⟨f, _, pos, _, low⟩ := pkg_spec w hw hp h2 L hL
  have hm := isMin_perm h hm
  obtain ⟨ls, a1, a2, a3⟩ := hm.1
  have h1 := low ls ⟨a1.1, fun l hl => (a1.2 l hl).2, a2⟩
  have h2 := hm.2 (pkg w L) ⟨f.1, fun l hl => ⟨pos l hl, f.2.1 l hl⟩⟩ f.2.2
  omega
end Mk
end
section -- F12
namespace Mini
open PySem Mk

noncomputable def dsF (cs : List Int) (L : Nat) : List Nat := if (wF cs).length < 2 then List.replicate (wF cs).length 1 else pkg (wF cs) L
theorem llF_plc (cs : List Int) (L : Nat) : llF cs L = plc cs (dsF cs L) := rfl
theorem dsF_len (cs : List Int) (L : Nat) : (dsF cs L).length = (wF cs).length := by
  unfold dsF
  split
  · exact List.length_replicate
  · exact pkg_len _ _
theorem dsF_ok (cs : List Int) (L : Nat) (hL : 1 ≤ L) (hn : (wF cs).length ≤ 2 ^ L) :
    (∀ d ∈ dsF cs L, 0 < d ∧ d ≤ L) ∧ Desc (dsF cs L) ∧ kr L (dsF cs L) ≤ 2 ^ L ∧ (2 ≤ (wF cs).length → kr L (dsF cs L) = 2 ^ L) := by
  unfold dsF
  split
  · rename_i h
    refine ⟨fun d hd => ?_, ?_, ?_, fun h2 => absurd h (Nat.not_lt_of_le h2)⟩
    · rw [List.eq_of_mem_replicate hd]; exact ⟨Nat.succ_pos 0, hL⟩
    · exact List.pairwise_replicate.mpr (.inr (Nat.le_refl 1))
    · rw [kr_rep]
      exact Nat.le_trans (Nat.mul_le_mul_right _ (Nat.le_of_lt_succ h)) (by rw [Nat.one_mul]; exact Nat.pow_le_pow_right (by decide) (Nat.sub_le _ _))
  · rename_i h
    obtain ⟨f, d, pos, k, _⟩ := pkg_spec (wF cs) (wF_asc cs) (wF_pos cs) (Nat.le_of_not_lt h) L hn
    exact ⟨fun x hx => ⟨pos x hx, f.2.1 x hx⟩, d, Nat.le_of_eq k, fun _ => k⟩
theorem kp_snoc (L : Nat) : ∀ (ls : List Nat) (l : Nat), kp L (ls ++ [l]) = kp L ls + (if 0 < l then 2 ^ (L - l) else 0)
  | [], _ => (Nat.add_zero _).trans (Nat.zero_add _).symm
  | a :: ls, l => by rw [kp, List.cons_append, kp, kp_snoc L ls l, Nat.add_assoc]
theorem us_len (cs : List Int) : (cs.filter (fun c => decide (0 < c))).length = (wF cs).length := (wF_perm cs).length_eq.symm
/-- what is known of the row that least_lengths gives -/
structure RowOK (cs : List Int) (L : Nat) (ls : List Nat) : Prop where
  len : ls.length = cs.length
  le : ∀ l ∈ ls, l ≤ L
  iff : ∀ x ∈ cs.zip ls, (0 < x.1 → 0 < x.2) ∧ (x.1 ≤ 0 → x.2 = 0)
  c0 : ls.count 0 + (wF cs).length = ls.length
  kr : kp L ls ≤ 2 ^ L
  kr2 : 2 ≤ (wF cs).length → kp L ls = 2 ^ L
  one : (wF cs).length = 1 → ls.count 1 = 1 ∧ 1 ∈ ls ∧ ∀ l ∈ ls, l ≤ 1
theorem row_ok (cs : List Int) (L : Nat) (h1 : 1 ≤ L) (hn : (wF cs).length ≤ 2 ^ L) : RowOK cs L (llF cs L) := by
  obtain ⟨dpos, _, dkr, dkr2⟩ := dsF_ok cs L h1 hn
  have dlen := dsF_len cs L
  have dpos' : ∀ d ∈ dsF cs L, 0 < d := fun d hd => (dpos d hd).1
  have hmem := plc_mem cs _ dlen dpos'
  have hkp := plc_kp cs _ dlen dpos' L
  rw [llF_plc]
  refine ⟨plc_len cs _, fun l hl => (hmem l hl).elim (fun h => h ▸ Nat.zero_le L) fun h => (dpos l h).2, fun x hx => ⟨fun c => dpos' _ ((plc_iff cs _ dlen dpos' x hx).1 c), (plc_iff cs _ dlen dpos' x hx).2⟩,
    dlen ▸ plc_count0 cs _ dlen dpos', hkp ▸ dkr, fun h => hkp.trans (dkr2 h), fun h => ?_⟩
  have e : dsF cs L = [1] := by unfold dsF; rw [h]; rfl
  exact ⟨(plc_count1 cs _ dlen dpos').trans (by rw [e]; rfl), plc_mem' cs _ dlen dpos' 1 (by rw [e]; exact List.mem_cons_self), fun l hl => (hmem l hl).elim (fun h => h ▸ Nat.zero_le 1) fun h => by rw [e] at h; exact Nat.le_of_eq (List.mem_singleton.mp h)⟩
noncomputable def rrS (cs : List Int) (L : Nat) (ls : List Nat) (k : Nat) (x y u : Slot) : List Slot := [.frz (.list (dI cs)), .frz (.int (L : Nat)), .frz (.list (dI cs)), .frz (.list (dN ls)), .frz (.int (k : Nat)), x, y, u]
noncomputable def rrB : St := (.cons (.ite [] (.or (.not (.isint (.var 6))) (.or (.cmp .ne (.cmp .eq (.var 6) (.int 0)) (.cmp .eq (.var 5) (.int 0))) (.or (.cmp .gt (.var 6) (.var 1)) (.cmp .lt (.var 6) (.int 0))))) (.cons (.ret [] .none) .nil) .nil) (.cons (.ite [] (.cmp .gt (.var 6) (.int 0)) (.cons (.aug [] 4 .add (.bin .shl (.int 1) (.bin .sub (.var 1) (.var 6)))) .nil) .nil) .nil))
section
variable {r : Nat} {p : Pool} {Φ : Bool → D → Pool → Prop} {ε : Pool → Prop} {Q : Fl → List Slot → Pool → Prop} {C : Calls} {cs : List Int} {L : Nat} {ls : List Nat} {x y : Slot}
theorem rr_step {d : Int × Nat} {pre : List (Int × Nat)} {u : Slot} (hL : L ≤ 1000) (h1 : 0 ≤ d.1) (h2 : d.2 ≤ L) (h3 : (0 < d.1 → 0 < d.2) ∧ (d.1 ≤ 0 → d.2 = 0)) (kn : Q .next (rrS cs L ls (kp L ((pre ++ [d]).map Prod.snd)) (.frz (.int d.1)) (.frz (.int (d.2 : Nat))) u) p) :
    ex C rrB (rrS cs L ls (kp L (pre.map Prod.snd)) (.frz (.int d.1)) (.frz (.int (d.2 : Nat))) u) p Q ε := by
  rw [List.map_append, List.map_singleton, kp_snoc] at kn
  have hb : decide ((d.2 : Int) = 0) = decide (d.1 = 0) := decide_eq_decide.mpr ⟨fun q => Int.le_antisymm (Int.not_lt.mp fun c => Nat.ne_of_gt (h3.1 c) (Int.ofNat.inj q)) h1, fun q => congrArg Int.ofNat (h3.2 (Int.le_of_eq q))⟩
  refine brF rfl (brF (show (!(decide ((d.2 : Int) = 0) == decide (d.1 = 0))) = false by rw [hb, beq_self_eq_true]; rfl) (brF (decide_eq_false (Int.not_lt.mpr (Int.ofNat_le.mpr h2))) (brF (decide_eq_false (Int.not_lt.mpr (Int.natCast_nonneg _))) (brD (fun c => ?_) fun c => ?_))))
  · rw [if_pos (Int.ofNat_lt.mp c)] at kn
    unfold rrS at kn
    rw [Int.natCast_add, ← sub_pow h2] at kn
    exact And.intro (sub_ok h2 hL) kn
  · rw [if_neg fun q => c (Int.ofNat_lt.mpr q)] at kn
    exact kn
noncomputable def rrC : St := (.cons (.ite [3] (.cmp .ne (.call 4 (.cons (.var 0) (.cons (.var 3) .nil))) (.call 15 (.cons (.var 0) (.cons (.var 3) .nil)))) (.cons (.ret [] .none) .nil) .nil) (.cons (.ite [7] (.cmp .ne (.var 7) (.list .nil)) (.cons (.expr [3] (.call 2 (.cons (.var 3) (.cons (.var 1) (.cons (.bool true) .nil))))) .nil) .nil) (.cons (.ret [3] (.bi .list (.cons (.var 3) .nil))) .nil)))
theorem rr_tail {us : List Int} {k : Nat} (ok : RowOK cs L ls) (hu : us.length = (wF cs).length) (h : cs.length ≤ 12) (hc : ∀ c ∈ cs, 0 ≤ c) (h1 : 1 ≤ L) (h2 : L ≤ 1000) (kn : ∀ sl, Q (.ret true (.list (dN ls))) sl p) :
    ex (lev 3) rrC (rrS cs L ls k x y (.own (dI us))) p Q ε := by
  have lc : cs.length ≤ lim := Nat.le_trans h (by decide)
  have ll : ls.length ≤ lim := by rw [ok.len]; exact lc
  have lb : ∀ l ∈ ls, l < 1000000 := fun l hl => Nat.lt_of_le_of_lt (ok.le l hl) (Nat.lt_of_le_of_lt h2 (by decide))
  have fin := fun sl => And.intro (dN_le ll) (kn sl)
  refine eval_bits (Nat.succ_pos 2) cs ls lc ll lb hc (fun _ => eval_total (Nat.succ_pos 2) cs ls lc ll lb (brN (fun q => absurd rfl q) fun _ => And.intro (Nat.zero_le _) (Or.inl ⟨us, [], rfl, rfl, brN (fun q => ?_) fun _ => fin _⟩))) fun ⟨i, hi, h3, h4⟩ => ?_
  · have hn : 0 < (wF cs).length := by rw [← hu]; exact List.length_pos_iff.2 q
    refine eval_check2 (Nat.succ_le_succ (Nat.succ_pos 1)) ls L ll h1 (Nat.lt_of_le_of_lt h2 (by decide)) ok.le (by rw [← ok.c0]; exact Nat.lt_add_of_pos_right hn) ok.kr ?_ fun _ _ => fin _
    by_cases c2 : 2 ≤ (wF cs).length
    · exact .inl (ok.kr2 c2)
    · have e : (wF cs).length = 1 := Nat.le_antisymm (Nat.le_of_lt_succ (Nat.lt_of_not_le c2)) hn
      exact .inr ⟨by rw [← ok.c0, e], (ok.one e).1⟩
  · have hz : (cs[i], ls[i]'(ok.len ▸ hi)) ∈ cs.zip ls := List.mem_iff_getElem.mpr ⟨i, by rw [List.length_zip, ok.len, Nat.min_self]; exact hi, List.getElem_zip⟩
    rw [List.getElem?_eq_getElem (ok.len ▸ hi)] at h4
    exact absurd h4 (Nat.ne_of_gt ((ok.iff _ hz).1 h3))
/-- max() of lengths -/
theorem max_N {K : Bool → D → Prop} {M : Nat} (h1 : M ∈ ls) (h2 : ∀ l ∈ ls, l ≤ M) (k : K false (.int (M : Nat))) : biW .max1 [.list (dN ls)] K := by
  match ls, h1 with
  | b :: t, h1 =>
    refine ⟨(b : Int), t.map fun n : Nat => (n : Int), dN_dI (b :: t), fun m hm hx => ?_⟩
    obtain ⟨n, h3, e⟩ := List.mem_map.mp (show m ∈ (b :: t).map fun n : Nat => (n : Int) from hm)
    have h4 := hx (M : Int) (List.mem_map.mpr (⟨M, h1, rfl⟩ : ∃ a ∈ b :: t, ((a : Nat) : Int) = (M : Int)))
    subst e
    rw [Nat.le_antisymm (h2 n h3) (Int.ofNat_le.mp h4)]
    exact k

theorem rr_one {K : Bool → D → Pool → Prop} {k : Nat} {u : Slot} (h1 : 1 ∈ ls) (h2 : ∀ l ∈ ls, l ≤ 1) (kk : K false (.bool false) p) : ev C (.cmp .ne (.bi .max1 (.cons (.var 3) .nil)) (.int 1)) (rrS cs L ls k x y u) p K ε := max_N (K := fun _ d => ev C (.int 1) (rrS cs L ls k x y u) p (fun _ y p => cmpW .ne d y fun r => K false (.bool r) p) ε) h1 h2 kk
theorem eval_rowright (hr : 3 < r) (cs : List Int) (L : Nat) (h : cs.length ≤ 12) (hc : ∀ c ∈ cs, 0 ≤ c) (h1 : 1 ≤ L) (h2 : L ≤ 1000) (hn : (wF cs).length ≤ 2 ^ L) (k : Φ true (.list (dN (llF cs L))) p) : lev r 20 [.list (dI cs), .int (L : Nat)] p Φ ε := by
  have lc : cs.length ≤ lim := Nat.le_trans h (by decide)
  have ok := row_ok cs L h1 hn
  have ll : (llF cs L).length ≤ lim := by rw [ok.len]; exact lc
  refine lev_of (f := 20) rfl hr (And.intro (dI_le lc) (eval_least (Nat.le_refl 3) cs L h (fun c q q2 => absurd q2 (Int.not_lt.mpr (hc c q))) h1 h2 (fun _ _ => ?_) fun q => ?_))
  rotate_left
  · exact q.elim (fun ⟨c, q, q2⟩ => absurd q2 (Int.not_lt.mpr (hc c q))) fun q => absurd hn (Nat.not_le_of_lt q)
  refine Or.inl ⟨cs, cs, rfl, rfl, brN (fun q => absurd rfl q) fun _ => And.intro (dN_le ll) (And.intro (dI_le lc) (brN (fun q => absurd (by rw [dN_len, dI_len, ok.len]) q) fun _ => And.intro ⟨dI_le lc, dN_le ll⟩ ?_))⟩
  rw [show zipL (dI cs) (dN (llF cs L)) = (cs.zip (llF cs L)).map fun x => D.tup [.int x.1, .int (x.2 : Nat)] from zip_map ..]
  refine forW_inv (fun pre s => rrS cs L (llF cs L) (kp L (pre.map Prod.snd)) s.1 s.2 .un) (fun _ _ => p) (fun _ _ => True) ((.un, .un) : Slot × Slot) trivial (fun pre d post e s _ N kn => ?_) fun s _ => ?_
  · have hd := mem_mid e
    refine And.intro rfl ?_
    exact rr_step (Q := fun fl t q => loopW fl (N t q) fun a b => _) h2 (hc d.1 (List.of_mem_zip hd).1) (ok.le d.2 (List.of_mem_zip hd).2) (ok.iff d hd) (kn (_, _) trivial)
  rw [List.map_snd_zip (Nat.le_of_eq ok.len)]
  refine And.intro (dI_le lc) (compW_map (g0 := D.int) (fun c => decide (0 < c)) D.int (fun c _ acc N h1 h2 => brD (fun q => h1 (decide_eq_true q)) fun q => h2 (decide_eq_false q)) ?_)
  have hu := us_len cs
  generalize cs.filter (fun c => decide (0 < c)) = us at hu
  show ex (lev 3) _ (rrS cs L (llF cs L) (kp L (llF cs L)) s.1 s.2 (.own (dI us))) p _ ε
  have lu : (dI us).length ≤ lim := dI_le (by rw [hu, wF_len]; exact Nat.le_trans (rowsF_len cs) lc)
  have el : (dI us).length = (wF cs).length := (dI_len us).trans hu
  have tail := rr_tail (Q := fun f t q => endW f fun b d => Φ b d q) (k := kp L (llF cs L)) (x := s.1) (y := s.2) (p := p) (ε := ε) (us := us) ok hu h hc h1 h2 fun _ => k
  have sec : ∀ K : Bool → D → Pool → Prop, K false (.bool false) p → ev (lev 3) (.and (.cmp .gt (.lenv 7) (.int 1)) (.cmp .ne (.var 4) (.bin .shl (.int 1) (.var 1)))) (rrS cs L (llF cs L) (kp L (llF cs L)) s.1 s.2 (.own (dI us))) p K ε := fun K k => by
    refine And.intro lu (brD (fun q => And.intro (shl_ok h2) ?_) fun _ => k)
    rw [el] at q
    show K false (.bool (!decide (((kp L (llF cs L) : Nat) : Int) = 1 * 2 ^ ((L : Int)).toNat))) p
    rw [pow_nat, ok.kr2 (Int.ofNat_lt.mp q), decide_eq_true rfl]
    exact k
  refine And.intro lu (brD (fun q => ?_) fun q => brF rfl (sec _ (brF rfl tail)))
  rw [el] at q
  have one := ok.one (Int.ofNat.inj q)
  exact rr_one one.2.1 one.2.2 (brF rfl (sec _ (brF rfl tail)))
end
end Mini
end
section -- Q6
namespace Mk
open Mini

theorem HT.perm {v v' : List (Int × Nat)} {c : Int} {H : Nat} (t : HT v c H) (h : v'.Perm v) : HT v' c H := by
  cases t with
  | one x y => cases List.perm_singleton.1 h; exact .one _ _
  | step p a b t => exact .step (h.trans p) a b t
theorem sumI_perm {a b : List Int} (h : a.Perm b) : sumI a = sumI b := by
  induction h with
  | nil => rfl
  | cons x _ ih => exact congrArg (x + ·) ih
  | swap x y l => exact Int.add_left_comm ..
  | trans _ _ i j => exact i.trans j
theorem leX_le {a b : Int × Nat} (h : leX a b) : a.1 ≤ b.1 := h.elim Int.le_of_lt fun q => Int.le_of_eq q.1
theorem leX_refl (a : Int × Nat) : leX a a := .inr ⟨rfl, Nat.le_refl _⟩
theorem leX_zero {a b : Int × Nat} (h0 : a.2 = 0) (h : a.1 ≤ b.1) : leX a b := (Int.lt_or_eq_of_le h).imp id fun e => ⟨e, h0 ▸ Nat.zero_le _⟩
noncomputable def comb (a b : Int × Nat) : Int × Nat := (a.1 + b.1, max a.2 b.2 + 1)
theorem leX_comb {a b x y : Int × Nat} (h1 : leX a x) (h2 : leX b y) : leX (comb a b) (comb x y) :=
  h1.elim (fun h => .inl (Int.add_lt_add_of_lt_of_le h (leX_le h2))) fun h => h2.elim (fun q => .inl (Int.add_lt_add_of_le_of_lt (Int.le_of_eq h.1) q))
    fun q => .inr ⟨show a.1 + b.1 = x.1 + y.1 by rw [h.1, q.1], Nat.succ_le_succ (Nat.max_le.mpr ⟨Nat.le_trans h.2 (Nat.le_max_left ..), Nat.le_trans q.2 (Nat.le_max_right ..)⟩)⟩
/-- a node: its place, its weight and height -/
noncomputable abbrev Nd := Nat × (Int × Nat)
noncomputable def Good (dep : Nat → Nat) (l : List Nd) : Prop := ∃ c H, HT (l.map (·.2)) c H ∧ sumI (l.map fun x => x.2.1 * (dep x.1 : Int)) = c ∧ (∀ L, H ≤ L → kr L (l.map fun x => dep x.1) = 2 ^ L) ∧ ∀ x ∈ l, dep x.1 + x.2.2 ≤ H
theorem Good.perm {dep : Nat → Nat} {l l' : List Nd} (h : l'.Perm l) : Good dep l → Good dep l' := fun ⟨c, H, t, hs, hk, hh⟩ =>
  ⟨c, H, t.perm (h.map _), (sumI_perm (h.map _)).trans hs, fun L hL => (kr_perm L (h.map _)).trans (hk L hL), fun x hx => hh x (h.mem_iff.mp hx)⟩
theorem two_half {L d : Nat} (h : d + 1 ≤ L) : 2 ^ (L - (d + 1)) + 2 ^ (L - (d + 1)) = 2 ^ (L - d) := by
  rw [← Nat.mul_two, ← Nat.pow_succ, ← Nat.sub_sub, Nat.succ_eq_add_one, Nat.sub_add_cancel (Nat.le_sub_of_add_le' h)]
theorem Good.step {dep : Nat → Nat} {x y : Nd} {R : List Nd} {m : Nat} (d1 : dep x.1 = dep m + 1) (d2 : dep y.1 = dep m + 1) (o1 : leX x.2 y.2) (o2 : ∀ r ∈ R, leX y.2 r.2) : Good dep ((m, comb x.2 y.2) :: R) → Good dep (x :: y :: R) := fun ⟨c, H, t, hs, hk, hh⟩ => by
  have hm : dep m + (max x.2.2 y.2.2 + 1) ≤ H := hh _ List.mem_cons_self
  refine ⟨c + x.2.1 + y.2.1, H, .step (.refl _) o1 (fun r hr => ?_) t, ?_, fun L hL => ?_, List.forall_mem_cons.mpr ⟨?_, List.forall_mem_cons.mpr ⟨?_, fun r hr => hh r (List.mem_cons_of_mem _ hr)⟩⟩⟩
  · obtain ⟨q, hq, rfl⟩ := List.mem_map.1 hr
    exact o2 q hq
  · rw [← hs]
    show x.2.1 * (dep x.1 : Int) + (y.2.1 * (dep y.1 : Int) + _) = (x.2.1 + y.2.1) * (dep m : Int) + _ + x.2.1 + y.2.1
    rw [d1, d2, Int.natCast_add, Int.mul_add, Int.mul_add, Int.add_mul, Int.natCast_one, Int.mul_one, Int.mul_one]
    omega
  · rw [← hk L hL]
    show 2 ^ (L - dep x.1) + (2 ^ (L - dep y.1) + _) = 2 ^ (L - dep m) + _
    rw [d1, d2, ← Nat.add_assoc, two_half (Nat.le_trans (Nat.le_trans (Nat.add_le_add_left (Nat.le_add_left _ _) _) hm) hL)]
  · rw [d1, Nat.add_assoc, Nat.add_comm 1]; exact Nat.le_trans (Nat.add_le_add_left (Nat.succ_le_succ (Nat.le_max_left ..)) _) hm
  · rw [d2, Nat.add_assoc, Nat.add_comm 1]; exact Nat.le_trans (Nat.add_le_add_left (Nat.succ_le_succ (Nat.le_max_right ..)) _) hm

/-- two queues: leaves, and joined nodes -/
structure Inv (A B : List Nd) : Prop where
  z : ∀ a ∈ A, a.2.2 = 0
  sa : A.Pairwise fun a b => a.2.1 ≤ b.2.1
  sb : B.Pairwise fun a b => leX a.2 b.2
  pos : ∀ x ∈ A ++ B, 0 < x.2.1
  p1 : ∀ q ∈ B, ∀ x ∈ A ++ B, ∀ y ∈ A ++ B, leX q.2 (comb x.2 y.2)
/-- which node is taken -/
noncomputable def Pick (A B : List Nd) (x : Nd) (A' B' : List Nd) : Prop :=
  (A = x :: A' ∧ B = B' ∧ ∀ b t, B = b :: t → x.2.1 ≤ b.2.1) ∨ (B = x :: B' ∧ A = A' ∧ ∀ a t, A = a :: t → ¬ a.2.1 ≤ x.2.1)
theorem pick_ok {A B A' B' : List Nd} {x : Nd} (I : Inv A B) (P : Pick A B x A' B') : (A ++ B).Perm (x :: (A' ++ B')) ∧ (∀ y ∈ A ++ B, leX x.2 y.2) ∧ Inv A' B' := by
  rcases P with ⟨rfl, rfl, h⟩ | ⟨rfl, rfl, h⟩
  · obtain ⟨s1, s2⟩ := List.pairwise_cons.mp I.sa
    have z := I.z x List.mem_cons_self
    refine ⟨.refl _, fun y hy => ?_, ⟨fun a ha => I.z a (List.mem_cons_of_mem _ ha), s2, I.sb, fun a ha => I.pos a (List.mem_cons_of_mem _ ha), fun q hq a ha b hb => I.p1 q hq a (List.mem_cons_of_mem _ ha) b (List.mem_cons_of_mem _ hb)⟩⟩
    rcases List.mem_cons.mp hy with rfl | hy
    · exact leX_refl _
    · rcases List.mem_append.mp hy with hy | hy
      · exact leX_zero z (s1 y hy)
      · match B, h, I.sb, hy with
        | b :: t, h, sb, hy =>
          have hb := h b t rfl
          exact leX_zero z ((List.mem_cons.mp hy).elim (fun e => e ▸ hb) fun q => Int.le_trans hb (leX_le ((List.pairwise_cons.mp sb).1 y q)))
  · obtain ⟨s1, s2⟩ := List.pairwise_cons.mp I.sb
    have pm : (A ++ x :: B').Perm (x :: (A ++ B')) := List.perm_middle
    have sub : ∀ a ∈ A ++ B', a ∈ A ++ x :: B' := fun a ha => pm.mem_iff.mpr (List.mem_cons_of_mem _ ha)
    refine ⟨pm, fun y hy => ?_, ⟨I.z, I.sa, s2, fun a ha => I.pos a (sub a ha), fun q hq a ha b hb => I.p1 q (List.mem_cons_of_mem _ hq) a (sub a ha) b (sub b hb)⟩⟩
    rcases List.mem_append.mp hy with hy | hy
    · match A, h, I.sa, hy with
      | a :: t, h, sa, hy => exact .inl (Int.lt_of_lt_of_le (Int.not_le.mp (h a t rfl)) ((List.mem_cons.mp hy).elim (fun e => e ▸ Int.le_refl _) fun q => (List.pairwise_cons.mp sa).1 y q))
    · exact (List.mem_cons.mp hy).elim (fun e => e ▸ leX_refl _) (s1 y)

/-- where the queues lie -/
structure LK (n made : Nat) (ws : List Int) (leaf joined : Nat) (A B : List Nd) : Prop where
  a1 : A.map Prod.fst = List.range' leaf A.length
  a2 : leaf + A.length = n
  b1 : B.map Prod.fst = List.range' joined B.length
  b2 : joined + B.length = made
  v : ∀ x ∈ A ++ B, ws[x.1]? = some x.2.1
theorem LK.leaf {n made leaf joined : Nat} {ws : List Int} {a : Nd} {A B : List Nd} (h : LK n made ws leaf joined (a :: A) B) : a.1 = leaf ∧ LK n made ws (leaf + 1) joined A B :=
  ⟨(List.cons.inj h.a1).1, ⟨(List.cons.inj h.a1).2, (Nat.succ_add_eq_add_succ _ _).trans h.a2, h.b1, h.b2, fun x hx => h.v x (List.mem_cons_of_mem _ hx)⟩⟩
theorem LK.join {n made leaf joined : Nat} {ws : List Int} {b : Nd} {A B : List Nd} (h : LK n made ws leaf joined A (b :: B)) : b.1 = joined ∧ LK n made ws leaf (joined + 1) A B :=
  ⟨(List.cons.inj h.b1).1, ⟨h.a1, h.a2, (List.cons.inj h.b1).2, (Nat.succ_add_eq_add_succ _ _).trans h.b2, fun x hx => h.v x (List.perm_middle.mem_iff.mpr (List.mem_cons_of_mem _ hx))⟩⟩
theorem LK.new {n made leaf joined : Nat} {ws : List Int} {A B : List Nd} (h : LK n made ws leaf joined A B) (hw : ws.length = made) (x : Int × Nat) : LK n (made + 1) (ws ++ [x.1]) leaf joined A (B ++ [(made, x)]) := by
  refine ⟨h.a1, h.a2, ?_, by rw [len_snoc, ← Nat.add_assoc, h.b2], fun y hy => ?_⟩
  · rw [List.map_append, h.b1, len_snoc, List.range'_concat, Nat.one_mul, h.b2]; rfl
  · rw [← List.append_assoc] at hy
    rcases List.mem_append.mp hy with hy | hy
    · have := h.v y hy
      rw [List.getElem?_append_left (List.getElem?_eq_some_iff.mp this).1]; exact this
    · cases List.mem_singleton.mp hy
      rw [← hw]; exact List.getElem?_concat_length
noncomputable def lv (w : List Int) : List Nd := w.zipIdx.map fun x => (x.2, (x.1, 0))
/-- the state of the joining after k steps; ps: child and parent -/
structure J (w : List Int) (k leaf joined : Nat) (par : List Nat) (ws : List Int) (A B : List Nd) (ps : List (Nat × Nat)) : Prop where
  lk : LK w.length (w.length + k) ws leaf joined A B
  inv : Inv A B
  wl : ws.length = w.length + k
  pl : par.length = 2 * w.length - 1
  ct : A.length + B.length + k = w.length
  nb : 0 < k → B ≠ []
  pk : ∀ q ∈ ps, par[q.1]? = some q.2 ∧ q.1 < q.2 ∧ q.2 < w.length + k
  pm : ((A ++ B).map Prod.fst ++ ps.map Prod.fst).Perm (List.range (w.length + k))
  cn : ∀ dep : Nat → Nat, (∀ q ∈ ps, dep q.1 = dep q.2 + 1) → Good dep (A ++ B) → Good dep (lv w)
theorem lv_fst (w : List Int) : (lv w).map Prod.fst = List.range' 0 w.length := by unfold lv; rw [List.map_map]; exact List.zipIdx_map_snd ..
theorem lv_len (w : List Int) : (lv w).length = w.length := by unfold lv; rw [List.length_map, List.length_zipIdx]
theorem lv_mem {w : List Int} {x : Nd} (h : x ∈ lv w) : w[x.1]? = some x.2.1 ∧ x.2.2 = 0 := by
  obtain ⟨y, hy, rfl⟩ := List.mem_map.mp h
  exact ⟨List.mem_zipIdx_iff_getElem?.mp hy, rfl⟩
theorem lv_val (w : List Int) : (lv w).map (fun x => x.2.1) = w := by unfold lv; rw [List.map_map]; exact List.zipIdx_map_fst ..
theorem J_zero (w : List Int) (hw : Asc w) (hp : ∀ x ∈ w, 0 < x) : J w 0 0 w.length (List.replicate (2 * w.length - 1) 0) w (lv w) [] [] where
  lk := ⟨by rw [lv_fst, lv_len], by rw [lv_len, Nat.zero_add], rfl, rfl, fun x hx => (lv_mem (List.append_nil (lv w) ▸ hx)).1⟩
  inv := ⟨fun a ha => (lv_mem ha).2, List.pairwise_map.mp ((lv_val w).symm ▸ hw), .nil, fun x hx => hp _ (List.mem_of_getElem? (lv_mem (List.append_nil (lv w) ▸ hx)).1), nofun⟩
  wl := rfl
  pl := List.length_replicate
  ct := lv_len w
  nb h := absurd h (Nat.lt_irrefl 0)
  pk := nofun
  pm := by rw [List.append_nil, List.map_nil, List.append_nil, lv_fst, ← List.range_eq_range']; exact .refl _
  cn _ _ h := by rw [List.append_nil] at h; exact h
theorem J_step {w : List Int} {k leaf joined l2 j2 : Nat} {par : List Nat} {ws : List Int} {A B A1 B1 A2 B2 : List Nd} {x y : Nd} {ps : List (Nat × Nat)} (j : J w k leaf joined par ws A B ps) (P1 : Pick A B x A1 B1) (P2 : Pick A1 B1 y A2 B2) (lk : LK w.length (w.length + k) ws l2 j2 A2 B2) :
    J w (k + 1) l2 j2 ((par.set x.1 (w.length + k)).set y.1 (w.length + k)) (ws ++ [x.2.1 + y.2.1]) A2 (B2 ++ [(w.length + k, comb x.2 y.2)]) ((x.1, w.length + k) :: (y.1, w.length + k) :: ps) := by
  obtain ⟨p1, o1, i1⟩ := pick_ok j.inv P1
  obtain ⟨p2, o2, i2⟩ := pick_ok i1 P2
  have perm : (A ++ B).Perm (x :: y :: (A2 ++ B2)) := p1.trans (p2.cons x)
  have mx : x ∈ A ++ B := perm.mem_iff.mpr List.mem_cons_self
  have my1 : y ∈ A1 ++ B1 := p2.mem_iff.mpr List.mem_cons_self
  have my : y ∈ A ++ B := p1.mem_iff.mpr (List.mem_cons_of_mem _ my1)
  have mR1 : ∀ r ∈ A2 ++ B2, r ∈ A1 ++ B1 := fun r hr => p2.mem_iff.mpr (List.mem_cons_of_mem _ hr)
  have mR : ∀ r ∈ A2 ++ B2, r ∈ A ++ B := fun r hr => p1.mem_iff.mpr (List.mem_cons_of_mem _ (mR1 r hr))
  have pm : (x.1 :: y.1 :: ((A2 ++ B2).map Prod.fst ++ ps.map Prod.fst)).Perm (List.range (w.length + k)) := ((perm.map Prod.fst).symm.append_right _).trans j.pm
  obtain ⟨nx, nd⟩ := List.nodup_cons.mp (pm.nodup_iff.mpr List.nodup_range)
  have ny := (List.nodup_cons.mp nd).1
  have nxy : x.1 ≠ y.1 := fun e => nx (e ▸ List.mem_cons_self)
  have lx : x.1 < w.length + k := List.mem_range.mp (pm.mem_iff.mp List.mem_cons_self)
  have ly : y.1 < w.length + k := List.mem_range.mp (pm.mem_iff.mp (List.mem_cons_of_mem _ List.mem_cons_self))
  have hlen := perm.length_eq
  rw [List.length_append, List.length_cons, List.length_cons, List.length_append] at hlen
  have hct := j.ct
  have ct : A2.length + (B2.length + 1) + (k + 1) = w.length := by omega
  have hpl : w.length + k < par.length := by rw [j.pl]; omega
  have top : ∀ {X : List Nd}, A2 ++ (B2 ++ X) = (A2 ++ B2) ++ X := (List.append_assoc ..).symm
  have zpos : 0 < x.2.1 + y.2.1 := Int.add_pos (j.inv.pos x mx) (j.inv.pos y my)
  have all : ∀ {P : Nd → Prop}, (∀ r ∈ A2 ++ B2, P r) → P (w.length + k, comb x.2 y.2) → ∀ r ∈ A2 ++ (B2 ++ [(w.length + k, comb x.2 y.2)]), P r := fun h hz r hr => mem_snoc h hz r (top ▸ hr)
  have pos : ∀ r ∈ A2 ++ (B2 ++ [(w.length + k, comb x.2 y.2)]), 0 < r.2.1 := all (fun r hr => j.inv.pos r (mR r hr)) zpos
  have new : ∀ r ∈ A2 ++ (B2 ++ [(w.length + k, comb x.2 y.2)]), ∀ s ∈ A2 ++ (B2 ++ [(w.length + k, comb x.2 y.2)]), leX (comb x.2 y.2) (comb r.2 s.2) :=
    all (fun r hr => all (fun s hs => leX_comb (o1 r (mR r hr)) (o2 s (mR1 s hs))) (.inl (Int.lt_add_of_pos_left _ (j.inv.pos r (mR r hr))))) fun s hs => .inl (Int.lt_add_of_pos_right _ (pos s hs))
  have old : ∀ q ∈ B2, leX q.2 (comb x.2 y.2) := fun q hq => by
    have hB : q ∈ B := by
      rcases P1 with ⟨_, rfl, _⟩ | ⟨rfl, _, _⟩ <;> rcases P2 with ⟨_, rfl, _⟩ | ⟨rfl, _, _⟩
      · exact hq
      · exact List.mem_cons_of_mem _ hq
      · exact List.mem_cons_of_mem _ hq
      · exact List.mem_cons_of_mem _ (List.mem_cons_of_mem _ hq)
    exact j.inv.p1 q hB x mx y my
  exact {
    lk := lk.new j.wl (comb x.2 y.2)
    inv := ⟨i2.z, i2.sa, List.pairwise_append.mpr ⟨i2.sb, List.pairwise_singleton .., fun q hq z hz => List.mem_singleton.mp hz ▸ old q hq⟩, pos, mem_snoc (fun q hq r hr s hs => leX_trans (old q hq) (new r hr s hs)) new⟩
    wl := (len_snoc ..).trans (congrArg (· + 1) j.wl)
    pl := List.length_set.trans (List.length_set.trans j.pl)
    ct := by rw [len_snoc]; exact ct
    nb := fun _ e => List.append_ne_nil_of_right_ne_nil _ (List.cons_ne_nil _ _) e
    pk := List.forall_mem_cons.mpr ⟨⟨by rw [List.getElem?_set_ne nxy.symm, List.getElem?_set_self (Nat.lt_trans lx hpl)], lx, Nat.lt_succ_self _⟩, List.forall_mem_cons.mpr ⟨⟨List.getElem?_set_self (by rw [List.length_set]; exact Nat.lt_trans ly hpl), ly, Nat.lt_succ_self _⟩, fun q hq => by
      have hm : q.1 ∈ (A2 ++ B2).map Prod.fst ++ ps.map Prod.fst := List.mem_append_right _ (List.mem_map.mpr ⟨q, hq, rfl⟩)
      obtain ⟨h1, h2, h3⟩ := j.pk q hq
      exact ⟨by rw [List.getElem?_set_ne (show y.1 ≠ q.1 from fun e => ny (e ▸ hm)), List.getElem?_set_ne (show x.1 ≠ q.1 from fun e => nx (e ▸ List.mem_cons_of_mem _ hm))]; exact h1, h2, Nat.lt_succ_of_lt h3⟩⟩⟩
    pm := by
      rw [top, List.map_append, ← Nat.add_assoc, List.range_succ]
      refine List.perm_append_comm.trans ?_
      rw [← List.append_assoc]
      exact (((List.perm_append_comm.cons _).cons _).trans pm).append_right _
    cn := fun dep h g => j.cn dep (fun q hq => h q (List.mem_cons_of_mem _ (List.mem_cons_of_mem _ hq))) (.perm perm (.step (h _ List.mem_cons_self) (h _ (List.mem_cons_of_mem _ List.mem_cons_self)) (o1 y my) (fun r hr => o2 r (mR1 r hr)) (.perm (top ▸ (List.perm_append_singleton _ _).symm) g))) }
/-- at the end: one node, all others have a parent -/
theorem J_end {w : List Int} {k leaf joined : Nat} {par : List Nat} {ws : List Int} {A B : List Nd} {ps : List (Nat × Nat)} (j : J w k leaf joined par ws A B ps) (hk : k + 1 = w.length) (h2 : 0 < k) :
    (∀ i, i < 2 * w.length - 2 → i < par.getD i 0 ∧ par.getD i 0 < 2 * w.length - 1) ∧
    ∀ dep : Nat → Nat, dep (2 * w.length - 2) = 0 → (∀ i, i < 2 * w.length - 2 → dep i = dep (par.getD i 0) + 1) → Good dep (lv w) := by
  have hct := j.ct
  match A, B, j.nb h2, hct, j with
  | a :: A, b :: B, _, hct, _ => rw [List.length_cons, List.length_cons] at hct; omega
  | [], b :: c :: B, _, hct, _ => rw [List.length_cons, List.length_cons] at hct; omega
  | [], [b], _, _, j =>
    have e1 : b.1 = joined := (List.cons.inj j.lk.b1).1
    have e2 : joined + 1 = w.length + k := j.lk.b2
    have e3 : b.1 = 2 * w.length - 2 := by omega
    have key : ∀ i, i < 2 * w.length - 2 → ∃ q ∈ ps, q.1 = i ∧ par.getD i 0 = q.2 := fun i hi => by
      have hm : i ∈ [b.1] ++ ps.map Prod.fst := j.pm.mem_iff.mpr (List.mem_range.mpr (by omega))
      rcases List.mem_cons.mp hm with h | h
      · exact absurd hi (by rw [h, e3]; exact Nat.lt_irrefl _)
      · obtain ⟨q, hq, rfl⟩ := List.mem_map.mp h
        exact ⟨q, hq, rfl, by rw [List.getD_eq_getElem?_getD, (j.pk q hq).1]; rfl⟩
    refine ⟨fun i hi => ?_, fun dep h0 hd => j.cn dep (fun q hq => ?_) ⟨0, b.2.2, .one _ _, ?_, fun L _ => ?_, fun x hx => ?_⟩⟩
    · obtain ⟨q, hq, rfl, e⟩ := key i hi
      rw [e]
      exact ⟨(j.pk q hq).2.1, Nat.lt_of_lt_of_le (j.pk q hq).2.2 (by omega)⟩
    · obtain ⟨h1, h2, h3⟩ := j.pk q hq
      have := hd q.1 (by omega)
      rw [List.getD_eq_getElem?_getD, h1] at this
      exact this
    · show b.2.1 * (dep b.1 : Int) + 0 = 0
      rw [e3, h0]; exact (Int.add_zero _).trans (Int.mul_zero _)
    · show 2 ^ (L - dep b.1) + 0 = 2 ^ L
      rw [e3, h0]; rfl
    · rw [List.mem_singleton.mp hx, e3, h0, Nat.zero_add]; exact Nat.le_refl _
theorem cost_nd (dep : Nat → Nat) : ∀ l : List Nd, cost (l.map fun x => x.2.1) (l.map fun x => dep x.1) = sumI (l.map fun x => x.2.1 * (dep x.1 : Int))
  | [] => rfl
  | _ :: l => congrArg (_ + ·) (cost_nd dep l)
noncomputable def TreeOK (w : List Int) (ds : List Nat) : Prop := ∃ c H, HT (items w) c H ∧ cost w ds = c ∧ (∀ L, H ≤ L → kr L ds = 2 ^ L) ∧ ∀ d ∈ ds, d ≤ H
theorem Good.tree {w : List Int} {dep : Nat → Nat} : Good dep (lv w) → TreeOK w ((List.range w.length).map dep) := fun ⟨c, H, t, hs, hk, hh⟩ => by
  have e : (List.range w.length).map dep = (lv w).map fun x => dep x.1 := by rw [List.range_eq_range', ← lv_fst, List.map_map]; rfl
  have e2 : (lv w).map (·.2) = items w := by unfold lv items; rw [List.map_map]; exact ((List.map_map (f := Prod.fst) (g := fun x : Int => (x, 0)) (l := w.zipIdx)).symm).trans (by rw [List.zipIdx_map_fst])
  rw [e2] at t
  rw [e]
  refine ⟨c, H, t, ?_, hk, fun d hd => ?_⟩
  · rw [← hs, ← cost_nd, lv_val]
  · obtain ⟨x, hx, rfl⟩ := List.mem_map.mp hd
    exact Nat.le_trans (Nat.le_add_right _ _) (hh x hx)
end Mk
end
section -- F13
namespace Mini
open PySem Mk

theorem range_dn {K : D → Prop} {m : Nat} {a : Int} (h : m ≤ 1000) (ha : a = (m : Int) - 1) (k : K (.list ((List.range m).map fun (k : Nat) => D.int ((m - 1 - k : Nat) : Int)))) : rangeE [.int a, .int (-1), .int (-1)] K := by
  subst ha
  unfold rangeE
  refine ⟨⟨by decide, by unfold lim; omega, by decide, by decide⟩, ?_⟩
  have e : (Builtin.Range.rangeSize ((m : Int) - 1) (-1) (-1)).toNat = m := by
    unfold Builtin.Range.rangeSize
    rw [if_neg (by decide), show (- -1 : Int) = 1 by decide, Int.ediv_one]
    split <;> omega
  unfold rangeL
  rw [e, show (List.range m).map (fun k : Nat => D.int ((m : Int) - 1 + -1 * (k : Int))) = (List.range m).map fun k : Nat => D.int ((m - 1 - k : Nat) : Int) from List.map_congr_left fun k hk => by
    have := List.mem_range.mp hk
    exact congrArg D.int (by omega)]
  exact k
theorem range_i {K : D → Prop} {a b : Nat} {x y : Int} (e1 : x = (a : Nat)) (e2 : y = (b : Nat)) (h1 : a ≤ lim) (h2 : b ≤ lim) (k : K (.list ((List.range (b - a)).map fun (k : Nat) => D.int ((a + k : Nat) : Int)))) : rangeE [.int x, .int y] K := by
  subst e1 e2; exact range_ab h1 h2 k
noncomputable def trS (ws : List Int) (n : Nat) (par : List Nat) (leaf joined : Nat) (x5 x6 x7 x8 x9 x10 : Slot) : List Slot := [.own (dI ws), .frz (.int (n : Nat)), .own (dN par), .frz (.int (leaf : Nat)), .frz (.int (joined : Nat)), x5, x6, x7, x8, x9, x10]
noncomputable def trB1 : St := (.cons (.ite [1] (.and (.cmp .lt (.var 3) (.var 1)) (.or (.cmp .ge (.var 4) (.var 5)) (.cmp .le (.subv 0 (.var 3)) (.subv 0 (.var 4))))) (.cons (.tupA [] [8, 3] (.cons (.var 3) (.cons (.bin .add (.var 3) (.int 1)) .nil))) .nil) (.cons (.tupA [] [8, 4] (.cons (.var 4) (.cons (.bin .add (.var 4) (.int 1)) .nil))) .nil)) (.cons (.setS [] 2 (.var 8) (.var 5)) (.cons (.aug [] 6 .add (.subv 0 (.var 8))) .nil)))
section
variable {r : Nat} {p : Pool} {Φ : Bool → D → Pool → Prop} {ε : Pool → Prop} {Q : Fl → List Slot → Pool → Prop} {C : Calls} {ws : List Int} {n made leaf joined : Nat} {par : List Nat} {A B : List Nd} {x9 x10 : Slot}
theorem idx_W {K : D → Prop} {i : Nat} {v : Int} (h1 : i < 1000000) (h : ws[i]? = some v) (k : K (.int v)) : idxW (dI ws) (.int (i : Nat)) K := idx_at h1 (by unfold dI; rw [List.getElem?_map, h]; rfl) k
theorem tr_side {b : Int} {x7 x8 : Slot} (lk : LK n made ws leaf joined A B) (ne : 0 < A.length + B.length) (hn : n ≤ made) (hp : made ≤ par.length) (hb : made < 1000000) (kn : ∀ x A' B' leaf' joined' x8, Pick A B x A' B' → LK n made ws leaf' joined' A' B' → Q .next (trS ws n (par.set x.1 made) leaf' joined' (.frz (.int (made : Nat))) (.frz (.int (b + x.2.1))) x7 x8 x9 x10) p) :
    ex C trB1 (trS ws n par leaf joined (.frz (.int (made : Nat))) (.frz (.int b)) x7 x8 x9 x10) p Q ε := by
  have go : ∀ (l j : Nat) (t : Nd), t.1 < made → ws[t.1]? = some t.2.1 → Q .next (trS ws n (par.set t.1 made) l j (.frz (.int (made : Nat))) (.frz (.int (b + t.2.1))) x7 (.frz (.int (t.1 : Nat))) x9 x10) p →
      ex C (.cons (.setS [] 2 (.var 8) (.var 5)) (.cons (.aug [] 6 .add (.subv 0 (.var 8))) .nil)) (trS ws n par l j (.frz (.int (made : Nat))) (.frz (.int b)) x7 (.frz (.int (t.1 : Nat))) x9 x10) p Q ε := fun l j t h1 h2 k => by
    unfold trS at k
    rw [← dN_set] at k
    exact set_N (Nat.lt_trans h1 hb) (Nat.lt_of_lt_of_le h1 hp) (idx_W (Nat.lt_trans h1 hb) h2 k)
  have goL : ∀ a A', A = a :: A' → (∀ b t, B = b :: t → a.2.1 ≤ b.2.1) → ex C (.cons (.setS [] 2 (.var 8) (.var 5)) (.cons (.aug [] 6 .add (.subv 0 (.var 8))) .nil)) (trS ws n par (leaf + 1) joined (.frz (.int (made : Nat))) (.frz (.int b)) x7 (.frz (.int (leaf : Nat))) x9 x10) p Q ε := fun a A' e h => by
    subst e
    obtain ⟨e, lk2⟩ := lk.leaf
    have hl : leaf < made := Nat.lt_of_lt_of_le (by rw [← lk.a2]; exact Nat.lt_add_of_pos_right (Nat.succ_pos _)) hn
    have h := kn a A' B _ _ (.frz (.int (a.1 : Nat))) (.inl ⟨rfl, rfl, h⟩) lk2
    rw [← e] at hl ⊢
    rw [← e] at h
    exact go _ _ a hl (lk.v a List.mem_cons_self) h
  have goR : ∀ b1 B', B = b1 :: B' → (∀ a t, A = a :: t → ¬ a.2.1 ≤ b1.2.1) → ex C (.cons (.setS [] 2 (.var 8) (.var 5)) (.cons (.aug [] 6 .add (.subv 0 (.var 8))) .nil)) (trS ws n par leaf (joined + 1) (.frz (.int (made : Nat))) (.frz (.int b)) x7 (.frz (.int (joined : Nat))) x9 x10) p Q ε := fun a B' e h => by
    subst e
    obtain ⟨e, lk2⟩ := lk.join
    have hl : joined < made := by rw [← lk.b2]; exact Nat.lt_add_of_pos_right (Nat.succ_pos _)
    have h := kn a A B' _ _ (.frz (.int (a.1 : Nat))) (.inr ⟨rfl, rfl, h⟩) lk2
    rw [← e] at hl ⊢
    rw [← e] at h
    exact go _ _ a hl (lk.v a (List.mem_append_right _ List.mem_cons_self)) h
  rcases hA : A with _ | ⟨a, A'⟩
  · rcases hB : B with _ | ⟨b1, B'⟩
    · rw [hA, hB] at ne; exact absurd ne (Nat.lt_irrefl 0)
    · have hl := lk.a2
      rw [hA] at hl
      exact brF (decide_eq_false (by rw [← hl]; exact Int.lt_irrefl _)) (brF rfl (And.intro rfl (goR b1 B' hB (by rw [hA]; exact nofun))))
  · have hl := lk.a2
    rw [hA] at hl
    have hl : leaf < n := by rw [← hl]; exact Nat.lt_add_of_pos_right (Nat.succ_pos _)
    refine brT (decide_eq_true (Int.ofNat_lt.mpr hl)) ?_
    rcases hB : B with _ | ⟨b1, B'⟩
    · have hj := lk.b2
      rw [hB] at hj
      exact brT (decide_eq_true (Int.ofNat_le.mpr (Nat.le_of_eq hj.symm))) (brT rfl (And.intro rfl (goL a A' hA (by rw [hB]; exact nofun))))
    · have hj := lk.b2
      rw [hB] at hj
      have hj : joined < made := by rw [← hj]; exact Nat.lt_add_of_pos_right (Nat.succ_pos _)
      have va := lk.v a (by rw [hA]; exact List.mem_cons_self)
      have vb := lk.v b1 (by rw [hB]; exact List.mem_append_right _ List.mem_cons_self)
      have ea : a.1 = leaf := (LK.leaf (hA ▸ lk)).1
      have eb : b1.1 = joined := (LK.join (hB ▸ lk)).1
      rw [ea] at va
      rw [eb] at vb
      refine brF (decide_eq_false (Int.not_le.mpr (Int.ofNat_lt.mpr hj))) (idx_W (Nat.lt_of_lt_of_le hl (Nat.le_trans hn (Nat.le_of_lt hb))) va (idx_W (Nat.lt_trans hj hb) vb (brD (fun c => ?_) fun c => ?_)))
      · exact And.intro rfl (goL a A' hA fun b t e => by rw [hB] at e; cases e; exact c)
      · exact And.intro rfl (goR b1 B' hB fun a t e => by rw [hA] at e; cases e; exact c)

noncomputable def trB : St := (.cons (.assign [] 6 (.int 0)) (.cons (.for_ [] [7] false (.range (.cons (.int 2) .nil)) trB1) (.cons (.app [] 0 (.var 6)) .nil)))
theorem tr_join {w : List Int} {k : Nat} {ps : List (Nat × Nat)} {x6 x7 x8 : Slot} (j : J w k leaf joined par ws A B ps) (hk : k + 2 ≤ w.length) (h30 : w.length ≤ 30) (kn : ∀ leaf joined par ws A B ps x6 x7 x8, J w (k + 1) leaf joined par ws A B ps → Q .next (trS ws w.length par leaf joined (.frz (.int ((w.length + k : Nat) : Int))) x6 x7 x8 x9 x10) p) :
    ex C trB (trS ws w.length par leaf joined (.frz (.int ((w.length + k : Nat) : Int))) x6 x7 x8 x9 x10) p Q ε := by
  have hct := j.ct
  have hp : w.length + k ≤ par.length := by rw [j.pl]; omega
  have hm : w.length + k < 100 := by omega
  have hb : w.length + k < 1000000 := Nat.lt_trans hm (by decide)
  refine range_n (n := 2) (by decide) ?_
  refine tr_side (Q := fun fl t q => loopW fl _ fun a b => _) (b := 0) j.lk (by omega) (Nat.le_add_right _ _) hp hb fun x A1 B1 l1 j1 y8 P1 lk1 => ?_
  have h1 := (pick_ok j.inv P1).1.length_eq
  rw [List.length_append, List.length_cons, List.length_append] at h1
  refine tr_side (Q := fun fl t q => loopW fl _ fun a b => _) lk1 (by omega) (Nat.le_add_right _ _) (by rw [List.length_set]; exact hp) hb fun y A2 B2 l2 j2 y8 P2 lk2 => ?_
  have h := kn _ _ _ _ _ _ _ (.frz (.int (0 + x.2.1 + y.2.1))) (.frz (.int ((1 : Nat) : Int))) y8 (J_step j P1 P2 lk2)
  unfold trS at h
  rw [show x.2.1 + y.2.1 = 0 + x.2.1 + y.2.1 by rw [Int.zero_add], ← dI_app] at h
  exact And.intro (by rw [dI_len, j.wl]; exact Nat.lt_trans hm (by decide)) h
theorem idx_GN {K : D → Prop} {l : List Nat} {i : Nat} (h1 : i < 1000000) (h : i < l.length) (k : K (.int (l.getD i 0 : Nat))) : idxW (dN l) (.int (i : Nat)) K := idx_N h1 h (by rw [List.getD_eq_getElem?_getD, List.getElem?_eq_getElem h] at k; exact k)
theorem getD_set {l : List Nat} {i j v : Nat} (h : i < l.length) : (l.set i v).getD j 0 = if i = j then v else l.getD j 0 := by
  rw [List.getD_eq_getElem?_getD, List.getElem?_set]
  split
  · rfl
  · rw [List.getD_eq_getElem?_getD]
theorem take_getD {dd : List Nat} {n : Nat} (h : n ≤ dd.length) : dd.take n = (List.range n).map fun i => dd.getD i 0 := by
  apply List.ext_getElem
  · rw [List.length_take, List.length_map, List.length_range, Nat.min_eq_left h]
  · intro i h1 h2
    rw [List.getElem_take, List.getElem_map, List.getElem_range, List.getD_eq_getElem?_getD, List.getElem?_eq_getElem]; rfl
theorem eval_tree (hr : 0 < r) (w : List Int) (hw : Asc w) (hpos : ∀ x ∈ w, 0 < x) (h2 : 2 ≤ w.length) (h30 : w.length ≤ 30) (k : ∀ ds, ds.length = w.length → TreeOK w ds → Φ true (.list (dN ds)) p) : lev r 6 [.list (dI w)] p Φ ε := by
  have lw : w.length ≤ lim := Nat.le_trans h30 (by decide)
  have e1 : 2 * (w.length : Int) - 1 = ((2 * w.length - 1 : Nat) : Int) := by omega
  have hL : 2 * w.length - 1 ≤ 100 := by omega
  have bd : 0 ≤ 2 * (w.length : Int) - 1 ∧ 2 * (w.length : Int) - 1 ≤ 100000 := by rw [e1]; exact ⟨Int.natCast_nonneg _, Int.ofNat_le.mpr (Nat.le_trans hL (by decide))⟩
  have erep : List.replicate (2 * (w.length : Int) - 1).toNat (D.int 0) = dN (List.replicate (2 * w.length - 1) 0) := by rw [e1]; exact (List.map_replicate (f := fun n : Nat => D.int n) (n := 2 * w.length - 1) (a := 0)).symm
  refine lev_of (f := 6) rfl hr (And.intro (dI_le lw) ?_)
  rw [dI_len]
  refine And.intro (dI_le lw) (And.intro (.inl (by decide)) (And.intro bd ?_))
  rw [erep]
  refine And.intro rfl (And.intro (.inl (by decide)) (range_i rfl e1 lw (Nat.le_trans hL (by decide)) ?_))
  refine forR_inv (S := (Nat × Nat × List Nat × List Int × Slot × Slot × Slot × Slot)) (fun _ s => trS s.2.2.2.1 w.length s.2.2.1 s.1 s.2.1 s.2.2.2.2.1 s.2.2.2.2.2.1 s.2.2.2.2.2.2.1 s.2.2.2.2.2.2.2 .un .un) (fun _ _ => p) (fun k s => ∃ A B ps, J w k s.1 s.2.1 s.2.2.1 s.2.2.2.1 A B ps) (0, w.length, List.replicate (2 * w.length - 1) 0, w, .un, .un, .un, .un) ⟨_, _, _, J_zero w hw hpos⟩ (fun k hk s hI N kn => ?_) fun s hI => ?_
  · obtain ⟨A, B, ps, j⟩ := hI
    exact tr_join (Q := fun fl t q => loopW fl (N t q) fun a b => _) j (by omega) h30 fun _ _ _ _ A B ps x6 x7 x8 h => kn (_, _, _, _, _, x6, x7, x8) ⟨A, B, ps, h⟩
  · obtain ⟨A, B, ps, j⟩ := hI
    obtain ⟨hpar, hfin⟩ := J_end j (by omega) (by omega)
    have hpl := j.pl
    refine And.intro (.inl (by decide)) (And.intro bd ?_)
    rw [erep]
    refine And.intro (.inl (by decide)) (range_dn (m := 2 * w.length - 2) (by omega) (by omega) ?_)
    refine forR_inv (fun _ u => trS s.2.2.2.1 w.length s.2.2.1 s.1 s.2.1 s.2.2.2.2.1 s.2.2.2.2.2.1 s.2.2.2.2.2.2.1 s.2.2.2.2.2.2.2 (.own (dN u.1)) u.2) (fun _ _ => p) (fun k u => u.1.length = 2 * w.length - 1 ∧ u.1.getD (2 * w.length - 2) 0 = 0 ∧ ∀ i, 2 * w.length - 2 ≤ i + k → i < 2 * w.length - 2 → u.1.getD i 0 = u.1.getD (s.2.2.1.getD i 0) 0 + 1) ((List.replicate (2 * w.length - 1) 0, .un) : List Nat × Slot)
      ⟨List.length_replicate, by rw [List.getD_eq_getElem?_getD, List.getElem?_replicate, if_pos (by omega)]; rfl, fun i h1 h2 => absurd h2 (Nat.not_lt_of_le h1)⟩ (fun k hk u hI N kn => ?_) fun u hI => ?_
    · obtain ⟨d1, d2, d3⟩ := hI
      have hq : 2 * w.length - 2 - 1 - k < 2 * w.length - 2 ∧ 2 * w.length - 2 = 2 * w.length - 2 - 1 - k + (k + 1) := by omega
      have hi : ∀ i, 2 * w.length - 2 ≤ i + (k + 1) → 2 * w.length - 2 - 1 - k = i ∨ 2 * w.length - 2 ≤ i + k := by omega
      generalize 2 * w.length - 2 - 1 - k = i at hq hi ⊢
      have hp := hpar i hq.1
      have b1 : i < u.1.length := by omega
      have b2 : i < 1000000 := by omega
      refine idx_GN b2 (by omega) (idx_GN (by omega) (by rw [d1]; exact hp.2) (set_N b2 b1 ?_))
      have h := kn (u.1.set i (u.1.getD (s.2.2.1.getD i 0) 0 + 1), .frz (.int (i : Nat))) ⟨List.length_set.trans d1, by rw [getD_set b1, if_neg (Nat.ne_of_lt hq.1)]; exact d2, fun m m1 m2 => ?_⟩
      · unfold trS at h
        rw [← dN_set] at h
        exact h
      · rw [getD_set b1, getD_set b1, if_neg (show i ≠ s.2.2.1.getD m 0 from fun e => by have := hpar m m2; rcases hi m m1 with q | q <;> omega)]
        rcases hi m m1 with q | q
        · rw [if_pos q, q]
        · by_cases c : i = m
          · rw [if_pos c, c]
          · rw [if_neg c]; exact d3 m q m2
    · obtain ⟨d1, d2, d3⟩ := hI
      have hn : w.length ≤ u.1.length := by omega
      refine And.intro ⟨nofun, dN_le (by rw [d1]; exact Nat.le_trans hL (by decide))⟩ ?_
      rw [show pickD (dN u.1) none (some (w.length : Int)) none = dN (u.1.take w.length) by rw [pick_take]; exact List.map_take.symm, take_getD hn]
      exact k _ (by rw [List.length_map, List.length_range]) (Good.tree (hfin (fun i => u.1.getD i 0) d2 fun i hi => d3 i (by omega) hi))
end
end Mini
end
section -- F14
namespace Mini
open PySem Mk

theorem fit_items (M : Nat) : ∀ (w : List Int) (ds : List Nat), (∀ d ∈ ds, d ≤ M) → fitH M (items w) ds
  | [], [], _ => trivial
  | [], _ :: _, _ => trivial
  | _ :: _, [], _ => trivial
  | _ :: w, _ :: ds, h => ⟨h _ List.mem_cons_self, fit_items M w ds fun x hx => h x (List.mem_cons_of_mem _ hx)⟩
/-- what is known of the tree's depths -/
structure TM (w : List Int) (ds : List Nat) (H : Nat) : Prop where
  ht : HT (items w) (cost w ds) H
  le : ∀ d ∈ ds, d ≤ H
  mem : H ∈ ds
  pos : ∀ d ∈ ds, 0 < d
  hw : H ≤ w.length
  room : ∀ L, H ≤ L → w.length ≤ 2 ^ L
  min : ∀ L m, IsMin w L m → (m = cost w ds ↔ H ≤ L)
theorem tree_max {w : List Int} {ds : List Nat} (hpos : ∀ x ∈ w, 0 < x) (h2 : 2 ≤ w.length) (hl : ds.length = w.length) (t : TreeOK w ds) : ∃ H, TM w ds H := by
  obtain ⟨c, H, ht, rfl, hk, hm⟩ := t
  have low := ht.low (items_pos hpos)
  rw [items_len] at low
  have hkH := fun L h => Nat.le_of_eq (hk L h)
  have pos : ∀ d ∈ ds, 0 < d := kr_two H ds (hl ▸ h2) (hkH H (Nat.le_refl _))
  have hH : ∀ M, (∀ d ∈ ds, d ≤ M) → H ≤ M := fun M hM => (low H ds hl hm (hkH H (Nat.le_refl _))).2 M (costv_items w ds) (fit_items M w ds hM)
  refine ⟨H, ht, hm, ?_, pos, ?_, fun L hL => feas_room (n := w.length) ⟨hl, fun d hd => Nat.le_trans (hm d hd) hL, hkH L hL⟩, fun L m hmin => ?_⟩
  · refine Decidable.byContradiction fun hn => ?_
    have lt : ∀ d ∈ ds, d < H := fun d hd => Nat.lt_of_le_of_ne (hm d hd) fun e => hn (e ▸ hd)
    have := hH (H - 1) fun d hd => Nat.le_sub_one_of_lt (lt d hd)
    match ds, hl, lt with
    | [], hl, _ => rw [← hl] at h2; cases h2
    | d :: _, _, lt => exact absurd this (Nat.not_le_of_lt (Nat.sub_lt (Nat.lt_of_le_of_lt (Nat.zero_le _) (lt d List.mem_cons_self)) (Nat.succ_pos 0)))
  · obtain ⟨ls, a1, a2, a3, a4⟩ := ht.attained
    rw [items_len] at a1 a2 a4
    have le : ∀ l ∈ ls, l ≤ w.length := fun l hl => Nat.le_of_succ_le (a2 l hl)
    exact (low w.length ls a1 le (Nat.le_of_eq (a4 _ (Nat.le_succ _)))).2 w.length a3 (fit_items _ _ _ le)
  · obtain ⟨ls, a1, a2, a3⟩ := hmin.1
    have b := low L ls a1.1 (fun l h => (a1.2 l h).2) a2
    rw [costv_items, a3] at b
    exact ⟨fun e => b.2 L e (fit_items L w ls fun d hd => (a1.2 d hd).2), fun hL => Int.le_antisymm (hmin.2 ds ⟨hl, fun d hd => ⟨pos d hd, Nat.le_trans (hm d hd) hL⟩⟩ (hkH L hL)) b.1⟩
section
variable {r : Nat} {p : Pool} {Φ : Bool → D → Pool → Prop} {ε : Pool → Prop} {Q : Fl → List Slot → Pool → Prop} {C : Calls} {cs us : List Int} {ls : List Nat} {H : Nat}
theorem eval_free (hr : 1 < r) (cs : List Int) (h : cs.length ≤ 12) (hc : ∀ c ∈ cs, 0 ≤ c) (k : ∀ ds, ds.length = (wF cs).length → ((wF cs).length < 2 → ds = List.replicate (wF cs).length 1) → (2 ≤ (wF cs).length → TreeOK (wF cs) ds) → Φ false (.list (dN (plc cs ds))) p) : lev r 7 [.list (dI cs)] p Φ ε := by
  have hw : (wF cs).length ≤ 12 := by rw [wF_len]; exact Nat.le_trans (rowsF_len cs) h
  have hl : ((isort leP (usedP cs)).map pairD).length = (wF cs).length := by rw [List.length_map, wF_len]; rfl
  have l2 : ((isort leP (usedP cs)).map pairD).length ≤ lim := by rw [hl]; exact Nat.le_trans hw (by decide)
  have lc := dI_le (Nat.le_trans h (by decide : 12 ≤ lim))
  have hn : cs.length ≤ 100000 := Nat.le_trans h (by decide)
  have hrows : ∀ r ∈ rowsF cs, ∃ i : Nat, r.2 = (i : Int) ∧ i < cs.length := fun r hr => let ⟨i, e, hi, _⟩ := rowsF_mem hr; ⟨i, e, hi⟩
  have fin := fun ds (hd : ds.length = (wF cs).length) k => eval_placed (Φ := Φ) (p := p) (ε := ε) (r := 1) (Nat.succ_pos 0) cs.length (rowsF cs) ds hn (hd.trans (wF_len cs)) (by rw [hd]; exact Nat.le_trans hw (by decide)) hrows k
  have neg : ∀ c ∈ cs, c < 0 → False := fun c q q2 => absurd q2 (Int.not_lt.mpr (hc c q))
  refine lev_of (f := 7) rfl hr (eval_used (Nat.succ_pos 0) cs (Nat.lt_of_le_of_lt h (by decide)) (fun c q q2 => (neg c q q2).elim) (fun hp => And.intro l2 ?_) fun ⟨c, q, q2⟩ => (neg c q q2).elim)
  rw [hl]
  refine brD (fun hs => And.intro lc (And.intro l2 ?_)) fun hs => And.intro lc (And.intro l2 ?_)
  · have hs := Int.ofNat_lt.mp hs
    rw [hl, dI_len]
    refine And.intro ⟨pos_L, Int.ofNat_le.mpr (Nat.le_trans hw (by decide))⟩ ?_
    rw [show List.replicate ((wF cs).length : Int).toNat (D.int 1) = dN (List.replicate (wF cs).length 1) from (List.map_replicate (f := fun n : Nat => D.int n) (n := (wF cs).length) (a := 1)).symm]
    exact fin _ List.length_replicate (k _ List.length_replicate (fun _ => rfl) fun q => absurd hs (Nat.not_lt_of_le q))
  · have hs := Nat.le_of_not_lt fun q => hs (Int.ofNat_lt.mpr q)
    rw [dI_len]
    refine compW_all (fun r : Int × Int => .int r.1) (fun r hr acc N kn => And.intro rfl (And.intro (fun _ => kn) nofun)) ?_
    rw [show (isort leP (usedP cs)).map (fun r => D.int r.1) = dI (wF cs) by unfold dI wF; rw [List.map_map]; rfl]
    exact eval_tree (Nat.succ_pos 0) (wF cs) (wF_asc cs) (wF_pos cs) hs (Nat.le_trans hw (by decide)) fun ds h1 h2 => fin ds h1 (k ds h1 (fun q => absurd q (Nat.not_lt_of_le hs)) fun _ => h2)
noncomputable def ltS (cs us : List Int) (ls : List Nat) (x3 x4 : Slot) : List Slot := [.frz (.list (dI cs)), .frz (.list (dI us)), .frz (.list (dN ls)), x3, x4]
theorem lt_max {o : Cop} {e : Ex} {x3 x4 : Slot} (h1 : H ∈ ls) (h2 : ∀ l ∈ ls, l ≤ H) (kk : ev C e (ltS cs us ls x3 x4) p (fun _ y p => cmpW o (.int (H : Nat)) y fun r => Q (.ret false (.bool r)) (ltS cs us ls x3 x4) p) ε) : ex C (.cons (.ret [2] (.cmp o (.bi .max1 (.cons (.var 2) .nil)) e)) .nil) (ltS cs us ls x3 x4) p Q ε := max_N (K := fun _ d => ev C e (ltS cs us ls x3 x4) p (fun _ y p => cmpW o d y fun r => Q (.ret false (.bool r)) (ltS cs us ls x3 x4) p) ε) h1 h2 kk
noncomputable def ltB : St := (.cons (.ite [3] (.and (.cmp .ge (.bin .shl (.int 1) (.var 4)) (.lenv 1)) (.cmp .eq (.call 16 (.cons (.var 1) (.cons (.var 4) .nil))) (.var 3))) (.cons (.ret [2] (.cmp .eq (.bi .max1 (.cons (.var 2) .nil)) (.var 4))) .nil) .nil) .nil)
theorem lt_step {w : List Int} {ds : List Nat} {k : Nat} (t : TM w ds H) (hu : us.Perm w) (lu : us.length ≤ lim) (hk : k < 5) (hH : k < H) (m1 : H ∈ ls) (m2 : ∀ l ∈ ls, l ≤ H) (kn : k + 1 < H → Q .next (ltS cs us ls (.frz (.int (cost w ds))) (.frz (.int ((1 + k : Nat) : Int)))) p) (kt : ∀ sl, Q (.ret false (.bool true)) sl p) :
    ex (lev 2) ltB (ltS cs us ls (.frz (.int (cost w ds))) (.frz (.int ((1 + k : Nat) : Int)))) p Q ε := by
  have hk10 : 1 + k ≤ 10 := Nat.le_trans (Nat.add_le_add_left (Nat.le_of_lt hk) 1) (by decide)
  have nx : ¬ H ≤ 1 + k → k + 1 < H := fun q => Nat.add_comm 1 k ▸ Nat.lt_of_not_le q
  have hlen : (dI us).length = w.length := (dI_len us).trans hu.length_eq
  refine And.intro (shl_ok (Nat.le_trans hk10 (by decide))) (And.intro (dI_le lu) (brD (fun c1 => ?_) fun c1 => brF rfl (kn (nx fun q => c1 ?_))))
  · rw [pow_nat, dI_len] at c1
    refine eval_dp (Nat.succ_pos 1) us (1 + k) (Nat.le_add_right _ _) hk10 (Int.ofNat_le.mp c1) fun fl m hm => ?_
    have hm := t.min (1 + k) m (isMin_perm hu hm)
    refine brD (fun c2 => ?_) fun c2 => kn (nx fun q => c2 (hm.2 q))
    have e : decide (((H : Nat) : Int) = ((1 + k : Nat) : Int)) = true := decide_eq_true (congrArg Int.ofNat (Nat.le_antisymm (hm.1 c2) (Nat.add_comm k 1 ▸ hH)))
    show ex (lev 2) _ (ltS cs us ls (.frz (.int (cost w ds))) (.frz (.int ((1 + k : Nat) : Int)))) p _ ε
    refine lt_max m1 m2 ?_
    show Q (.ret false (.bool (decide (((H : Nat) : Int) = ((1 + k : Nat) : Int))))) _ p
    rw [e]
    exact kt _
  · rw [pow_nat, hlen]
    exact Int.ofNat_le.mpr (t.room _ q)

theorem plc_bools {ds : List Nat} (hl : ds.length = (wF cs).length) (hp : ∀ d ∈ ds, 0 < d) : ((plc cs ds).map fun l : Nat => decide (0 < (l : Int))) = cs.map fun c => decide (0 < c) := by
  apply List.ext_getElem
  · rw [List.length_map, List.length_map, plc_len]
  · intro i i1 i2
    rw [List.length_map] at i1 i2
    have hz : (cs[i], (plc cs ds)[i]) ∈ cs.zip (plc cs ds) := List.mem_iff_getElem.mpr ⟨i, by rw [List.length_zip, plc_len, Nat.min_self]; exact i2, List.getElem_zip⟩
    have hh := plc_iff cs ds hl hp _ hz
    rw [List.getElem_map, List.getElem_map]
    refine decide_eq_decide.mpr ⟨fun q => Int.not_le.mp fun c => ?_, fun q => Int.ofNat_lt.mpr (hp _ (hh.1 q))⟩
    rw [show (plc cs ds)[i] = 0 from hh.2 c] at q
    exact Int.lt_irrefl 0 q
theorem eval_lowtree (hr : 2 < r) (cs : List Int) (h : cs.length ≤ 12) (hc : ∀ c ∈ cs, 0 ≤ c) (h1 : 1 ≤ (wF cs).length) (h6 : (wF cs).length ≤ 6) (k : Φ false (.bool true) p) : lev r 22 [.list (dI cs), .list (dI (cs.filter fun c => decide (0 < c)))] p Φ ε := by
  have lc : cs.length ≤ lim := Nat.le_trans h (by decide)
  have ulen := us_len cs
  have uperm := wF_perm cs
  have usort := wF_isort cs
  generalize cs.filter (fun c => decide (0 < c)) = us at ulen uperm usort ⊢
  have lu : us.length ≤ lim := by rw [ulen]; exact Nat.le_trans h6 (by decide)
  refine lev_of (f := 22) rfl hr (eval_free (Nat.le_refl 2) cs h hc fun ds dlen dsm dtr => ?_)
  have tm : 2 ≤ (wF cs).length → ∃ H, TM (wF cs) ds H := fun q => tree_max (wF_pos cs) q dlen (dtr q)
  have dpos : ∀ d ∈ ds, 0 < d := by
    by_cases c : (wF cs).length < 2
    · rw [dsm c]; exact fun d hd => List.eq_of_mem_replicate hd ▸ Nat.succ_pos 0
    · exact (tm (Nat.le_of_not_lt c)).elim fun _ t => t.pos
  have hmem := plc_mem cs ds dlen dpos
  have hmem' := plc_mem' cs ds dlen dpos
  have hle : ∀ H, (∀ d ∈ ds, d ≤ H) → ∀ l ∈ plc cs ds, l ≤ H := fun H q l hl => (hmem l hl).elim (fun e => e ▸ Nat.zero_le H) (q l)
  have hb := plc_bools dlen dpos
  have hcost := plc_cost cs ds dlen
  have hpl : (plc cs ds).length ≤ lim := by rw [plc_len]; exact lc
  generalize plc cs ds = fr at hmem' hle hb hcost hpl ⊢
  refine And.intro (dN_le hpl) (compW_all (g0 := fun n : Nat => D.int n) (fun n : Nat => D.bool (decide (0 < (n : Int)))) (fun n _ acc N kn => And.intro (fun _ => kn) nofun) (And.intro (dI_le lc) (compW_all (g0 := D.int) (fun c => D.bool (decide (0 < c))) (fun n _ acc N kn => And.intro (fun _ => kn) nofun) (Or.inr ⟨fr.map fun n : Nat => decide (0 < (n : Int)), cs.map fun c => decide (0 < c), List.map_map.symm, List.map_map.symm, brN (fun q => absurd hb q) fun _ => And.intro (dI_le lu) ?_⟩))))
  rw [dI_len, ulen]
  refine brD (fun hs => ?_) fun hs => ?_
  · have e1 : (wF cs).length = 1 := Nat.le_antisymm (Nat.le_of_lt_succ (Int.ofNat_lt.mp hs)) h1
    have e2 : ds = [1] := by rw [dsm (Int.ofNat_lt.mp hs), e1]; rfl
    show ex (lev 2) _ (ltS cs us fr .un .un) p _ ε
    refine lt_max (H := 1) (hmem' 1 (by rw [e2]; exact List.mem_cons_self)) (hle 1 fun d hd => by rw [e2] at hd; exact Nat.le_of_eq (List.mem_singleton.mp hd)) (And.intro (dI_le lu) ?_)
    rw [dI_len, ulen, e1]
    exact k
  · obtain ⟨H, t⟩ := tm (Nat.le_of_not_lt fun q => hs (Int.ofNat_lt.mpr q))
    have m1 := hmem' H t.mem
    have m2 := hle H t.le
    obtain ⟨H', ht'⟩ := huF_HT ((wF cs).length - 1) (wF cs) (wF_asc cs) (Nat.sub_add_cancel h1).symm (items (wF cs)) (by unfold items; rw [List.map_map]; exact .of_eq (List.map_id _))
    have hcc := HT.unique (items_pos (wF_pos cs)) ht' t.ht
    refine eval_lmerged (Nat.succ_pos 1) us (by rw [ulen]; exact Nat.le_trans h6 (by decide)) fun m hm => ?_
    rw [ulen, usort, hcc] at hm
    subst hm
    refine eval_total (Nat.succ_pos 1) cs fr lc hpl (fun l hl => Nat.lt_of_le_of_lt (Nat.le_trans (m2 l hl) (Nat.le_trans t.hw h6)) (by decide)) ?_
    rw [hcost]
    refine brN (fun q => absurd rfl q) fun _ => range_ab (a := 1) (b := 6) (by decide) (by decide) ?_
    have kt := fun (_ : List Slot) => k
    obtain ⟨n, e5⟩ : ∃ n, n = 5 := ⟨5, rfl⟩
    rw [show 6 - 1 = n from e5.symm]
    refine forR_inv (n := n) (fun _ s => ltS cs us fr (.frz (.int (cost (wF cs) ds))) s) (fun _ _ => p) (fun k _ => k < H) .un (t.pos H t.mem) (fun j hj s hI N kn => ?_) fun s hI => ?_
    · exact lt_step (Q := fun fl t q => loopW fl (N t q) fun a b => endW (.ret a b) fun b d => Φ b d q) t uperm.symm lu (e5 ▸ hj) hI m1 m2 (fun q => kn _ q) kt
    · show ex (lev 2) _ (ltS cs us fr (.frz (.int (cost (wF cs) ds))) s) p _ ε
      refine lt_max m1 m2 ?_
      show Φ false (.bool (decide ((5 : Int) < (H : Nat)))) p
      rw [decide_eq_true (show (5 : Int) < (H : Nat) from Int.ofNat_lt.mpr (e5 ▸ hI : 5 < H))]
      exact k
end
end Mini
end
section -- F15
namespace Mini
open PySem Mk

theorem cost_mul (t : Int) : ∀ (w : List Int) (ls : List Nat), cost (w.map (fun c => c * t)) ls = t * cost w ls
  | [], [] => (Int.mul_zero t).symm
  | [], _ :: _ => (Int.mul_zero t).symm
  | _ :: _, [] => (Int.mul_zero t).symm
  | a :: w, l :: ls => by rw [List.map_cons, cost, cost, cost_mul t w ls, Int.mul_add, Int.mul_comm a t, Int.mul_assoc]
theorem filter_mul (t : Int) (ht : 0 < t) (cs : List Int) : (cs.map (fun c => c * t)).filter (fun c => decide (0 < c)) = (cs.filter (fun c => decide (0 < c))).map (fun c => c * t) := by
  rw [List.filter_map]
  exact congrArg _ (List.filter_congr fun c _ => decide_eq_decide.mpr ⟨fun h => Int.not_le.mp fun hn => Int.not_le.mpr h (Int.mul_nonpos_of_nonpos_of_nonneg hn (Int.le_of_lt ht)), fun h => Int.mul_pos h ht⟩)
theorem wF_mul (t : Int) (ht : 0 < t) (cs : List Int) : wF (cs.map (fun c => c * t)) = (wF cs).map (fun c => c * t) := by
  refine asc_unique (wF_asc _) ?_ ((wF_perm _).trans ?_)
  · exact List.pairwise_map.mpr ((wF_asc cs).imp fun h => Int.mul_le_mul_of_nonneg_right h (Int.le_of_lt ht))
  · rw [filter_mul t ht]
    exact (wF_perm cs).symm.map _
theorem wF_rev (cs : List Int) : wF cs.reverse = wF cs := by
  refine asc_unique (wF_asc _) (wF_asc _) ((wF_perm _).trans (List.Perm.trans ?_ (wF_perm cs).symm))
  rw [List.filter_reverse]
  exact List.reverse_perm _

/-- the total of the lengths that are told -/
noncomputable def totF (cs : List Int) (L : Nat) : Int := cost (wF cs) (dsF cs L)
theorem tot_eq (cs : List Int) (L : Nat) : cost cs (llF cs L) = totF cs L := plc_cost cs _ (dsF_len cs L)
theorem tot_rev (cs : List Int) (L : Nat) : totF cs.reverse L = totF cs L := by unfold totF dsF; rw [wF_rev]
theorem tot_mul (cs : List Int) (t : Int) (ht : 0 < t) (L : Nat) (hn : (wF cs).length ≤ 2 ^ L) : cost cs (llF (cs.map (fun c => c * t)) L) = totF cs L := by
  have e1 : t * cost cs (llF (cs.map (fun c => c * t)) L) = t * cost (wF cs) (dsF (cs.map (fun c => c * t)) L) := by
    rw [← cost_mul, tot_eq, totF, wF_mul t ht, cost_mul]
  rw [Int.eq_of_mul_eq_mul_left (Int.ne_of_gt ht) e1]
  unfold totF dsF
  rw [wF_mul t ht, List.length_map]
  split
  · rfl
  · rename_i h2
    obtain ⟨f, _, _, _, low⟩ := pkg_spec (wF cs) (wF_asc cs) (wF_pos cs) (Nat.le_of_not_lt h2) L hn
    obtain ⟨f', _, _, _, low'⟩ := pkg_spec ((wF cs).map (fun c => c * t)) (wF_mul t ht cs ▸ wF_asc _) (wF_mul t ht cs ▸ wF_pos _) (by rw [List.length_map]; exact Nat.le_of_not_lt h2) L (by rw [List.length_map]; exact hn)
    rw [List.length_map] at f' low'
    have h3 := low' _ f
    rw [cost_mul, cost_mul] at h3
    exact Int.le_antisymm (Int.le_of_mul_le_mul_left h3 ht) (low _ f')
theorem tot_wide (cs : List Int) (L M : Nat) (hn : (wF cs).length ≤ 2 ^ L) (hLM : L ≤ M) : totF cs M ≤ totF cs L := by
  unfold totF dsF
  split
  · exact Int.le_refl _
  · rename_i h2
    have h2 := Nat.le_of_not_lt h2
    obtain ⟨_, _, _, _, low⟩ := pkg_spec (wF cs) (wF_asc cs) (wF_pos cs) h2 M (Nat.le_trans hn (Nat.pow_le_pow_right (by decide) hLM))
    exact low _ (feas_more hLM (pkg_spec (wF cs) (wF_asc cs) (wF_pos cs) h2 L hn).1)
theorem tot_min {cs us : List Int} {L : Nat} {m : Int} (hp : us.Perm (wF cs)) (h2 : 2 ≤ (wF cs).length) (hn : (wF cs).length ≤ 2 ^ L) (hm : IsMin us L m) : totF cs L = m := by
  unfold totF dsF
  rw [if_neg (Nat.not_lt_of_le h2)]
  exact (isMin_pkg (wF_asc cs) (wF_pos cs) h2 hn hp hm).symm
theorem tot_huf (cs : List Int) (h2 : 2 ≤ (wF cs).length) : totF cs ((wF cs).length + 1) = huF ((wF cs).length - 1) (wF cs) := by
  unfold totF dsF
  rw [if_neg (Nat.not_lt_of_le h2)]
  obtain ⟨H, ht⟩ := huF_HT ((wF cs).length - 1) (wF cs) (wF_asc cs) (Nat.sub_add_cancel (Nat.le_of_succ_le h2)).symm (items (wF cs)) (by unfold items; rw [List.map_map]; exact .of_eq (List.map_id _))
  exact pkg_wide (wF cs) (wF_asc cs) (wF_pos cs) h2 ht _ (Nat.le_add_right _ 2)
noncomputable def dropS : Nat → St → St
  | 0, s => s
  | k + 1, .cons _ r => dropS k r
  | _ + 1, s => s
noncomputable def usF (cs : List Int) : List Int := cs.filter (fun c => decide (0 < c))
theorem usF_len (cs : List Int) : (usF cs).length = (wF cs).length := us_len cs
theorem usF_perm (cs : List Int) : (usF cs).Perm (wF cs) := (wF_perm cs).symm

/-- what stands at the law's head -/
structure LawC (cs : List Int) (L : Nat) : Prop where
  c2 : cs.length ≤ 10
  c3 : ∀ c ∈ cs, 0 ≤ c
  hL1 : 1 ≤ L
  hL5 : L ≤ 5
  hroom : (wF cs).length ≤ 2 ^ L
section
variable {cs : List Int} {L : Nat} {Φ : Bool → D → Pool → Prop} {ε : Pool → Prop} {p : Pool}
theorem LawC.n10 (x : LawC cs L) : (wF cs).length ≤ 10 := by rw [wF_len]; exact Nat.le_trans (rowsF_len cs) x.c2
theorem LawC.c12 (x : LawC cs L) : cs.length ≤ 12 := Nat.le_trans x.c2 (by decide)
theorem LawC.cl (x : LawC cs L) : cs.length ≤ lim := Nat.le_trans x.c2 (by decide)
theorem LawC.ul (x : LawC cs L) : (usF cs).length ≤ lim := by rw [usF_len]; exact Nat.le_trans x.n10 (by decide)
theorem LawC.mid (x : LawC cs L) : L ≤ 1000 := Nat.le_trans x.hL5 (by decide)
theorem LawC.row (x : LawC cs L) : RowOK cs L (llF cs L) := row_ok cs L x.hL1 x.hroom
theorem LawC.tot (x : LawC cs L) {ls : List Nat} {ks : List Int} {M : Nat} (ok : RowOK ks M ls) (hl : ks.length = cs.length) (hM : M ≤ 1000) (h : Φ false (.int (cost cs ls)) p) : lev 5 15 [.list (dI cs), .list (dN ls)] p Φ ε :=
  eval_total (Nat.succ_pos 4) cs ls x.cl (by rw [ok.len, hl]; exact x.cl) (fun l h => Nat.lt_of_le_of_lt (ok.le l h) (Nat.lt_of_le_of_lt hM (by decide))) h
end
theorem seqN {C : Calls} {r : St} {sl : List Slot} {p : Pool} {Q : Fl → List Slot → Pool → Prop} {E : Pool → Prop} (k : ex C r sl p Q E) : ex C .nil sl p (fun f s p => seqW f (ex C r s p Q E) fun f => Q f s p) E := k
noncomputable abbrev QT (f : Fl) (_ : List Slot) (_ : Pool) : Prop := f = .ret false (.bool true)
noncomputable def lwS (s0 : Slot) (cs : List Int) (x3 x4 : Slot) (L : Nat) (x6 x7 x8 x9 : Slot) : List Slot := [s0, .frz .pool, .frz (.list (dI cs)), x3, x4, .frz (.int (L : Nat)), x6, x7, x8, x9, .un, .un, .un]
section
variable {cs : List Int} {L : Nat} {s0 x3 x4 x6 x7 x8 x9 : Slot} {a b : Int} {ε : Pool → Prop}
theorem rev_pick (cs : List Int) : pickD (dI cs) none none (some (-1)) = dI cs.reverse := (pick_rev _).trans List.map_reverse.symm
theorem law_s19 (X : LawC cs L) : ex (lev 5) (dropS 18 xb25) (lwS s0 cs x3 x4 L x6 x7 (.frz (.int (totF cs L))) x9) (some (a, b)) QT ε := by
  refine eval_take (m := 1000) (Nat.succ_pos 4) (by decide) (by decide) fun m hm a b => And.intro (dI_le X.cl) (compW_all (g0 := D.int) (fun c => D.int (c * ((2 + m : Nat) : Int))) (fun c _ acc N kn => And.intro (fun _ => And.intro (.inr (nat63 ?_)) kn) nofun) ?_)
  · exact Nat.lt_trans (Nat.add_lt_add_left hm 2) (by decide)
  have ht : (0 : Int) < ((2 + m : Nat) : Int) := Int.ofNat_lt.mpr (Nat.lt_of_lt_of_le (Nat.succ_pos 1) (Nat.le_add_right 2 m))
  generalize ((2 + m : Nat) : Int) = t at ht ⊢
  rw [show cs.map (fun c => D.int (c * t)) = dI (cs.map fun c => c * t) from (List.map_map (g := D.int)).symm]
  have X1 : LawC (cs.map fun c => c * t) L := ⟨by rw [List.length_map]; exact X.c2, fun c hc => let ⟨d, hd, e⟩ := List.mem_map.1 hc; e ▸ Int.mul_nonneg (X.c3 d hd) (Int.le_of_lt ht), X.hL1, X.hL5, by rw [wF_mul t ht, List.length_map]; exact X.hroom⟩
  have X2 : LawC cs.reverse L := ⟨by rw [List.length_reverse]; exact X.c2, fun c hc => X.c3 c (List.mem_reverse.1 hc), X.hL1, X.hL5, by rw [wF_rev]; exact X.hroom⟩
  refine eval_rowright (Nat.le_refl 4 |> Nat.le_succ_of_le) _ L X1.c12 X1.c3 X.hL1 X.mid X1.hroom (And.intro ⟨by decide, dI_le X.cl⟩ ?_)
  rw [rev_pick]
  refine eval_rowright (Nat.le_succ 4) _ L X2.c12 X2.c3 X.hL1 X.mid X2.hroom ?_
  show ex (lev 5) _ [s0, .frz .pool, .frz (.list (dI cs)), x3, x4, .frz (.int (L : Nat)), x6, x7, .frz (.int (totF cs L)), x9, .frz (.int (2 + (m : Int))), .own (dN (llF (cs.map fun c => c * t) L)), .own (dN (llF cs.reverse L))] _ _ _
  refine brF rfl (brF rfl ?_)
  show ex (lev 5) _ [s0, .frz .pool, .frz (.list (dI cs)), x3, x4, .frz (.int (L : Nat)), x6, x7, .frz (.int (totF cs L)), x9, .frz (.int (2 + (m : Int))), .frz (.list (dN (llF (cs.map fun c => c * t) L))), .frz (.list (dN (llF cs.reverse L)))] _ _ _
  refine X.tot X1.row (List.length_map ..) X.mid ?_
  rw [tot_mul cs t ht L X.hroom]
  refine brT (decide_eq_true rfl) (And.intro ⟨by decide, dI_le X.cl⟩ ?_)
  rw [rev_pick]
  refine X2.tot X2.row rfl X.mid ?_
  rw [tot_eq, tot_rev]
  show Fl.ret false (.bool (decide (totF cs L = totF cs L))) = .ret false (.bool true)
  rw [decide_eq_true rfl]
end
end Mini
end
section -- F16
namespace Mini
open PySem Mk

section
variable {cs : List Int} {L : Nat} {s0 x4 x6 x7 x8 x9 : Slot} {a b : Int} {ε : Pool → Prop}
noncomputable abbrev uS (cs : List Int) : Slot := .frz (.list (dI (usF cs)))
theorem LawC.u_len (x : LawC cs L) : (dI (usF cs)).length ≤ lim ∧ (dI (usF cs)).length = (wF cs).length := ⟨dI_le x.ul, (dI_len _).trans (usF_len cs)⟩
theorem LawC.ok9 (x : LawC cs L) : RowOK cs ((wF cs).length + 1) (llF cs ((wF cs).length + 1)) := row_ok cs _ (Nat.le_add_left 1 _) (Nat.le_of_lt (Nat.lt_of_succ_lt Nat.lt_two_pow_self))
theorem LawC.m9 (x : LawC cs L) : (wF cs).length + 1 ≤ 1000 := Nat.le_trans (Nat.succ_le_succ x.n10) (by decide)
theorem law_s18 (X : LawC cs L) : ex (lev 5) (dropS 17 xb25) (lwS s0 cs (uS cs) x4 L x6 x7 (.frz (.int (totF cs L))) (.frz (.list (dN (llF cs ((wF cs).length + 1)))))) (some (a, b)) QT ε := by
  have nx := law_s19 (s0 := s0) (x3 := uS cs) (x4 := x4) (x6 := x6) (x7 := x7) (x9 := .frz (.list (dN (llF cs ((wF cs).length + 1))))) (a := a) (b := b) (ε := ε) X
  refine And.intro X.u_len.1 ?_
  rw [X.u_len.2]
  refine brD (fun d => ?_) fun _ => brF rfl (seqN nx)
  refine X.tot X.ok9 rfl X.m9 (eval_lmerged (Nat.succ_pos 4) (usF cs) (by rw [usF_len]; exact Nat.le_trans X.n10 (by decide)) fun m hm => ?_)
  refine brN (fun q => absurd ?_ q) fun _ => seqN nx
  rw [tot_eq, tot_huf cs (Int.ofNat_lt.mp d), hm, usF_len]
  exact congrArg _ (wF_isort cs).symm
theorem law_s16 (X : LawC cs L) : ex (lev 5) (dropS 15 xb25) (lwS s0 cs (uS cs) x4 L x6 x7 (.frz (.int (totF cs L))) x9) (some (a, b)) QT ε := by
  have nx := law_s18 (s0 := s0) (x4 := x4) (x6 := x6) (x7 := x7) (a := a) (b := b) (ε := ε) X
  refine And.intro X.u_len.1 ?_
  rw [X.u_len.2]
  refine eval_rowright (Nat.le_succ 4) cs ((wF cs).length + 1) X.c12 X.c3 (Nat.le_add_left 1 _) X.m9 (Nat.le_of_lt (Nat.lt_of_succ_lt Nat.lt_two_pow_self)) ?_
  show ex (lev 5) _ (lwS s0 cs (uS cs) x4 L x6 x7 (.frz (.int (totF cs L))) (.own (dN (llF cs ((wF cs).length + 1))))) _ _ _
  refine brF rfl ?_
  refine X.tot X.ok9 rfl X.m9 (brD (fun d => And.intro X.u_len.1 ?_) fun _ => brF rfl (seqN nx))
  rw [tot_eq] at d
  rw [X.u_len.2]
  exact brF (decide_eq_false fun q => Int.not_le.mpr d (tot_wide cs L ((wF cs).length + 1) X.hroom (Int.ofNat_le.mp q))) (seqN nx)
theorem law_s15 (X : LawC cs L) : ex (lev 5) (dropS 14 xb25) (lwS s0 cs (uS cs) x4 L x6 x7 (.frz (.int (totF cs L))) x9) (some (a, b)) QT ε := by
  have nx := law_s16 (s0 := s0) (x4 := x4) (x6 := x6) (x7 := x7) (x9 := x9) (a := a) (b := b) (ε := ε) X
  refine And.intro X.u_len.1 ?_
  rw [X.u_len.2]
  refine brD (fun d1 => And.intro X.u_len.1 ?_) fun _ => brF rfl (seqN nx)
  rw [X.u_len.2]
  refine brD (fun d2 => brD (fun d3 => ?_) fun _ => brF rfl (seqN nx)) fun _ => brF rfl (seqN nx)
  refine eval_byrows (Nat.succ_le_succ (Nat.succ_pos 3)) (usF cs) L (by rw [usF_len]; exact Nat.le_of_lt_succ (Int.ofNat_lt.mp d2)) X.hL1 (Nat.le_of_lt_succ (Int.ofNat_lt.mp d3)) (by rw [usF_len]; exact X.hroom) fun m hm => ?_
  exact brN (fun q => absurd (tot_min (usF_perm cs) (Int.ofNat_lt.mp d1) X.hroom hm) q) fun _ => seqN nx
theorem law_s14 (X : LawC cs L) : ex (lev 5) (dropS 13 xb25) (lwS s0 cs (uS cs) x4 L x6 x7 (.frz (.int (totF cs L))) x9) (some (a, b)) QT ε := by
  have nx := law_s15 (s0 := s0) (x4 := x4) (x6 := x6) (x7 := x7) (x9 := x9) (a := a) (b := b) (ε := ε) X
  refine And.intro X.u_len.1 ?_
  rw [X.u_len.2]
  refine brD (fun d1 => ?_) fun _ => brF rfl (seqN nx)
  refine eval_dp (Nat.succ_pos 4) (usF cs) L X.hL1 (Nat.le_trans X.hL5 (by decide)) (by rw [usF_len]; exact X.hroom) fun fl m hm => ?_
  exact brN (fun q => absurd (tot_min (usF_perm cs) (Int.ofNat_lt.mp d1) X.hroom hm) q) fun _ => seqN nx
theorem law_s13 (X : LawC cs L) : ex (lev 5) (dropS 12 xb25) (lwS s0 cs (uS cs) x4 L (.frz (.list (dN (llF cs L)))) x7 x8 x9) (some (a, b)) QT ε := by
  have nx := law_s14 (s0 := s0) (x4 := x4) (x6 := .frz (.list (dN (llF cs L)))) (x7 := x7) (x9 := x9) (a := a) (b := b) (ε := ε) X
  rw [← tot_eq] at nx
  exact X.tot X.row rfl X.mid nx
theorem law_s12 (X : LawC cs L) (h1 : 1 ≤ (wF cs).length) : ex (lev 5) (dropS 11 xb25) (lwS s0 cs (uS cs) x4 L (.frz (.list (dN (llF cs L)))) x7 x8 x9) (some (a, b)) QT ε := by
  have nx := law_s13 (s0 := s0) (x4 := x4) (x7 := x7) (x8 := x8) (x9 := x9) (a := a) (b := b) (ε := ε) X
  refine And.intro X.u_len.1 ?_
  rw [X.u_len.2]
  refine brD (fun d1 => ?_) fun _ => brF rfl (seqN nx)
  exact eval_lowtree (Nat.succ_le_succ (Nat.succ_le_succ (Nat.succ_pos 2))) cs X.c12 X.c3 h1 (Nat.le_of_lt_succ (Int.ofNat_lt.mp d1)) (brF rfl (seqN nx))
theorem enum_map {α : Type} (g : α → D) : ∀ (l : List α) (k : Nat), enumL k (l.map g) = (l.zipIdx k).map fun x => D.tup [.int (x.2 : Nat), g x.1]
  | [], _ => rfl
  | x :: l, k => congrArg (D.tup [.int (k : Nat), g x] :: ·) (enum_map g l (k + 1))
theorem dN_take (l : List Nat) (i : Nat) : pickD (dN l) none (some (i : Int)) none = dN (l.take i) := (pick_take _ i).trans List.map_take.symm
theorem dN_drop (l : List Nat) (i : Nat) : pickD (dN l) (some (i : Int)) none none = dN (l.drop i) := (pick_drop _ i).trans List.map_drop.symm
theorem law_s11 (X : LawC cs L) {i : Nat} (hi : i < cs.length) (h0 : 0 < cs[i]) (h1 : 1 ≤ (wF cs).length) : ex (lev 5) (dropS 10 xb25) (lwS s0 cs (.frz (.list (dI (usF cs)))) x4 L (.frz (.list (dN (llF cs L)))) (.frz (.int (i : Nat))) x8 x9) (some (a, b)) QT ε := by
  have nx := law_s12 (s0 := s0) (x4 := x4) (x7 := .frz (.int (i : Nat))) (x8 := x8) (x9 := x9) (a := a) (b := b) (ε := ε) X h1
  have ok := X.row
  have hll : (llF cs L).length ≤ 10 := by rw [ok.len]; exact X.c2
  have ll : (dN (llF cs L)).length ≤ lim := dN_le (Nat.le_trans hll (by decide))
  have lb : ∀ l ∈ llF cs L, l < 1000000 := fun l hl => Nat.lt_of_le_of_lt (ok.le l hl) (Nat.lt_of_le_of_lt X.mid (by decide))
  have len1 : ((llF cs L).take i).length = i := by rw [List.length_take, ok.len]; exact Nat.min_eq_left (Nat.le_of_lt hi)
  have hi10 : i ≤ 10 := Nat.le_trans (Nat.le_of_lt hi) X.c2
  have ld : ((llF cs L).drop (i + 1)).length ≤ 10 := by rw [List.length_drop]; exact Nat.le_trans (Nat.sub_le _ _) hll
  refine And.intro ⟨nofun, ll⟩ ?_
  rw [dN_take]
  refine eval_brefused (Nat.succ_le_succ (Nat.succ_pos 3)) cs ((llF cs L).take i) X.cl (by rw [len1]; exact Nat.le_trans hi10 (by decide)) (fun l hl => lb l (List.mem_of_mem_take hl)) X.c3 ⟨i, hi, h0, by rw [List.getElem?_eq_none (Nat.le_of_eq len1)]; rfl⟩ (brF rfl (And.intro ⟨nofun, ll⟩ ?_))
  rw [dN_take]
  refine And.intro (Nat.le_of_ble_eq_true rfl) (And.intro (Nat.le_trans (Nat.add_le_add_right (by rw [dN_len, len1]; exact hi10) 1) (by decide)) (And.intro ⟨nofun, ll⟩ ?_))
  show (dN ((llF cs L).take i) ++ [D.int ((0 : Nat) : Int)]).length + (pickD (dN (llF cs L)) (some ((i + 1 : Nat) : Int)) none none).length ≤ lim ∧ lev 5 23 [.list (dI cs), .list ((dN ((llF cs L).take i) ++ [D.int ((0 : Nat) : Int)]) ++ pickD (dN (llF cs L)) (some ((i + 1 : Nat) : Int)) none none)] _ _ _
  rw [dN_drop, dN_app]
  refine And.intro (by rw [dN_len, dN_len, len_snoc, len1]; exact Nat.le_trans (Nat.add_le_add (Nat.succ_le_succ hi10) ld) (by decide)) ?_
  rw [show dN ((llF cs L).take i ++ [0]) ++ dN ((llF cs L).drop (i + 1)) = dN ((llF cs L).take i ++ [0] ++ (llF cs L).drop (i + 1)) from List.map_append.symm]
  refine eval_brefused (Nat.succ_le_succ (Nat.succ_pos 3)) cs _ X.cl (by rw [List.length_append, len_snoc, len1]; exact Nat.le_trans (Nat.add_le_add (Nat.succ_le_succ hi10) ld) (by decide)) (fun l hl => ?_) X.c3 ⟨i, hi, h0, ?_⟩ (brF rfl (seqN nx))
  · rcases List.mem_append.mp hl with hl | hl
    · exact mem_snoc (fun l hl => lb l (List.mem_of_mem_take hl)) (by decide) l hl
    · exact lb l (List.mem_of_mem_drop hl)
  · rw [List.append_assoc, List.getElem?_append_right (Nat.le_of_eq len1), len1, Nat.sub_self]; rfl
theorem law_s9 (X : LawC cs L) : ex (lev 5) (dropS 8 xb25) (lwS s0 cs (.own (dI (usF cs))) x4 L (.frz (.list (dN (llF cs L)))) x7 x8 x9) (some (a, b)) QT ε := by
  refine And.intro (Nat.zero_le _) (Or.inl ⟨usF cs, [], rfl, rfl, brD (fun _ => rfl) fun d0 => ?_⟩)
  have hne := d0
  have h1 : 1 ≤ (wF cs).length := by rw [← usF_len]; exact List.length_pos_iff.2 d0
  show ex (lev 5) _ (lwS s0 cs (uS cs) x4 L (.frz (.list (dN (llF cs L)))) x7 x8 x9) _ _ _
  have ee : enumL 0 (dI cs) = cs.zipIdx.map fun x => D.tup [.int (x.2 : Nat), .int x.1] := enum_map D.int cs 0
  refine And.intro (dI_le X.cl) (And.intro (by rw [ee, List.length_map, List.length_zipIdx]; exact X.cl) ?_)
  rw [ee]
  refine compW_map (fun x : Int × Nat => decide (0 < x.1)) (fun x : Int × Nat => .int (x.2 : Nat)) (fun x _ acc N k1 k2 => And.intro rfl (brD (fun q => k1 (decide_eq_true q)) fun q => k2 (decide_eq_false q))) ?_
  obtain ⟨c, t, ec⟩ := List.exists_cons_of_ne_nil d0
  have hc : c ∈ usF cs := by rw [ec]; exact List.mem_cons_self
  obtain ⟨hc1, hc2⟩ := List.mem_filter.mp hc
  obtain ⟨j, hj, ej⟩ := List.mem_iff_getElem.mp hc1
  have hm : (c, j) ∈ cs.zipIdx.filter fun x : Int × Nat => decide (0 < x.1) := List.mem_filter.mpr ⟨List.mem_zipIdx_iff_getElem?.mpr (by rw [List.getElem?_eq_getElem hj, ej]), hc2⟩
  have hz : ∀ x ∈ cs.zipIdx.filter fun x : Int × Nat => decide (0 < x.1), ∃ h : x.2 < cs.length, 0 < cs[x.2] := fun x hx => by
    obtain ⟨h1, h2⟩ := List.mem_filter.mp hx
    obtain ⟨h3, h4⟩ := List.getElem?_eq_some_iff.mp (List.mem_zipIdx_iff_getElem?.mp h1)
    exact ⟨h3, by rw [h4]; exact of_decide_eq_true h2⟩
  generalize cs.zipIdx.filter (fun x : Int × Nat => decide (0 < x.1)) = zs at hm hz ⊢
  match zs, hm, hz with
  | z :: zs, _, hz =>
    refine ⟨(z.2 : Int), zs.map fun x => (x.2 : Int), congrArg _ (List.map_map (f := fun x : Int × Nat => (x.2 : Int)) (g := D.int)).symm, fun m hm _ => ?_⟩
    obtain ⟨x, hx, rfl⟩ := List.mem_map.mp (show m ∈ (z :: zs).map fun x => (x.2 : Int) from hm)
    obtain ⟨q1, q2⟩ := hz x hx
    exact law_s11 (s0 := s0) (x4 := x4) (x8 := x8) (x9 := x9) (a := a) (b := b) (ε := ε) X q1 q2 h1
end
end Mini
end
section -- F17
namespace Mini
open PySem Mk

section
variable {r : Nat} {p : Pool} {Φ : Bool → D → Pool → Prop} {ε : Pool → Prop} {cs : List Int} {L : Nat} {s0 x4 x6 x7 x8 x9 : Slot} {a b : Int}
theorem take_i (hr : 0 < r) {x : Int} {m : Nat} (e : x = (m : Nat)) (h : 1 ≤ m) (h2 : m < 1000000) (k : ∀ n : Nat, n < m → ∀ a b, Φ false (.int (n : Nat)) (some (a, b))) : lev r 13 [.pool, .int x] (some (a, b)) Φ ε := by subst e; exact eval_take hr h h2 k
theorem lref_i (hr : 3 < r) {x : Int} {L : Nat} (e : x = (L : Nat)) (cs : List Int) (h : cs.length ≤ 12) (hc : ∀ c ∈ cs, 0 ≤ c) (h1 : 1 ≤ L) (h2 : L ≤ 1000) (hb : 2 ^ L < (wF cs).length) (k : Φ false (.bool true) p) : lev r 24 [.list (dI cs), .int x] p Φ ε := by
  subst e; exact eval_lrefused hr cs L h (fun c q q2 => absurd q2 (Int.not_lt.mpr (hc c q))) h1 h2 (.inr hb) k
theorem law_s7 (X : LawC cs L) : ex (lev 5) (dropS 6 xb25) (lwS s0 cs (.own (dI (usF cs))) x4 L x6 x7 x8 x9) (some (a, b)) QT ε := by
  have nx := law_s9 (s0 := s0) (x4 := x4) (x7 := x7) (x8 := x8) (x9 := x9) (a := a) (b := b) (ε := ε) X
  obtain ⟨_, ddesc, _, _⟩ := dsF_ok cs L X.hL1 X.hroom
  refine eval_rowright (Nat.le_succ 4) cs L X.c12 X.c3 X.hL1 X.mid X.hroom ?_
  show ex (lev 5) _ (lwS s0 cs (.own (dI (usF cs))) x4 L (.own (dN (llF cs L))) x7 x8 x9) _ _ _
  refine brF rfl ?_
  refine eval_ordered (Nat.succ_pos 4) cs (llF cs L) X.cl (by rw [X.row.len]; exact X.cl) (plc_ordered cs _ (dsF_len cs L) ddesc) (brF rfl (And.intro (Nat.le_of_ble_eq_true rfl) (And.intro ?_ ?_)))
  · exact Nat.le_trans (Nat.succ_le_succ (by rw [dI_len]; exact X.c2)) (by decide)
  rw [dI_app cs (-1)]
  exact eval_lrefused (L := 11) (Nat.succ_le_succ (Nat.succ_le_succ (Nat.succ_le_succ (Nat.succ_pos 1)))) (cs ++ [-1]) (by rw [len_snoc]; exact Nat.le_succ_of_le (Nat.succ_le_succ X.c2)) (mem_snoc (fun c hc h0 => absurd h0 (Int.not_lt.mpr (X.c3 c hc))) fun _ => by decide) (by decide) (by decide) (.inl ⟨-1, List.mem_append_right _ List.mem_cons_self, by decide⟩) (brF rfl (seqN nx))
end
noncomputable def lwN (s0 : Slot) (cs : List Int) (x4 : Slot) : List Slot := [s0, .frz .pool, .frz (.list (dI cs)), .own (dI (usF cs)), x4, .un, .un, .un, .un, .un, .un, .un, .un]
section
variable {cs : List Int} {s0 : Slot} {a b : Int} {ε : Pool → Prop}
theorem law_s4 {need : Nat} (c2 : cs.length ≤ 10) (c3 : ∀ c ∈ cs, 0 ≤ c) (n1 : 1 ≤ need) (n2 : need = 1 ∨ 2 ^ (need - 1) < (wF cs).length) (n4 : need ≤ 4) (hw : (wF cs).length ≤ 2 ^ need) : ex (lev 5) (dropS 4 xb25) (lwN s0 cs (.frz (.int (need : Nat)))) (some (a, b)) QT ε := by
  refine take_i (m := 6 - need) (Nat.succ_pos 4) (by omega) (by omega) (by omega) fun m hm a b => ?_
  have X : LawC cs (need + m) := ⟨c2, c3, Nat.le_trans n1 (Nat.le_add_right _ _), by omega, Nat.le_trans hw (Nat.pow_le_pow_right (Nat.succ_pos 1) (Nat.le_add_right _ _))⟩
  have nx := law_s7 (s0 := s0) (x4 := .frz (.int (need : Nat))) (x6 := .un) (x7 := .un) (x8 := .un) (x9 := .un) (a := a) (b := b) (ε := ε) X
  show ex (lev 5) _ (lwS s0 cs (.own (dI (usF cs))) (.frz (.int (need : Nat))) (need + m) .un .un .un .un) _ _ _
  refine brD (fun d1 => ?_) fun _ => brF rfl (seqN nx)
  have d1 := Int.ofNat_lt.mp d1
  exact lref_i (L := need - 1) (Nat.succ_le_succ (Nat.succ_le_succ (Nat.succ_le_succ (Nat.succ_pos 1)))) (by omega) cs X.c12 c3 (by omega) (by omega) (n2.resolve_left (Nat.ne_of_gt d1)) (brF rfl (seqN nx))
theorem law_s3 (c2 : cs.length ≤ 10) (c3 : ∀ c ∈ cs, 0 ≤ c) : ex (lev 5) (dropS 3 xb25) (lwN s0 cs (.frz (.int ((1 : Nat) : Int)))) (some (a, b)) QT ε := by
  have hn10 : (wF cs).length ≤ 10 := by rw [wF_len]; exact Nat.le_trans (rowsF_len cs) c2
  have lu : (dI (usF cs)).length ≤ lim := dI_le (by rw [usF_len]; exact Nat.le_trans hn10 (by decide))
  have eu : (dI (usF cs)).length = (wF cs).length := (dI_len _).trans (usF_len cs)
  refine exWhile (fun need : Nat => lwN s0 cs (.frz (.int (need : Nat)))) (fun _ => some (a, b)) (fun k need => 1 ≤ need ∧ (need = 1 ∨ 2 ^ (need - 1) < (wF cs).length) ∧ k + need = 10) 9 1 (by decide) ⟨Nat.le_refl 1, .inl rfl, rfl⟩ rfl rfl ?_
  rintro k need ⟨n1, n2, n3⟩ N kn
  have small : ∀ m, 2 ^ m < (wF cs).length → m < 4 := fun m h => Nat.lt_of_not_le fun q => by
    have := Nat.lt_of_le_of_lt (Nat.pow_le_pow_right (Nat.succ_pos 1) q) (Nat.lt_of_lt_of_le h hn10)
    exact absurd this (by decide)
  refine And.intro (shl_ok (Nat.le_trans (n3 ▸ Nat.le_add_left _ _) (by decide))) (And.intro lu ?_)
  rw [pow_nat, eu]
  refine brD (fun hw => ?_) fun hw => ?_
  · have hw := Int.ofNat_lt.mp hw
    have := small need hw
    obtain ⟨k', rfl⟩ : ∃ k', k = k' + 1 := ⟨k - 1, by omega⟩
    exact kn k' (need + 1) rfl ⟨Nat.le_add_left 1 need, .inr hw, by omega⟩
  · exact law_s4 c2 c3 n1 n2 (n2.elim (fun e => e ▸ by decide) fun q => by have := small _ q; omega) (Nat.le_of_not_lt fun q => hw (Int.ofNat_lt.mpr q))
theorem asgI {C : Calls} {r : St} {x : Nat} {i : Int} {sl : List Slot} {p : Pool} {Q : Fl → List Slot → Pool → Prop} {E : Pool → Prop} (k : ex C r (sl.set x (.frz (.int i))) p Q E) : ex C (.cons (.assign [] x (.int i)) r) sl p Q E := k
theorem law_s1 (c2 : cs.length ≤ 10) (c3 : ∀ c ∈ cs, 0 ≤ c) : ex (lev 5) (dropS 1 xb25) [s0, .frz .pool, .frz (.list (dI cs)), .un, .un, .un, .un, .un, .un, .un, .un, .un, .un] (some (a, b)) QT ε := by
  refine And.intro (dI_le (Nat.le_trans c2 (by decide))) (compW_map (g0 := D.int) (fun c => decide (0 < c)) D.int (fun c _ acc N h1 h2 => brD (fun q => h1 (decide_eq_true q)) fun q => h2 (decide_eq_false q)) ?_)
  show ex (lev 5) _ _ _ _ _
  show ex (lev 5) _ [s0, .frz .pool, .frz (.list (dI cs)), .own (dI (usF cs)), .un, .un, .un, .un, .un, .un, .un, .un, .un] _ _ _
  exact asgI (law_s3 c2 c3)
end
theorem law_run (is : List Int) (q : Int × Int) : RunL is q :=
  eval_lcounts (a := q.1) (b := q.2) (Nat.succ_le_succ (Nat.succ_pos 3)) fun cs _ c2 c3 a b => law_s1 (s0 := .frz (.list (is.map .int))) (a := a) (b := b) (ε := fun _ => False) c2 c3
theorem pool_run (is : List Int) (h : is.length ≤ 63) : RunP is :=
  eval_pool (Nat.succ_pos 4) is (Nat.le_trans h (by decide)) fun x => ⟨rfl, x, 0, rfl, rfl, law_run is (x, 0)⟩
end Mini
end
set_option maxRecDepth 100000 in
theorem PySem.Challenge.cw_no0092_01_holds : PySem.Challenge.rw_no0092_01.Holds :=
  Mine.g0 Mini.pool_run
