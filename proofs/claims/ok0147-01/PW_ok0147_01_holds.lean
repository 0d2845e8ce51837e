import PyProof.Rows.All
import Wide.All
import OpenK.AllK
import Wide.FinOn
import PySem.Challenge.RW_ok0147_01
set_option Elab.async false
set_option compiler.extract_closed false
set_option maxHeartbeats 4000000
set_option linter.unusedVariables false
set_option linter.deprecated false
set_option tactic.hygienic false

/-! TA -/
namespace Mine
theorem rf {α : Sort u} {a b : α} (h : a = b) : a = b := h
theorem nab_add {a b : Int} {m k : Nat} (h : a.natAbs ≤ m) (h' : b.natAbs ≤ k) : (a + b).natAbs ≤ m + k := Nat.le_trans (Int.natAbs_add_le a b) (Nat.add_le_add h h')
theorem nab_sub {a b : Int} {m k : Nat} (h : a.natAbs ≤ m) (h' : b.natAbs ≤ k) : (a - b).natAbs ≤ m + k := Nat.le_trans (Int.natAbs_sub_le a b) (Nat.add_le_add h h')
theorem nab_mul {a b : Int} {m k : Nat} (h : a.natAbs ≤ m) (h' : b.natAbs ≤ k) : (a * b).natAbs ≤ m * k := by rw [Int.natAbs_mul]; exact Nat.mul_le_mul h h'
theorem nab_neg {a : Int} {m : Nat} (h : a.natAbs ≤ m) : (-a).natAbs ≤ m := by rw [Int.natAbs_neg]; exact h
theorem nab_c {n m : Nat} (h : n ≤ m) : ((n : Nat) : Int).natAbs ≤ m := h
theorem nab_of {a : Int} {m : Nat} (h : 0 ≤ a) (h' : a ≤ (m : Nat)) : a.natAbs ≤ m := by omega
theorem nab_lt {a m k : Nat} (h : a ≤ m) (h' : m < k) : a < k := Nat.lt_of_le_of_lt h h'
theorem pos_of {n k : Nat} (h : k ≤ n) (h' : 0 < k) : 0 < n := Nat.lt_of_lt_of_le h' h
theorem le_of_and {a b c : Prop} (h : a ∧ b ∧ c) : b := h.2.1
theorem nz_of {a : Int} (h : 1 ≤ a) : a ≠ 0 := fun e => by subst e; exact absurd h (by decide)
theorem pos_i {a : Int} (h : 1 ≤ a) : 0 < a := h
theorem nn_i {a : Int} (h : 1 ≤ a) : 0 ≤ a := Int.le_trans (by decide) h
theorem nzc {n : Nat} (h : 1 ≤ n) : ((n : Nat) : Int) ≠ 0 := nz_of (Int.ofNat_le.mpr h)
theorem lec {n m : Nat} (h : n ≤ m) : ((n : Nat) : Int) ≤ ((m : Nat) : Int) := Int.ofNat_le.mpr h
theorem ltc {n m : Nat} (h : n < m) : ((n : Nat) : Int) < ((m : Nat) : Int) := Int.ofNat_lt.mpr h
end Mine

/-! MA -/
set_option genSizeOf false
set_option genSizeOfSpec false
namespace Mine

/-- values of the small language -/
inductive MV where
  | int (i : Int)
  | bool (b : Bool)
  | none
  | str
  | tup (vs : List MV)
  | rng (a b c : Int)
  | fl (is : List Int)
  | ref (k : Nat)

/-- objects -/
inductive MO where
  | list (vs : List MV)
  | inst (c : Nat) (fs : List (Nat × MV))
  | dict (es : List ((Int × Int) × MV))

noncomputable abbrev MH := List MO
noncomputable abbrev Loc := List (Option MV)

set_option genInjectivity false
inductive Bop where
  | add | sub | mul | fdiv | mod | pow | shl | shr
inductive Cop where
  | lt | le | gt | ge | eq | ne | is | notin
inductive Bi where
  | len | max | min | int | sorted | range | list | tuple

inductive ME where
  | int (i : Int)
  | bool (b : Bool)
  | none
  | str
  | loc (i : Nat)
  | gint (g : Nat)
  | gtup (g : Nat)
  | bin (o : Bop) (a b : ME)
  | neg (a : ME)
  | cmp (o : Cop) (a b : ME)
  | cmp2 (o1 o2 : Cop) (a b c : ME)
  | not (a : ME)
  | and (es : List ME)
  | or (es : List ME)
  | ite (c a b : ME)
  | tup (es : List ME)
  | list (es : List ME)
  | dict0
  | attr (e : ME) (a : Nat)
  | item (e i : ME)
  | slice2 (e lo hi : ME)
  | slice3 (e lo st : ME)
  | call (f : Nat) (es : List ME)
  | new (c : Nat) (es : List ME)
  | meth (e : ME) (m : Nat) (es : List ME)
  | bi (b : Bi) (es : List ME)
  | app (e x : ME)
  | ext (e x : ME)
  | comp (elt src : ME) (caps : List Nat)

inductive MS where
  | assign (x : Nat) (e : ME)
  | unpack (xs : List Nat) (e : ME)
  | assignT (xs : List Nat) (es : List ME)
  | setattr (o : ME) (a : Nat) (e : ME)
  | setitem (o i e : ME)
  | aug (x : Nat) (o : Bop) (e : ME)
  | ite (c : ME) (a b : List MS)
  | while (c : ME) (b : List MS)
  | for (x : Nat) (e : ME) (b : List MS)
  | ret (e : ME)
  | expr (e : ME)
  | raise

structure Fn where
  np : Nat
  nl : Nat
  body : List MS

structure Prg where
  fn : Nat → Option Fn
  gint : Nat → Option Int
  gtup : Nat → Option (List Int)
  meth : Nat → Nat → Option Nat
  init : Nat → Option (Option Nat)
  dat : Nat → Nat → Bool

/-- a range's size, as the model reckons it -/
noncomputable def rsize (a b c : Int) : Nat :=
  (if c > 0 then (if a < b then 1 + (b - 1 - a) / c else 0) else (if a > b then 1 + (a - 1 - b) / (-c) else 0)).toNat
noncomputable def ritems (a b c : Int) : List MV := (List.range (rsize a b c)).map fun (i : Nat) => MV.int (a + i * c)

/-- the ranges that are gone through -/
noncomputable def rok (a b c : Int) : Bool := decide (a.natAbs ≤ 1000000) && decide (b.natAbs ≤ 1000000) && (c == 1 || c == -1 || c == 4 || c == 8)

noncomputable def items (h : MH) : MV → Option (List MV)
  | .ref k => match h[k]? with
    | some (.list vs) => some vs
    | _ => Option.none
  | .tup vs => some vs
  | .rng a b c => if rok a b c then some (ritems a b c) else Option.none
  | _ => Option.none

noncomputable def lim : Nat := 100000
noncomputable def big (i : Int) : Prop := i.natAbs < 2 ^ 64

/-- binary operators: what they give, and the heap behind them -/
inductive BinR : MH → Bop → MV → MV → MV → MH → Prop where
  | add {h x y} : BinR h .add (.int x) (.int y) (.int (x + y)) h
  | sub {h x y} : BinR h .sub (.int x) (.int y) (.int (x - y)) h
  | mul {h x y} : (big x ∨ big y) → BinR h .mul (.int x) (.int y) (.int (x * y)) h
  | fdiv {h x y} : y ≠ 0 → y.natAbs < 1073741824 → BinR h .fdiv (.int x) (.int y) (.int (x.fdiv y)) h
  | mod {h x y} : y ≠ 0 → BinR h .mod (.int x) (.int y) (.int (x.fmod y)) h
  | pow {h x y} : 0 ≤ y → y ≤ 1000 → big x → BinR h .pow (.int x) (.int y) (.int (x ^ y.toNat)) h
  | shl {h x y} : 0 ≤ y → y ≤ 1000 → big x → BinR h .shl (.int x) (.int y) (.int (x * 2 ^ y.toNat)) h
  | shr {h x y} : 0 ≤ y → BinR h .shr (.int x) (.int y) (.int (x.fdiv (2 ^ y.toNat))) h
  | addL {h i j xs ys} : h[i]? = some (.list xs) → h[j]? = some (.list ys) → xs.length + ys.length ≤ lim →
      BinR h .add (.ref i) (.ref j) (.ref h.length) (h ++ [.list (xs ++ ys)])
  | addT {h xs ys} : xs ≠ [] → ys ≠ [] → xs.length + ys.length ≤ lim → BinR h .add (.tup xs) (.tup ys) (.tup (xs ++ ys)) h
  | mulL {h i x} {n : Int} : h[i]? = some (.list [x]) → 0 ≤ n → n ≤ lim →
      BinR h .mul (.ref i) (.int n) (.ref h.length) (h ++ [.list (List.replicate n.toNat x)])
  | mulT {h x} {n : Int} : 2 ≤ n → n ≤ lim → BinR h .mul (.tup [x]) (.int n) (.tup (List.replicate n.toNat x)) h

noncomputable def cmpI : Cop → Int → Int → Option Bool
  | .lt, a, b => some (decide (a < b))
  | .le, a, b => some (decide (a ≤ b))
  | .gt, a, b => some (decide (b < a))
  | .ge, a, b => some (decide (b ≤ a))
  | .eq, a, b => some (decide (a = b))
  | .ne, a, b => some (!decide (a = b))
  | _, _, _ => Option.none

inductive CmpR : MH → Cop → MV → MV → Bool → Prop where
  | int {h o x y r} : cmpI o x y = some r → CmpR h o (.int x) (.int y) r
  | isNone {h} : CmpR h .is .none .none true
  | isRef {h k} : CmpR h .is (.ref k) .none false
  | notin {h x} {is : List Int} : CmpR h .notin (.int x) (.tup (is.map MV.int)) (!(is.any (· == x)))
  | eqT {h} {xs ys : List Int} : xs.length = ys.length → CmpR h .eq (.tup (xs.map MV.int)) (.tup (ys.map MV.int)) (decide (xs = ys))
  | neT {h} {xs ys : List Int} : xs.length = ys.length → CmpR h .ne (.tup (xs.map MV.int)) (.tup (ys.map MV.int)) (!decide (xs = ys))
  | eqL {h i j} {xs ys : List Int} : h[i]? = some (.list (xs.map MV.int)) → h[j]? = some (.list (ys.map MV.int)) →
      CmpR h .eq (.ref i) (.ref j) (decide (xs = ys))

inductive ItemR : MH → MV → MV → MV → Prop where
  | list {h k vs i v} : h[k]? = some (.list vs) → 0 ≤ i → vs[i.toNat]? = some v → vs.length ≤ lim → ItemR h (.ref k) (.int i) v
  | tup {h vs i v} : 0 ≤ i → vs[i.toNat]? = some v → vs.length ≤ lim → ItemR h (.tup vs) (.int i) v
  | fl {h is i v} : 0 ≤ i → is[i.toNat]? = some v → is.length ≤ lim → ItemR h (.fl is) (.int i) (.int v)
  | dict {h k es a b v} : h[k]? = some (.dict es) → es.lookup (a, b) = some v → ItemR h (.ref k) (.tup [.int a, .int b]) v

noncomputable def putD (k : Int × Int) (v : MV) : List ((Int × Int) × MV) → List ((Int × Int) × MV)
  | [] => [(k, v)]
  | e :: r => if e.1 = k then (k, v) :: r else e :: putD k v r

inductive SetR : MH → MV → MV → MV → MH → Prop where
  | list {h k vs i v} : h[k]? = some (.list vs) → 0 ≤ i → i.toNat < vs.length → vs.length ≤ lim →
      SetR h (.ref k) (.int i) v (h.set k (.list (vs.set i.toNat v)))
  | dict {h k es a b v} : h[k]? = some (.dict es) → es.length ≤ lim →
      SetR h (.ref k) (.tup [.int a, .int b]) v (h.set k (.dict (putD (a, b) v es)))

noncomputable def putF (a : Nat) (v : MV) : List (Nat × MV) → List (Nat × MV)
  | [] => [(a, v)]
  | e :: r => if e.1 = a then (a, v) :: r else e :: putF a v r

/-- the items at a, a + k, a + 2 k .. -/
noncomputable def picks (a k : Int) (vs : List MV) : List MV :=
  (List.range (if a < vs.length then ((vs.length : Int) - a + k - 1) / k else 0).toNat).filterMap fun (j : Nat) => vs[(a + k * (j : Int)).toNat]?

inductive BiR : MH → Bi → List MV → MV → MH → Prop where
  | lenL {h k vs} : h[k]? = some (.list vs) → vs.length ≤ lim → BiR h .len [.ref k] (.int vs.length) h
  | lenF {h is} : is.length ≤ lim → BiR h .len [.fl is] (.int is.length) h
  | maxL {h k m} {is : List Int} : h[k]? = some (.list (is.map MV.int)) → m ∈ is → (∀ a, a ∈ is → a ≤ m) → BiR h .max [.ref k] (.int m) h
  | max2 {h x y} : BiR h .max [.int x, .int y] (.int (if y > x then y else x)) h
  | min2 {h x y} : BiR h .min [.int x, .int y] (.int (if y < x then y else x)) h
  | intI {h x} : BiR h .int [.int x] (.int x) h
  | intB {h b} : BiR h .int [.bool b] (.int (if b then 1 else 0)) h
  | sorted {h k} {is ss : List Int} : h[k]? = some (.list (is.map MV.int)) → is.length < 64 → ss.Perm is → ss.Pairwise (· ≤ ·) →
      BiR h .sorted [.ref k] (.ref h.length) (h ++ [.list (ss.map MV.int)])
  | range1 {h b} : BiR h .range [.int b] (.rng 0 b 1) h
  | range2 {h a b} : BiR h .range [.int a, .int b] (.rng a b 1) h
  | range3 {h a b c} : rok a b c = true → BiR h .range [.int a, .int b, .int c] (.rng a b c) h
  | list {h k vs} : h[k]? = some (.list vs) → vs.length ≤ lim → BiR h .list [.ref k] (.ref h.length) (h ++ [.list vs])
  | tuple {h k vs} : h[k]? = some (.list vs) → vs.length ≤ lim → BiR h .tuple [.ref k] (.tup vs) h

noncomputable def getL (l : Loc) (i : Nat) : Option MV := (l[i]?).join

noncomputable def setAll : Loc → List Nat → List MV → Loc
  | l, x :: xs, v :: vs => setAll (l.set x (some v)) xs vs
  | l, _, _ => l

/-- what is said of a piece of text -/
inductive J where
  | E (l : Loc) (h : MH) (e : ME) (v : MV) (h' : MH)
  | Es (l : Loc) (h : MH) (es : List ME) (vs : List MV) (h' : MH)
  | B (l : Loc) (h : MH) (e : ME) (b : Bool) (h' : MH)
  | All (conj : Bool) (l : Loc) (h : MH) (es : List ME) (b : Bool) (h' : MH)
  | S (l : Loc) (h : MH) (s : MS) (o : Option MV) (l' : Loc) (h' : MH)
  | Ss (l : Loc) (h : MH) (ss : List MS) (o : Option MV) (l' : Loc) (h' : MH)
  | W (c : ME) (b : List MS) (l : Loc) (h : MH) (o : Option MV) (l' : Loc) (h' : MH)
  | F (x : Nat) (src : MV) (i : Nat) (b : List MS) (l : Loc) (h : MH) (o : Option MV) (l' : Loc) (h' : MH)
  | C (elt : ME) (src : MV) (i : Nat) (caps : Loc) (h : MH) (ws : List MV) (h' : MH)
  | Call (f : Nat) (vs : List MV) (h : MH) (v : MV) (h' : MH)

inductive Step (P : Prg) (M : J → Prop) : J → Prop where
  | int {l h i} : Step P M (.E l h (.int i) (.int i) h)
  | bool {l h b} : Step P M (.E l h (.bool b) (.bool b) h)
  | none {l h} : Step P M (.E l h .none .none h)
  | str {l h} : Step P M (.E l h .str .str h)
  | loc {l h i v} : getL l i = some v → Step P M (.E l h (.loc i) v h)
  | gint {l h g i} : P.gint g = some i → Step P M (.E l h (.gint g) (.int i) h)
  | gtup {l h g is} : P.gtup g = some is → Step P M (.E l h (.gtup g) (.tup (is.map MV.int)) h)
  | bin {l h o a b x y v h1 h2 h3} : M (.E l h a x h1) → M (.E l h1 b y h2) → BinR h2 o x y v h3 → Step P M (.E l h (.bin o a b) v h3)
  | neg {l h a x h1} : M (.E l h a (.int x) h1) → Step P M (.E l h (.neg a) (.int (-x)) h1)
  | cmp {l h o a b x y r h1 h2} : M (.E l h a x h1) → M (.E l h1 b y h2) → CmpR h2 o x y r → Step P M (.E l h (.cmp o a b) (.bool r) h2)
  | iteT {l h c a b v h1 h2} : M (.B l h c true h1) → M (.E l h1 a v h2) → Step P M (.E l h (.ite c a b) v h2)
  | iteF {l h c a b v h1 h2} : M (.B l h c false h1) → M (.E l h1 b v h2) → Step P M (.E l h (.ite c a b) v h2)
  | tup {l h es vs h1} : M (.Es l h es vs h1) → vs.length ≤ lim → Step P M (.E l h (.tup es) (.tup vs) h1)
  | list {l h es vs h1} : M (.Es l h es vs h1) → vs.length ≤ lim → Step P M (.E l h (.list es) (.ref h1.length) (h1 ++ [.list vs]))
  | dict0 {l h} : Step P M (.E l h .dict0 (.ref h.length) (h ++ [.dict []]))
  | attr {l h e a k c fs v h1} : M (.E l h e (.ref k) h1) → h1[k]? = some (.inst c fs) → fs.lookup a = some v → P.dat c a = true → Step P M (.E l h (.attr e a) v h1)
  | item {l h e i x y v h1 h2} : M (.E l h e x h1) → M (.E l h1 i y h2) → ItemR h2 x y v → Step P M (.E l h (.item e i) v h2)
  | slice2 {l h e lo hi k vs a b h1 h2 h3} : M (.E l h e (.ref k) h1) → M (.E l h1 lo (.int a) h2) → M (.E l h2 hi (.int b) h3) →
      h3[k]? = some (.list vs) → 0 ≤ a → a ≤ b → b ≤ vs.length → vs.length ≤ lim →
      Step P M (.E l h (.slice2 e lo hi) (.ref h3.length) (h3 ++ [.list ((vs.drop a.toNat).take (b - a).toNat)]))
  | slice3 {l h e lo st k vs a c h1 h2 h3} : M (.E l h e (.ref k) h1) → M (.E l h1 lo (.int a) h2) → M (.E l h2 st (.int c) h3) →
      h3[k]? = some (.list vs) → 0 ≤ a → a ≤ vs.length → 0 < c → c ≤ lim → vs.length ≤ lim →
      Step P M (.E l h (.slice3 e lo st) (.ref h3.length) (h3 ++ [.list (picks a c vs)]))
  | call {l h f es vs v h1 h2} : M (.Es l h es vs h1) → M (.Call f vs h1 v h2) → Step P M (.E l h (.call f es) v h2)
  | new {l h c es vs f h1 h2} : M (.Es l h es vs h1) → P.init c = some (some f) →
      M (.Call f (.ref h1.length :: vs) (h1 ++ [.inst c []]) .none h2) → Step P M (.E l h (.new c es) (.ref h1.length) h2)
  | new0 {l h c} : P.init c = some Option.none → Step P M (.E l h (.new c []) (.ref h.length) (h ++ [.inst c []]))
  | meth {l h e m es k c fs f vs v h1 h2 h3} : M (.E l h e (.ref k) h1) → h1[k]? = some (.inst c fs) → fs.lookup m = Option.none → P.meth c m = some f →
      M (.Es l h1 es vs h2) → M (.Call f (.ref k :: vs) h2 v h3) → Step P M (.E l h (.meth e m es) v h3)
  | bi {l h b es vs v h1 h2} : M (.Es l h es vs h1) → BiR h1 b vs v h2 → Step P M (.E l h (.bi b es) v h2)
  | app {l h e x k w vs h1 h2} : M (.E l h e (.ref k) h1) → M (.E l h1 x w h2) → h1[k]? = some (.list vs) → h2[k]? = some (.list vs) → vs.length ≤ lim →
      Step P M (.E l h (.app e x) .none (h2.set k (.list (vs ++ [w]))))
  | ext {l h e x k j vs ws h1 h2} : M (.E l h e (.ref k) h1) → M (.E l h1 x (.ref j) h2) → h1[k]? = some (.list vs) → h2[k]? = some (.list vs) → h2[j]? = some (.list ws) →
      k ≠ j → vs.length + ws.length ≤ lim → Step P M (.E l h (.ext e x) .none (h2.set k (.list (vs ++ ws))))
  | comp {l h elt src caps v ws h1 h2} : M (.E l h src v h1) → M (.C elt v 0 (caps.map (getL l)) h1 ws h2) → ws.length ≤ lim →
      Step P M (.E l h (.comp elt src caps) (.ref h2.length) (h2 ++ [.list ws]))
  -- lists of expressions
  | nil {l h} : Step P M (.Es l h [] [] h)
  | cons {l h e es v vs h1 h2} : M (.E l h e v h1) → M (.Es l h1 es vs h2) → Step P M (.Es l h (e :: es) (v :: vs) h2)
  -- tests
  | bcmp {l h o a b x y r h1 h2} : M (.E l h a x h1) → M (.E l h1 b y h2) → CmpR h2 o x y r → Step P M (.B l h (.cmp o a b) r h2)
  | bcmp2T {l h o1 o2 a b c x y z r h1 h2 h3} : M (.E l h a x h1) → M (.E l h1 b y h2) → CmpR h2 o1 x y true → M (.E l h2 c z h3) → CmpR h3 o2 y z r →
      Step P M (.B l h (.cmp2 o1 o2 a b c) r h3)
  | bcmp2F {l h o1 o2 a b c x y h1 h2} : M (.E l h a x h1) → M (.E l h1 b y h2) → CmpR h2 o1 x y false → Step P M (.B l h (.cmp2 o1 o2 a b c) false h2)
  | bnot {l h a r h1} : M (.B l h a r h1) → Step P M (.B l h (.not a) (!r) h1)
  | band {l h es r h1} : M (.All true l h es r h1) → Step P M (.B l h (.and es) r h1)
  | bor {l h es r h1} : M (.All false l h es r h1) → Step P M (.B l h (.or es) r h1)
  | bcall {l h f es r h1} : M (.E l h (.call f es) (.bool r) h1) → Step P M (.B l h (.call f es) r h1)
  | allNil {l h c} : Step P M (.All c l h [] c h)
  | allStop {l h c e es h1} : M (.B l h e (!c) h1) → Step P M (.All c l h (e :: es) (!c) h1)
  | allGo {l h c e es r h1 h2} : M (.B l h e c h1) → M (.All c l h1 es r h2) → Step P M (.All c l h (e :: es) r h2)
  -- statements
  | assign {l h x e v h1} : M (.E l h e v h1) → Step P M (.S l h (.assign x e) Option.none (l.set x (some v)) h1)
  | unpack {l h xs e v vs h1} : M (.E l h e v h1) → items h1 v = some vs → (∀ a b c, v ≠ .rng a b c) → vs.length = xs.length → Step P M (.S l h (.unpack xs e) Option.none (setAll l xs vs) h1)
  | assignT {l h xs es vs h1} : M (.Es l h es vs h1) → vs.length = xs.length → Step P M (.S l h (.assignT xs es) Option.none (setAll l xs vs) h1)
  | setattr {l h o a e v k c fs h1 h2} : M (.E l h e v h1) → M (.E l h1 o (.ref k) h2) → h2[k]? = some (.inst c fs) → fs.length ≤ 50 → P.dat c a = true →
      Step P M (.S l h (.setattr o a e) Option.none l (h2.set k (.inst c (putF a v fs))))
  | setitem {l h o i e v x y h1 h2 h3 h4} : M (.E l h e v h1) → M (.E l h1 o x h2) → M (.E l h2 i y h3) → SetR h3 x y v h4 →
      Step P M (.S l h (.setitem o i e) Option.none l h4)
  | aug {l h x e a b h1} : getL l x = some (.int a) → M (.E l h e (.int b) h1) → Step P M (.S l h (.aug x .add e) Option.none (l.set x (some (.int (a + b)))) h1)
  | iteTS {l h c a b o l2 h1 h2} : M (.B l h c true h1) → M (.Ss l h1 a o l2 h2) → Step P M (.S l h (.ite c a b) o l2 h2)
  | iteFS {l h c a b o l2 h1 h2} : M (.B l h c false h1) → M (.Ss l h1 b o l2 h2) → Step P M (.S l h (.ite c a b) o l2 h2)
  | while {l h c b o l2 h2} : M (.W c b l h o l2 h2) → Step P M (.S l h (.while c b) o l2 h2)
  | for {l h x e b v o l2 h1 h2} : M (.E l h e v h1) → M (.F x v 0 b l h1 o l2 h2) → Step P M (.S l h (.for x e b) o l2 h2)
  | ret {l h e v h1} : M (.E l h e v h1) → Step P M (.S l h (.ret e) (some v) l h1)
  | expr {l h e h1} : M (.E l h e .none h1) → Step P M (.S l h (.expr e) Option.none l h1)
  | snil {l h} : Step P M (.Ss l h [] Option.none l h)
  | scons {l h s ss o l1 l2 h1 h2} : M (.S l h s Option.none l1 h1) → M (.Ss l1 h1 ss o l2 h2) → Step P M (.Ss l h (s :: ss) o l2 h2)
  | sret {l h s ss v l1 h1} : M (.S l h s (some v) l1 h1) → Step P M (.Ss l h (s :: ss) (some v) l1 h1)
  -- loops
  | wend {c b l h h1} : M (.B l h c false h1) → Step P M (.W c b l h Option.none l h1)
  | wgo {c b l h o l1 l2 h1 h2 h3} : M (.B l h c true h1) → M (.Ss l h1 b Option.none l1 h2) → M (.W c b l1 h2 o l2 h3) → Step P M (.W c b l h o l2 h3)
  | wret {c b l h v l1 h1 h2} : M (.B l h c true h1) → M (.Ss l h1 b (some v) l1 h2) → Step P M (.W c b l h (some v) l1 h2)
  | fend {x src i b l h vs} : items h src = some vs → vs.length ≤ i → Step P M (.F x src i b l h Option.none l h)
  | fgo {x src i b l h vs v o l1 l2 h1 h2} : items h src = some vs → vs[i]? = some v → M (.Ss (l.set x (some v)) h b Option.none l1 h1) →
      M (.F x src (i + 1) b l1 h1 o l2 h2) → Step P M (.F x src i b l h o l2 h2)
  | fret {x src i b l h vs v r l1 h1} : items h src = some vs → vs[i]? = some v → M (.Ss (l.set x (some v)) h b (some r) l1 h1) →
      Step P M (.F x src i b l h (some r) l1 h1)
  -- a comprehension's turns
  | cend {elt src i caps h vs} : items h src = some vs → vs.length ≤ i → Step P M (.C elt src i caps h [] h)
  | cgo {elt src i caps h vs v w ws h1 h2} : items h src = some vs → vs[i]? = some v → M (.E (some v :: caps) h elt w h1) →
      M (.C elt src (i + 1) caps h1 ws h2) → Step P M (.C elt src i caps h (w :: ws) h2)
  -- a call
  | callRet {f fn vs h v l' h'} : P.fn f = some fn → vs.length = fn.np →
      M (.Ss (vs.map some ++ List.replicate (fn.nl - fn.np) Option.none) h fn.body (some v) l' h') → Step P M (.Call f vs h v h')
  | callEnd {f fn vs h l' h'} : P.fn f = some fn → vs.length = fn.np →
      M (.Ss (vs.map some ++ List.replicate (fn.nl - fn.np) Option.none) h fn.body Option.none l' h') → Step P M (.Call f vs h .none h')

/-- the least relation that the rules keep -/
noncomputable def Ev (P : Prg) (j : J) : Prop := ∀ M : J → Prop, (∀ N : J → Prop, (∀ j, N j → M j) → ∀ j, Step P N j → M j) → M j
theorem Ev.of' {P : Prg} {N : J → Prop} {j : J} (e : Step P N j) (f : ∀ j, N j → Ev P j) : Ev P j := fun M F => F N (fun j x => f j x M F) j e
theorem Ev.of {P : Prg} {j : J} (e : Step P (Ev P) j) : Ev P j := Ev.of' e fun u1 x => x

end Mine

/-! MP -/
namespace Mine
/-! printed by gen.py: the functions in the small language -/
/- functions: 0=clamped 1=parts 2=Component.__init__ 3=Frame.__init__ 4=Frame.most_across 5=Frame.most_down 6=Plane.__init__ 7=dequantise 8=descaled 9=even_inverse 10=turned 11=odd_flow 12=TwoDct.sums 13=OneDct.inverse 14=picked 15=zigzag_places 16=check_side 17=fits 18=Grid.get 19=Grid.put 20=_law_pool 21=_law_take 22=_law_side 23=_law_over 24=put_block 25=Frame.mcus_across 26=Frame.mcus_down 27=Frame.plane_size 28=blank 29=inverse_row 30=FourDct.inverse 31=TwoDct.inverse 32=order 33=scaled_size 34=side_of 35=_law_one 36=Frame.blocks 37=Frame.padded 38=IslowDct.inverse 39=to_row 40=to_block 41=_law_frame 42=inverse 43=corner 44=Grid.__init__ 45=scaled_samples 46=scaled_plane 47=_law_plane_right 48=law -/
/- classes: 0=Component 1=Frame 2=Plane 3=IslowDct 4=FourDct 5=TwoDct 6=OneDct 7=Grid -/
/- attributes: 0=ident 1=across 2=down 3=quant 4=kind 5=precision 6=height 7=width 8=components 9=n 10=rows 11=many 12=planes 13=most_across 14=most_down 15=sums 16=plane_size 17=mcus_across 18=mcus_down 19=inverse 20=padded 21=blocks 22=get 23=put -/
/-- clamped, locals 0=number 1=most -/
noncomputable def b_clamped : List MS := [.ret (.ite (.cmp .lt (.loc 0) (.int 0)) (.int 0) (.ite (.cmp .gt (.loc 0) (.loc 1)) (.loc 1) (.loc 0)))]
noncomputable abbrev f_clamped : Nat := 0
/-- parts, locals 0=many 1=size -/
noncomputable def b_parts : List MS := [.ret (.bin .fdiv (.bin .sub (.bin .add (.loc 0) (.loc 1)) (.int 1)) (.loc 1))]
noncomputable abbrev f_parts : Nat := 1
/-- Component.__init__, locals 0=self 1=ident 2=across 3=down 4=quant -/
noncomputable def b_Component_init : List MS := [.setattr (.loc 0) 0 (.loc 1),
    .setattr (.loc 0) 1 (.loc 2),
    .setattr (.loc 0) 2 (.loc 3),
    .setattr (.loc 0) 3 (.loc 4)]
noncomputable abbrev f_Component_init : Nat := 2
/-- Frame.__init__, locals 0=self 1=kind 2=precision 3=height 4=width 5=components 6=n -/
noncomputable def b_Frame_init : List MS := [.setattr (.loc 0) 4 (.loc 1),
    .setattr (.loc 0) 5 (.loc 2),
    .setattr (.loc 0) 6 (.loc 3),
    .setattr (.loc 0) 7 (.loc 4),
    .setattr (.loc 0) 8 (.loc 5),
    .setattr (.loc 0) 9 (.loc 6)]
noncomputable abbrev f_Frame_init : Nat := 3
/-- Frame.most_across, locals 0=self -/
noncomputable def b_Frame_most_across : List MS := [.ret (.bi .max [.comp (.attr (.loc 0) 1) (.attr (.loc 0) 8) []])]
noncomputable abbrev f_Frame_most_across : Nat := 4
/-- Frame.most_down, locals 0=self -/
noncomputable def b_Frame_most_down : List MS := [.ret (.bi .max [.comp (.attr (.loc 0) 2) (.attr (.loc 0) 8) []])]
noncomputable abbrev f_Frame_most_down : Nat := 5
/-- Plane.__init__, locals 0=self 1=width 2=height 3=rows -/
noncomputable def b_Plane_init : List MS := [.setattr (.loc 0) 7 (.loc 1),
    .setattr (.loc 0) 6 (.loc 2),
    .setattr (.loc 0) 10 (.loc 3)]
noncomputable abbrev f_Plane_init : Nat := 6
/-- dequantise, locals 0=row 1=qtable -/
noncomputable def b_dequantise : List MS := [.ret (.comp (.bin .mul (.item (.loc 1) (.loc 0)) (.item (.loc 2) (.loc 0))) (.bi .range [.bi .len [.loc 0]]) [0, 1])]
noncomputable abbrev f_dequantise : Nat := 7
/-- descaled, locals 0=number 1=bits -/
noncomputable def b_descaled : List MS := [.ret (.bin .shr (.bin .add (.loc 0) (.bin .shl (.int 1) (.bin .sub (.loc 1) (.int 1)))) (.loc 1))]
noncomputable abbrev f_descaled : Nat := 8
/-- even_inverse, locals 0=plain 1=half 2=first 3=third 4=shared 5=outer 6=inner 7=top 8=low -/
noncomputable def b_even_inverse : List MS := [.assign 4 (.bin .mul (.bin .add (.loc 2) (.loc 3)) (.gint 2)),
    .assignT [5, 6] [.bin .add (.loc 4) (.bin .mul (.loc 2) (.gint 3)), .bin .sub (.loc 4) (.bin .mul (.loc 3) (.gint 4))],
    .assignT [7, 8] [.bin .shl (.bin .add (.loc 0) (.loc 1)) (.gint 0), .bin .shl (.bin .sub (.loc 0) (.loc 1)) (.gint 0)],
    .ret (.tup [.bin .add (.loc 7) (.loc 5), .bin .add (.loc 8) (.loc 6), .bin .sub (.loc 8) (.loc 6), .bin .sub (.loc 7) (.loc 5)])]
noncomputable abbrev f_even_inverse : Nat := 9
/-- turned, locals 0=block 1=n 2=found 3=place -/
noncomputable def b_turned : List MS := [.assign 2 (.list []),
    .for 3 (.bi .range [.loc 1]) [.expr (.ext (.loc 2) (.slice3 (.loc 0) (.loc 3) (.loc 1)))],
    .ret (.loc 2)]
noncomputable abbrev f_turned : Nat := 10
/-- odd_flow, locals 0=a 1=b 2=c 3=d 4=cross 5=outer 6=inner 7=near 8=far -/
noncomputable def b_odd_flow : List MS := [.assign 4 (.bin .mul (.bin .add (.bin .add (.bin .add (.loc 0) (.loc 2)) (.loc 1)) (.loc 3)) (.gint 10)),
    .assignT [5, 6] [.bin .mul (.bin .add (.loc 0) (.loc 3)) (.gint 9), .bin .mul (.bin .add (.loc 1) (.loc 2)) (.gint 14)],
    .assignT [7, 8] [.bin .sub (.loc 4) (.bin .mul (.bin .add (.loc 0) (.loc 2)) (.gint 12)), .bin .sub (.loc 4) (.bin .mul (.bin .add (.loc 1) (.loc 3)) (.gint 8))],
    .ret (.tup [.bin .add (.bin .sub (.bin .mul (.loc 0) (.gint 7)) (.loc 5)) (.loc 7), .bin .add (.bin .sub (.bin .mul (.loc 1) (.gint 13)) (.loc 6)) (.loc 8), .bin .add (.bin .sub (.bin .mul (.loc 2) (.gint 15)) (.loc 6)) (.loc 7), .bin .add (.bin .sub (.bin .mul (.loc 3) (.gint 11)) (.loc 5)) (.loc 8)])]
noncomputable abbrev f_odd_flow : Nat := 11
/-- TwoDct.sums, locals 0=self 1=block 2=a 3=b 4=c 5=d -/
noncomputable def b_TwoDct_sums : List MS := [.unpack [2, 3, 4, 5] (.loc 1),
    .ret (.list [.bin .add (.bin .add (.bin .add (.loc 2) (.loc 3)) (.loc 4)) (.loc 5), .bin .sub (.bin .add (.bin .sub (.loc 2) (.loc 3)) (.loc 4)) (.loc 5), .bin .sub (.bin .sub (.bin .add (.loc 2) (.loc 3)) (.loc 4)) (.loc 5), .bin .add (.bin .sub (.bin .sub (.loc 2) (.loc 3)) (.loc 4)) (.loc 5)])]
noncomputable abbrev f_TwoDct_sums : Nat := 12
/-- OneDct.inverse, locals 0=self 1=block -/
noncomputable def b_OneDct_inverse : List MS := [.ret (.list [.item (.loc 1) (.int 0)])]
noncomputable abbrev f_OneDct_inverse : Nat := 13
/-- picked, locals 0=n -/
noncomputable def b_picked : List MS := [.ite (.cmp .eq (.loc 0) (.int 8)) [.ret (.new 3 [])] [],
    .ite (.cmp .eq (.loc 0) (.int 4)) [.ret (.new 4 [])] [],
    .ite (.cmp .eq (.loc 0) (.int 2)) [.ret (.new 5 [])] [],
    .ite (.cmp .eq (.loc 0) (.int 1)) [.ret (.new 6 [])] [],
    .raise]
noncomputable abbrev f_picked : Nat := 14
/-- zigzag_places, locals 0=n 1=found 2=total 3=low 4=high 5=rows 6=y -/
noncomputable def b_zigzag_places : List MS := [.assign 1 (.list []),
    .for 2 (.bi .range [.bin .sub (.bin .mul (.int 2) (.loc 0)) (.int 1)]) [.assign 3 (.bi .max [.int 0, .bin .add (.bin .sub (.loc 2) (.loc 0)) (.int 1)]),
    .assign 4 (.bi .min [.loc 2, .bin .sub (.loc 0) (.int 1)]),
    .assign 5 (.ite (.cmp .eq (.bin .mod (.loc 2) (.int 2)) (.int 1)) (.bi .range [.loc 3, .bin .add (.loc 4) (.int 1)]) (.bi .range [.loc 4, .bin .sub (.loc 3) (.int 1), .neg (.int 1)])),
    .for 6 (.loc 5) [.expr (.app (.loc 1) (.bin .sub (.bin .add (.bin .mul (.loc 6) (.loc 0)) (.loc 2)) (.loc 6)))]],
    .ret (.bi .tuple [.loc 1])]
noncomputable abbrev f_zigzag_places : Nat := 15
/-- check_side, locals 0=n 1=less -/
noncomputable def b_check_side : List MS := [.ite (.or [.cmp .notin (.loc 1) (.tup [.int 1, .int 2, .int 4, .int 8]), .cmp .gt (.loc 1) (.loc 0), .cmp .ne (.bin .mod (.bin .mul (.gint 17) (.loc 1)) (.loc 0)) (.int 0)]) [.raise] []]
noncomputable abbrev f_check_side : Nat := 16
/-- fits, locals 0=wanted 1=told -/
noncomputable def b_fits : List MS := [.ret (.cmp .eq (.bin .mod (.loc 0) (.bin .mul (.int 2) (.loc 1))) (.int 0))]
noncomputable abbrev f_fits : Nat := 17
/-- Grid.get, locals 0=self 1=place 2=x 3=y 4=row -/
noncomputable def b_Grid_get : List MS := [.assign 4 (.item (.item (.item (.attr (.loc 0) 12) (.loc 1)) (.loc 3)) (.loc 2)),
    .ret (.ite (.cmp .is (.loc 4) (.none)) (.bin .mul (.list [.int 0]) (.attr (.loc 0) 11)) (.loc 4))]
noncomputable abbrev f_Grid_get : Nat := 18
/-- Grid.put, locals 0=self 1=place 2=x 3=y 4=row -/
noncomputable def b_Grid_put : List MS := [.setitem (.item (.item (.attr (.loc 0) 12) (.loc 1)) (.loc 3)) (.loc 2) (.bi .list [.loc 4])]
noncomputable abbrev f_Grid_put : Nat := 19
/-- _law_pool, locals 0=script 1=k 2=cell_one 3=size_one 4=mixed_one -/
noncomputable def b_law_pool : List MS := [.assign 2 (.int 0),
    .ite (.cmp .lt (.loc 1) (.bi .len [.loc 0])) [.assign 2 (.item (.loc 0) (.loc 1))] [],
    .assign 3 (.bi .max [.bi .int [.loc 2], .bi .int [.bin .sub (.neg (.int 1)) (.loc 2)]]),
    .assign 4 (.bin .mod (.bi .int [.bin .mul (.bin .add (.bin .add (.bin .add (.bin .mod (.bi .int [.loc 3]) (.int 2147483629)) (.bin .mul (.bin .mul (.int 7919) (.loc 1)) (.loc 1))) (.bin .mul (.int 31) (.loc 1))) (.int 17)) (.int 48271)]) (.int 2147483647)),
    .ret (.list [.bin .mul (.loc 3) (.bi .int [.cmp .ge (.loc 3) (.bin .pow (.int 10) (.int 18))]), .loc 4])]
noncomputable abbrev f_law_pool : Nat := 20
/-- _law_take, locals 0=source_one 1=top_one 2=digit_one -/
noncomputable def b_law_take : List MS := [.ite (.cmp .gt (.item (.loc 0) (.int 0)) (.int 0)) [.assign 2 (.bin .mod (.bi .int [.item (.loc 0) (.int 0)]) (.loc 1)),
    .setitem (.loc 0) (.int 0) (.bin .fdiv (.item (.loc 0) (.int 0)) (.loc 1)),
    .ret (.loc 2)] [],
    .setitem (.loc 0) (.int 1) (.bin .mod (.bi .int [.bin .add (.bin .mul (.item (.loc 0) (.int 1)) (.int 39373)) (.int 7)]) (.int 2147483647)),
    .ret (.bin .mod (.bi .int [.bin .fdiv (.bin .mod (.bi .int [.bin .mul (.item (.loc 0) (.int 1)) (.item (.loc 0) (.int 1))]) (.int 2147483629)) (.int 32)]) (.loc 1))]
noncomputable abbrev f_law_take : Nat := 21
/-- _law_side, locals 0=told_frame 1=place_one 2=less_one 3=across_one 4=down_one 5=times_one 6=own_one 7=found_one 8=wanted -/
noncomputable def b_law_side : List MS := [.assign 3 (.bin .mul (.bi .max [.comp (.attr (.loc 0) 1) (.attr (.loc 0) 8) []]) (.loc 2)),
    .assign 4 (.bin .mul (.bi .max [.comp (.attr (.loc 0) 2) (.attr (.loc 0) 8) []]) (.loc 2)),
    .assignT [6, 7] [.item (.attr (.loc 0) 8) (.loc 1), .loc 2],
    .for 5 (.tup [.int 2, .int 4, .int 8]) [.assign 8 (.bin .mul (.loc 5) (.loc 2)),
    .ite (.and [.cmp .le (.loc 8) (.attr (.loc 0) 9), .cmp .eq (.bin .mod (.loc 3) (.bin .mul (.attr (.loc 6) 1) (.loc 8))) (.int 0), .cmp .eq (.bin .mod (.loc 4) (.bin .mul (.attr (.loc 6) 2) (.loc 8))) (.int 0)]) [.assign 7 (.loc 8)] []],
    .ret (.loc 7)]
noncomputable abbrev f_law_side : Nat := 22
/-- _law_over, locals 0=number_one 1=other_one -/
noncomputable def b_law_over : List MS := [.ret (.neg (.bin .fdiv (.neg (.loc 0)) (.loc 1)))]
noncomputable abbrev f_law_over : Nat := 23
/-- put_block, locals 0=plane 1=x 2=y 3=block 4=n 5=centre 6=most 7=wide 8=row 9=told 10=place -/
noncomputable def b_put_block : List MS := [.assign 7 (.bi .min [.loc 4, .bin .sub (.attr (.loc 0) 7) (.bin .mul (.loc 1) (.loc 4))]),
    .for 8 (.bi .range [.bi .min [.loc 4, .bin .sub (.attr (.loc 0) 6) (.bin .mul (.loc 2) (.loc 4))]]) [.assign 9 (.item (.attr (.loc 0) 10) (.bin .add (.bin .mul (.loc 2) (.loc 4)) (.loc 8))),
    .for 10 (.bi .range [.loc 7]) [.setitem (.loc 9) (.bin .add (.bin .mul (.loc 1) (.loc 4)) (.loc 10)) (.call 0 [.bin .add (.item (.loc 3) (.bin .add (.bin .mul (.loc 8) (.loc 4)) (.loc 10))) (.loc 5), .loc 6])]]]
noncomputable abbrev f_put_block : Nat := 24
/-- Frame.mcus_across, locals 0=self -/
noncomputable def b_Frame_mcus_across : List MS := [.ret (.call 1 [.attr (.loc 0) 7, .bin .mul (.attr (.loc 0) 9) (.meth (.loc 0) 13 [])])]
noncomputable abbrev f_Frame_mcus_across : Nat := 25
/-- Frame.mcus_down, locals 0=self -/
noncomputable def b_Frame_mcus_down : List MS := [.ret (.call 1 [.attr (.loc 0) 6, .bin .mul (.attr (.loc 0) 9) (.meth (.loc 0) 14 [])])]
noncomputable abbrev f_Frame_mcus_down : Nat := 26
/-- Frame.plane_size, locals 0=self 1=place 2=component 3=width -/
noncomputable def b_Frame_plane_size : List MS := [.assign 2 (.item (.attr (.loc 0) 8) (.loc 1)),
    .assign 3 (.call 1 [.bin .mul (.attr (.loc 0) 7) (.attr (.loc 2) 1), .meth (.loc 0) 13 []]),
    .ret (.tup [.loc 3, .call 1 [.bin .mul (.attr (.loc 0) 6) (.attr (.loc 2) 2), .meth (.loc 0) 14 []]])]
noncomputable abbrev f_Frame_plane_size : Nat := 27
/-- blank, locals 0=width 1=height 2=value -/
noncomputable def b_blank : List MS := [.ret (.new 2 [.loc 0, .loc 1, .comp (.bin .mul (.list [.loc 2]) (.loc 1)) (.bi .range [.loc 1]) [0, 2]])]
noncomputable abbrev f_blank : Nat := 28
/-- inverse_row, locals 0=row 1=down 2=tops 3=sums 4=differences 5=three 6=two 7=one 8=zero -/
noncomputable def b_inverse_row : List MS := [.assign 2 (.call 9 [.item (.loc 0) (.int 0), .item (.loc 0) (.int 4), .item (.loc 0) (.int 2), .item (.loc 0) (.int 6)]),
    .unpack [5, 6, 7, 8] (.call 11 [.item (.loc 0) (.int 7), .item (.loc 0) (.int 5), .item (.loc 0) (.int 3), .item (.loc 0) (.int 1)]),
    .assign 3 (.list [.bin .add (.item (.loc 2) (.int 0)) (.loc 8), .bin .add (.item (.loc 2) (.int 1)) (.loc 7), .bin .add (.item (.loc 2) (.int 2)) (.loc 6), .bin .add (.item (.loc 2) (.int 3)) (.loc 5)]),
    .assign 4 (.list [.bin .sub (.item (.loc 2) (.int 3)) (.loc 5), .bin .sub (.item (.loc 2) (.int 2)) (.loc 6), .bin .sub (.item (.loc 2) (.int 1)) (.loc 7), .bin .sub (.item (.loc 2) (.int 0)) (.loc 8)]),
    .ret (.comp (.call 8 [.loc 0, .loc 1]) (.bin .add (.loc 3) (.loc 4)) [1])]
noncomputable abbrev f_inverse_row : Nat := 29
/-- FourDct.inverse, locals 0=self 1=block 2=across 3=found 4=at 5=told -/
noncomputable def b_FourDct_inverse : List MS := [.assign 2 (.call 10 [.loc 1, .gint 16]),
    .assign 3 (.list []),
    .for 4 (.bi .range [.int 0, .bin .mul (.gint 16) (.gint 16), .gint 16]) [.assign 5 (.call 9 [.item (.loc 2) (.loc 4), .item (.loc 2) (.bin .add (.loc 4) (.int 2)), .item (.loc 2) (.bin .add (.loc 4) (.int 1)), .item (.loc 2) (.bin .add (.loc 4) (.int 3))]),
    .expr (.ext (.loc 3) (.comp (.call 8 [.loc 0, .bin .sub (.gint 0) (.gint 1)]) (.loc 5) []))],
    .assign 2 (.call 10 [.loc 3, .gint 16]),
    .assign 3 (.list []),
    .for 4 (.bi .range [.int 0, .bin .mul (.gint 16) (.gint 16), .gint 16]) [.assign 5 (.call 9 [.item (.loc 2) (.loc 4), .item (.loc 2) (.bin .add (.loc 4) (.int 2)), .item (.loc 2) (.bin .add (.loc 4) (.int 1)), .item (.loc 2) (.bin .add (.loc 4) (.int 3))]),
    .expr (.ext (.loc 3) (.comp (.call 8 [.loc 0, .bin .add (.bin .add (.gint 0) (.gint 1)) (.int 2)]) (.loc 5) []))],
    .ret (.loc 3)]
noncomputable abbrev f_FourDct_inverse : Nat := 30
/-- TwoDct.inverse, locals 0=self 1=block -/
noncomputable def b_TwoDct_inverse : List MS := [.ret (.comp (.call 8 [.loc 0, .int 1]) (.meth (.loc 0) 15 [.loc 1]) [])]
noncomputable abbrev f_TwoDct_inverse : Nat := 31
/-- order, locals 0=n -/
noncomputable def b_order : List MS := [.ret (.ite (.cmp .eq (.loc 0) (.int 8)) (.gtup 0) (.call 15 [.loc 0]))]
noncomputable abbrev f_order : Nat := 32
/-- scaled_size, locals 0=frame 1=less -/
noncomputable def b_scaled_size : List MS := [.ret (.tup [.call 1 [.bin .mul (.attr (.loc 0) 7) (.loc 1), .attr (.loc 0) 9], .call 1 [.bin .mul (.attr (.loc 0) 6) (.loc 1), .attr (.loc 0) 9]])]
noncomputable abbrev f_scaled_size : Nat := 33
/-- side_of, locals 0=frame 1=place 2=less 3=component 4=side -/
noncomputable def b_side_of : List MS := [.assign 3 (.item (.attr (.loc 0) 8) (.loc 1)),
    .assign 4 (.loc 2),
    .while (.and [.cmp .le (.bin .mul (.loc 4) (.int 2)) (.attr (.loc 0) 9), .call 17 [.bin .mul (.meth (.loc 0) 13 []) (.loc 2), .bin .mul (.attr (.loc 3) 1) (.loc 4)]]) [.ite (.not (.call 17 [.bin .mul (.meth (.loc 0) 14 []) (.loc 2), .bin .mul (.attr (.loc 3) 2) (.loc 4)])) [.ret (.loc 4)] [],
    .assign 4 (.bin .mul (.loc 4) (.int 2))],
    .ret (.loc 4)]
noncomputable abbrev f_side_of : Nat := 34
/-- _law_one, locals 0=source_one 1=things_one -/
noncomputable def b_law_one : List MS := [.ret (.item (.loc 1) (.call 21 [.loc 0, .bi .len [.loc 1]]))]
noncomputable abbrev f_law_one : Nat := 35
/-- Frame.blocks, locals 0=self 1=place 2=width 3=height -/
noncomputable def b_Frame_blocks : List MS := [.unpack [2, 3] (.meth (.loc 0) 16 [.loc 1]),
    .ret (.tup [.call 1 [.loc 2, .attr (.loc 0) 9], .call 1 [.loc 3, .attr (.loc 0) 9]])]
noncomputable abbrev f_Frame_blocks : Nat := 36
/-- Frame.padded, locals 0=self 1=place 2=component -/
noncomputable def b_Frame_padded : List MS := [.assign 2 (.item (.attr (.loc 0) 8) (.loc 1)),
    .ret (.tup [.bin .mul (.meth (.loc 0) 17 []) (.attr (.loc 2) 1), .bin .mul (.meth (.loc 0) 18 []) (.attr (.loc 2) 2)])]
noncomputable abbrev f_Frame_padded : Nat := 37
/-- IslowDct.inverse, locals 0=self 1=block 2=across 3=found 4=at -/
noncomputable def b_IslowDct_inverse : List MS := [.assign 2 (.call 10 [.loc 1, .gint 5]),
    .assign 3 (.list []),
    .for 4 (.bi .range [.int 0, .bin .mul (.gint 5) (.gint 5), .gint 5]) [.expr (.ext (.loc 3) (.call 29 [.slice2 (.loc 2) (.loc 4) (.bin .add (.loc 4) (.gint 5)), .bin .sub (.gint 0) (.gint 1)]))],
    .assign 2 (.call 10 [.loc 3, .gint 5]),
    .assign 3 (.list []),
    .for 4 (.bi .range [.int 0, .bin .mul (.gint 5) (.gint 5), .gint 5]) [.expr (.ext (.loc 3) (.call 29 [.slice2 (.loc 2) (.loc 4) (.bin .add (.loc 4) (.gint 5)), .bin .add (.bin .add (.gint 0) (.gint 1)) (.gint 6)]))],
    .ret (.loc 3)]
noncomputable abbrev f_IslowDct_inverse : Nat := 38
/-- to_row, locals 0=block 1=n -/
noncomputable def b_to_row : List MS := [.ret (.comp (.item (.loc 1) (.loc 0)) (.call 32 [.loc 1]) [0])]
noncomputable abbrev f_to_row : Nat := 39
/-- to_block, locals 0=row 1=n 2=found 3=rank 4=place -/
noncomputable def b_to_block : List MS := [.assign 2 (.bin .mul (.list [.int 0]) (.bin .mul (.loc 1) (.loc 1))),
    .assign 3 (.int 0),
    .for 4 (.call 32 [.loc 1]) [.setitem (.loc 2) (.loc 4) (.item (.loc 0) (.loc 3)),
    .aug 3 .add (.int 1)],
    .ret (.loc 2)]
noncomputable abbrev f_to_block : Nat := 40
/-- _law_frame, locals 0=source_one 1=n 2=components_one 3=number_one 4=across_one 5=down_one -/
noncomputable def b_law_frame : List MS := [.assign 2 (.list []),
    .for 3 (.bi .range [.bin .add (.int 1) (.call 21 [.loc 0, .int 3])]) [.assignT [4, 5] [.call 35 [.loc 0, .list [.int 1, .int 2, .int 1, .int 4]], .call 35 [.loc 0, .list [.int 1, .int 2, .int 1, .int 4]]],
    .expr (.app (.loc 2) (.new 0 [.bin .add (.loc 3) (.int 1), .loc 4, .loc 5, .int 0]))],
    .ret (.new 1 [.str, .int 8, .bin .add (.int 1) (.call 21 [.loc 0, .int 7]), .bin .add (.int 1) (.call 21 [.loc 0, .int 9]), .loc 2, .loc 1])]
noncomputable abbrev f_law_frame : Nat := 41
/-- inverse, locals 0=block 1=n -/
noncomputable def b_inverse : List MS := [.ret (.meth (.call 14 [.loc 1]) 19 [.loc 0])]
noncomputable abbrev f_inverse : Nat := 42
/-- corner, locals 0=row 1=n 2=less 3=block 4=small 5=y -/
noncomputable def b_corner : List MS := [.assign 3 (.call 40 [.loc 0, .loc 1]),
    .assign 4 (.list []),
    .for 5 (.bi .range [.loc 2]) [.expr (.ext (.loc 4) (.slice2 (.loc 3) (.bin .mul (.loc 5) (.loc 1)) (.bin .add (.bin .mul (.loc 5) (.loc 1)) (.loc 2))))],
    .ret (.call 39 [.loc 4, .loc 2])]
noncomputable abbrev f_corner : Nat := 43
/-- Grid.__init__, locals 0=self 1=frame 2=place 3=across 4=down -/
noncomputable def b_Grid_init : List MS := [.setattr (.loc 0) 11 (.bin .mul (.attr (.loc 1) 9) (.attr (.loc 1) 9)),
    .setattr (.loc 0) 12 (.list []),
    .for 2 (.bi .range [.bi .len [.attr (.loc 1) 8]]) [.unpack [3, 4] (.meth (.loc 1) 20 [.loc 2]),
    .expr (.app (.attr (.loc 0) 12) (.comp (.bin .mul (.list [.none]) (.loc 1)) (.bi .range [.loc 4]) [3]))]]
noncomputable abbrev f_Grid_init : Nat := 44
/-- scaled_samples, locals 0=row 1=n 2=less 3=times 4=small 5=told -/
noncomputable def b_scaled_samples : List MS := [.expr (.call 16 [.loc 1, .loc 2]),
    .assign 3 (.bin .fdiv (.bin .mul (.gint 17) (.loc 2)) (.loc 1)),
    .assign 4 (.call 40 [.call 43 [.loc 0, .loc 1, .loc 2], .loc 2]),
    .assign 5 (.call 42 [.comp (.bin .mul (.loc 0) (.loc 1)) (.loc 4) [3], .loc 2]),
    .ret (.comp (.bin .shr (.bin .add (.loc 0) (.bin .fdiv (.gint 17) (.int 2))) (.int 3)) (.loc 5) [])]
noncomputable abbrev f_scaled_samples : Nat := 45
/-- scaled_plane, locals 0=frame 1=grid 2=place 3=qtable 4=side 5=plane 6=y 7=width 8=height 9=across 10=down 11=centre 12=most 13=x 14=row -/
noncomputable def b_scaled_plane : List MS := [.unpack [7, 8] (.meth (.loc 0) 16 [.loc 2]),
    .unpack [9, 10] (.meth (.loc 0) 21 [.loc 2]),
    .assignT [11, 12] [.bin .shl (.int 1) (.bin .sub (.attr (.loc 0) 5) (.int 1)), .bin .sub (.bin .shl (.int 1) (.attr (.loc 0) 5)) (.int 1)],
    .assign 5 (.call 28 [.call 1 [.bin .mul (.loc 7) (.loc 4), .attr (.loc 0) 9], .call 1 [.bin .mul (.loc 8) (.loc 4), .attr (.loc 0) 9], .int 0]),
    .for 6 (.bi .range [.loc 10]) [.for 13 (.bi .range [.loc 9]) [.assign 14 (.call 7 [.meth (.loc 1) 22 [.loc 2, .loc 13, .loc 6], .loc 3]),
    .expr (.call 24 [.loc 5, .loc 13, .loc 6, .call 45 [.loc 14, .attr (.loc 0) 9, .loc 4], .loc 4, .loc 11, .loc 12])]],
    .ret (.loc 5)]
noncomputable abbrev f_scaled_plane : Nat := 46
/-- _law_plane_right, locals 0=source_one 1=told_frame 2=place_one 3=side_one 4=divisor_one 5=y 6=table_one 7=told_one 8=n 9=told_grid 10=firsts 11=wide_one 12=high_one 13=x 14=worth_one 15=low_one 16=high_two -/
noncomputable def b_law_plane_right : List MS := [.assignT [8, 9, 10] [.attr (.loc 1) 9, .new 7 [.loc 1], .dict0],
    .assign 4 (.bin .add (.int 1) (.call 21 [.loc 0, .bin .mul (.int 3) (.loc 8)])),
    .unpack [11, 12] (.meth (.loc 1) 16 [.loc 2]),
    .for 5 (.bi .range [.call 23 [.loc 12, .loc 8]]) [.for 13 (.bi .range [.call 23 [.loc 11, .loc 8]]) [.setitem (.loc 10) (.tup [.loc 13, .loc 5]) (.call 35 [.loc 0, .list [.int 0, .int 200, .neg (.int 200), .bin .sub (.call 21 [.loc 0, .int 99]) (.int 49)]]),
    .expr (.meth (.loc 9) 23 [.loc 2, .loc 13, .loc 5, .bin .add (.list [.item (.loc 10) (.tup [.loc 13, .loc 5])]) (.bin .mul (.list [.int 0]) (.bin .sub (.bin .mul (.loc 8) (.loc 8)) (.int 1)))])]],
    .assign 6 (.bin .add (.tup [.loc 4]) (.bin .mul (.tup [.int 1]) (.bin .sub (.bin .mul (.loc 8) (.loc 8)) (.int 1)))),
    .assign 7 (.call 46 [.loc 1, .loc 9, .loc 2, .loc 6, .loc 3]),
    .ite (.cmp .ne (.tup [.attr (.loc 7) 7, .attr (.loc 7) 6]) (.tup [.call 23 [.bin .mul (.loc 11) (.loc 3), .loc 8], .call 23 [.bin .mul (.loc 12) (.loc 3), .loc 8]])) [.ret (.bool false)] [],
    .for 5 (.bi .range [.attr (.loc 7) 6]) [.for 13 (.bi .range [.attr (.loc 7) 7]) [.assign 14 (.bin .mul (.bin .mul (.int 16) (.item (.loc 10) (.tup [.bin .fdiv (.loc 13) (.loc 3), .bin .fdiv (.loc 5) (.loc 3)]))) (.loc 4)),
    .assign 15 (.item (.bi .sorted [.list [.int 0, .bin .add (.neg (.bin .fdiv (.bin .sub (.bin .mul (.int 9) (.loc 8)) (.loc 14)) (.bin .mul (.int 16) (.loc 8)))) (.int 128), .int 255]]) (.int 1)),
    .assign 16 (.item (.bi .sorted [.list [.int 0, .bin .add (.bin .fdiv (.bin .add (.loc 14) (.bin .mul (.int 9) (.loc 8))) (.bin .mul (.int 16) (.loc 8))) (.int 128), .int 255]]) (.int 1)),
    .ite (.not (.cmp2 .le .le (.loc 15) (.item (.item (.attr (.loc 7) 10) (.loc 5)) (.loc 13)) (.loc 16))) [.ret (.bool false)] []]],
    .ret (.cmp .eq (.comp (.bi .len [.loc 0]) (.attr (.loc 7) 10) []) (.bin .mul (.list [.attr (.loc 7) 7]) (.attr (.loc 7) 6)))]
noncomputable abbrev f_law_plane_right : Nat := 47
/-- law, locals 0=script 1=k 2=source_one 3=told_frame 4=due_one 5=place_one 6=n 7=less_one -/
noncomputable def b_law : List MS := [.for 1 (.bi .range [.bi .max [.int 1, .bi .min [.bi .len [.loc 0], .int 2]]]) [.assign 2 (.call 20 [.loc 0, .loc 1]),
    .unpack [6, 7] (.call 35 [.loc 2, .list [.tup [.int 4, .int 2], .tup [.int 4, .int 1], .tup [.int 2, .int 1], .tup [.int 8, .int 2], .tup [.int 8, .int 4], .tup [.int 8, .int 1], .tup [.int 2, .int 2], .tup [.int 4, .int 4]]]),
    .assign 3 (.call 41 [.loc 2, .loc 6]),
    .assign 4 (.tup [.call 23 [.bin .mul (.attr (.loc 3) 7) (.loc 7), .loc 6], .call 23 [.bin .mul (.attr (.loc 3) 6) (.loc 7), .loc 6]]),
    .ite (.cmp .ne (.call 33 [.loc 3, .loc 7]) (.loc 4)) [.ret (.bool false)] [],
    .for 5 (.bi .range [.bi .len [.attr (.loc 3) 8]]) [.ite (.cmp .ne (.call 34 [.loc 3, .loc 5, .loc 7]) (.call 22 [.loc 3, .loc 5, .loc 7])) [.ret (.bool false)] []],
    .assign 5 (.call 21 [.loc 2, .bi .len [.attr (.loc 3) 8]]),
    .ite (.not (.call 47 [.loc 2, .loc 3, .loc 5, .call 22 [.loc 3, .loc 5, .loc 7]])) [.ret (.bool false)] []],
    .ret (.bool true)]
noncomputable abbrev f_law : Nat := 48
noncomputable def prgFn : Nat → Option Fn
  | 0 => some ⟨2, 2, b_clamped⟩
  | 1 => some ⟨2, 2, b_parts⟩
  | 2 => some ⟨5, 5, b_Component_init⟩
  | 3 => some ⟨7, 7, b_Frame_init⟩
  | 4 => some ⟨1, 1, b_Frame_most_across⟩
  | 5 => some ⟨1, 1, b_Frame_most_down⟩
  | 6 => some ⟨4, 4, b_Plane_init⟩
  | 7 => some ⟨2, 2, b_dequantise⟩
  | 8 => some ⟨2, 2, b_descaled⟩
  | 9 => some ⟨4, 9, b_even_inverse⟩
  | 10 => some ⟨2, 4, b_turned⟩
  | 11 => some ⟨4, 9, b_odd_flow⟩
  | 12 => some ⟨2, 6, b_TwoDct_sums⟩
  | 13 => some ⟨2, 2, b_OneDct_inverse⟩
  | 14 => some ⟨1, 1, b_picked⟩
  | 15 => some ⟨1, 7, b_zigzag_places⟩
  | 16 => some ⟨2, 2, b_check_side⟩
  | 17 => some ⟨2, 2, b_fits⟩
  | 18 => some ⟨4, 5, b_Grid_get⟩
  | 19 => some ⟨5, 5, b_Grid_put⟩
  | 20 => some ⟨2, 5, b_law_pool⟩
  | 21 => some ⟨2, 3, b_law_take⟩
  | 22 => some ⟨3, 9, b_law_side⟩
  | 23 => some ⟨2, 2, b_law_over⟩
  | 24 => some ⟨7, 11, b_put_block⟩
  | 25 => some ⟨1, 1, b_Frame_mcus_across⟩
  | 26 => some ⟨1, 1, b_Frame_mcus_down⟩
  | 27 => some ⟨2, 4, b_Frame_plane_size⟩
  | 28 => some ⟨3, 3, b_blank⟩
  | 29 => some ⟨2, 9, b_inverse_row⟩
  | 30 => some ⟨2, 6, b_FourDct_inverse⟩
  | 31 => some ⟨2, 2, b_TwoDct_inverse⟩
  | 32 => some ⟨1, 1, b_order⟩
  | 33 => some ⟨2, 2, b_scaled_size⟩
  | 34 => some ⟨3, 5, b_side_of⟩
  | 35 => some ⟨2, 2, b_law_one⟩
  | 36 => some ⟨2, 4, b_Frame_blocks⟩
  | 37 => some ⟨2, 3, b_Frame_padded⟩
  | 38 => some ⟨2, 5, b_IslowDct_inverse⟩
  | 39 => some ⟨2, 2, b_to_row⟩
  | 40 => some ⟨2, 5, b_to_block⟩
  | 41 => some ⟨2, 6, b_law_frame⟩
  | 42 => some ⟨2, 2, b_inverse⟩
  | 43 => some ⟨3, 6, b_corner⟩
  | 44 => some ⟨2, 5, b_Grid_init⟩
  | 45 => some ⟨3, 6, b_scaled_samples⟩
  | 46 => some ⟨5, 15, b_scaled_plane⟩
  | 47 => some ⟨4, 17, b_law_plane_right⟩
  | 48 => some ⟨1, 8, b_law⟩
  | _ => Option.none
noncomputable def prgInt : Nat → Option Int
  | 0 => some 13
  | 1 => some 2
  | 2 => some 4433
  | 3 => some 6270
  | 4 => some 15137
  | 5 => some 8
  | 6 => some 3
  | 7 => some 2446
  | 8 => some 3196
  | 9 => some 7373
  | 10 => some 9633
  | 11 => some 12299
  | 12 => some 16069
  | 13 => some 16819
  | 14 => some 20995
  | 15 => some 25172
  | 16 => some 4
  | 17 => some 8
  | _ => Option.none
noncomputable def order8 : List Int := [0, 1, 8, 16, 9, 2, 3, 10, 17, 24, 32, 25, 18, 11, 4, 5, 12, 19, 26, 33, 40, 48, 41, 34, 27, 20, 13, 6, 7, 14, 21, 28, 35, 42, 49, 56, 57, 50, 43, 36, 29, 22, 15, 23, 30, 37, 44, 51, 58, 59, 52, 45, 38, 31, 39, 46, 53, 60, 61, 54, 47, 55, 62, 63]
noncomputable def prgTup : Nat → Option (List Int)
  | 0 => some order8
  | _ => Option.none
noncomputable def prgMeth : Nat → Nat → Option Nat
  | 1, 13 => some 4
  | 1, 14 => some 5
  | 5, 15 => some 12
  | 6, 19 => some 13
  | 7, 22 => some 18
  | 7, 23 => some 19
  | 1, 17 => some 25
  | 1, 18 => some 26
  | 1, 16 => some 27
  | 4, 19 => some 30
  | 5, 19 => some 31
  | 1, 21 => some 36
  | 1, 20 => some 37
  | 3, 19 => some 38
  | _, _ => Option.none
noncomputable def prgInit : Nat → Option (Option Nat)
  | 0 => some (some 2)
  | 1 => some (some 3)
  | 2 => some (some 6)
  | 3 => some Option.none
  | 4 => some Option.none
  | 5 => some Option.none
  | 6 => some Option.none
  | 7 => some (some 44)
  | _ => Option.none
noncomputable def prgDat : Nat → Nat → Bool
  | 0, 0 => true
  | 0, 1 => true
  | 0, 2 => true
  | 0, 3 => true
  | 1, 4 => true
  | 1, 5 => true
  | 1, 6 => true
  | 1, 7 => true
  | 1, 8 => true
  | 1, 9 => true
  | 2, 7 => true
  | 2, 6 => true
  | 2, 10 => true
  | 7, 11 => true
  | 7, 12 => true
  | _, _ => false
noncomputable def prg : Prg := ⟨prgFn, prgInt, prgTup, prgMeth, prgInit, prgDat⟩
end Mine

namespace Mine
/-! LA -/
section
set_option maxRecDepth 4000
set_option linter.unusedVariables false


/-! ### continuations -/
inductive WE (l : Loc) (h : MH) (e : ME) (Q : MV → MH → Prop) : Prop where
  | mk (v : MV) (h' : MH) (ev : Ev prg (.E l h e v h')) (q : Q v h') : WE l h e Q
inductive WEs (l : Loc) (h : MH) (es : List ME) (Q : List MV → MH → Prop) : Prop where
  | mk (vs : List MV) (h' : MH) (ev : Ev prg (.Es l h es vs h')) (q : Q vs h') : WEs l h es Q
inductive WB (l : Loc) (h : MH) (e : ME) (Q : Bool → MH → Prop) : Prop where
  | mk (r : Bool) (h' : MH) (ev : Ev prg (.B l h e r h')) (q : Q r h') : WB l h e Q
inductive WAll (c : Bool) (l : Loc) (h : MH) (es : List ME) (Q : Bool → MH → Prop) : Prop where
  | mk (r : Bool) (h' : MH) (ev : Ev prg (.All c l h es r h')) (q : Q r h') : WAll c l h es Q
inductive WSs (l : Loc) (h : MH) (ss : List MS) (Q : Option MV → Loc → MH → Prop) : Prop where
  | mk (o : Option MV) (l' : Loc) (h' : MH) (ev : Ev prg (.Ss l h ss o l' h')) (q : Q o l' h') : WSs l h ss Q
inductive WCall (f : Nat) (vs : List MV) (h : MH) (Q : MV → MH → Prop) : Prop where
  | mk (v : MV) (h' : MH) (ev : Ev prg (.Call f vs h v h')) (q : Q v h') : WCall f vs h Q
inductive WBin (h : MH) (o : Bop) (x y : MV) (Q : MV → MH → Prop) : Prop where
  | mk (v : MV) (h' : MH) (r : BinR h o x y v h') (q : Q v h') : WBin h o x y Q
inductive WCmp (h : MH) (o : Cop) (x y : MV) (Q : Bool → Prop) : Prop where
  | mk (r : Bool) (c : CmpR h o x y r) (q : Q r) : WCmp h o x y Q
inductive WItem (h : MH) (x y : MV) (Q : MV → Prop) : Prop where
  | mk (v : MV) (r : ItemR h x y v) (q : Q v) : WItem h x y Q
inductive WSet (h : MH) (x y v : MV) (Q : MH → Prop) : Prop where
  | mk (h' : MH) (r : SetR h x y v h') (q : Q h') : WSet h x y v Q
inductive WBi (h : MH) (b : Bi) (vs : List MV) (Q : MV → MH → Prop) : Prop where
  | mk (v : MV) (h' : MH) (r : BiR h b vs v h') (q : Q v h') : WBi h b vs Q
inductive PAttr (h : MH) (x : MV) (a : Nat) (Q : MV → MH → Prop) : Prop where
  | mk (i : Nat) (c : Nat) (fs : List (Nat × MV)) (v : MV) (z0 : x = .ref i) (z1 : h[i]? = some (.inst c fs)) (z2 : fs.lookup a = some v) (z3 : prg.dat c a = true) (z4 : Q v h) : PAttr h x a Q
inductive PMeth (l : Loc) (h : MH) (x : MV) (m : Nat) (es : List ME) (Q : MV → MH → Prop) : Prop where
  | mk (i : Nat) (c : Nat) (fs : List (Nat × MV)) (f : Nat) (z0 : x = .ref i) (z1 : h[i]? = some (.inst c fs)) (z2 : fs.lookup m = Option.none) (z3 : prg.meth c m = some f) (z4 : WEs l h es fun vs h2 => WCall f (.ref i :: vs) h2 Q) : PMeth l h x m es Q
inductive PSl2 (h : MH) (x y z : MV) (Q : MV → MH → Prop) : Prop where
  | mk (k : Nat) (vs : List MV) (a : Int) (b : Int) (z0 : x = .ref k) (z1 : y = .int a) (z2 : z = .int b) (z3 : h[k]? = some (.list vs)) (z4 : 0 ≤ a) (z5 : a ≤ b) (z6 : b ≤ vs.length) (z7 : vs.length ≤ lim) (z8 : Q (.ref h.length) (h ++ [.list ((vs.drop a.toNat).take (b - a).toNat)])) : PSl2 h x y z Q
inductive PSl3 (h : MH) (x y z : MV) (Q : MV → MH → Prop) : Prop where
  | mk (k : Nat) (vs : List MV) (a : Int) (b : Int) (z0 : x = .ref k) (z1 : y = .int a) (z2 : z = .int b) (z3 : h[k]? = some (.list vs)) (z4 : 0 ≤ a) (z5 : a ≤ vs.length) (z6 : 0 < b) (z7 : b ≤ lim) (z8 : vs.length ≤ lim) (z9 : Q (.ref h.length) (h ++ [.list (picks a b vs)])) : PSl3 h x y z Q
inductive PApp (h1 h2 : MH) (y w : MV) (Q : MV → MH → Prop) : Prop where
  | mk (i : Nat) (vs : List MV) (z0 : y = .ref i) (z1 : h1[i]? = some (.list vs)) (z2 : h2[i]? = some (.list vs)) (z3 : vs.length ≤ lim) (z4 : Q .none (h2.set i (.list (vs ++ [w])))) : PApp h1 h2 y w Q
inductive PExt (h1 h2 : MH) (y w : MV) (Q : MV → MH → Prop) : Prop where
  | mk (i : Nat) (j : Nat) (vs : List MV) (ws : List MV) (z0 : y = .ref i) (z1 : w = .ref j) (z2 : h1[i]? = some (.list vs)) (z3 : h2[i]? = some (.list vs)) (z4 : h2[j]? = some (.list ws)) (z5 : i ≠ j) (z6 : vs.length + ws.length ≤ lim) (z7 : Q .none (h2.set i (.list (vs ++ ws)))) : PExt h1 h2 y w Q
inductive PSet (h2 : MH) (x : MV) (a : Nat) (v : MV) (K : MH → Prop) : Prop where
  | mk (i : Nat) (c : Nat) (fs : List (Nat × MV)) (z0 : x = .ref i) (z1 : h2[i]? = some (.inst c fs)) (z2 : fs.length ≤ 50) (z3 : prg.dat c a = true) (z4 : K (h2.set i (.inst c (putF a v fs)))) : PSet h2 x a v K
inductive PUnp (h : MH) (v : MV) (n : Nat) (K : List MV → Prop) : Prop where
  | mk (vs : List MV) (z0 : items h v = some vs) (z1 : (∀ a b c, v ≠ .rng a b c)) (z2 : vs.length = n) (z3 : K vs) : PUnp h v n K
theorem pAttr {h : MH} {a i c : Nat} {fs : List (Nat × MV)} {v : MV} {Q : MV → MH → Prop} (e : h[i]? = some (.inst c fs)) (e2 : fs.lookup a = some v) (e3 : prg.dat c a = true) (k : Q v h) : PAttr h (.ref i) a Q := ⟨i, c, fs, v, rfl, e, e2, e3, k⟩
theorem pMeth {l : Loc} {h : MH} {m i c f : Nat} {es : List ME} {fs : List (Nat × MV)} {Q : MV → MH → Prop} (e : h[i]? = some (.inst c fs)) (e2 : fs.lookup m = Option.none) (e3 : prg.meth c m = some f) (k : WEs l h es fun vs h2 => WCall f (.ref i :: vs) h2 Q) : PMeth l h (.ref i) m es Q := ⟨i, c, fs, f, rfl, e, e2, e3, k⟩
theorem pSl2 {h : MH} {i : Nat} {vs : List MV} {a b : Int} {Q : MV → MH → Prop} (e : h[i]? = some (.list vs)) (h1 : 0 ≤ a) (h2 : a ≤ b) (h3 : b ≤ vs.length) (h4 : vs.length ≤ lim) (k : Q (.ref h.length) (h ++ [.list ((vs.drop a.toNat).take (b - a).toNat)])) : PSl2 h (.ref i) (.int a) (.int b) Q := ⟨i, vs, a, b, rfl, rfl, rfl, e, h1, h2, h3, h4, k⟩
theorem pSl3 {h : MH} {i : Nat} {vs : List MV} {a b : Int} {Q : MV → MH → Prop} (e : h[i]? = some (.list vs)) (h1 : 0 ≤ a) (h2 : a ≤ vs.length) (h3 : 0 < b) (h5 : b ≤ lim) (h4 : vs.length ≤ lim) (k : Q (.ref h.length) (h ++ [.list (picks a b vs)])) : PSl3 h (.ref i) (.int a) (.int b) Q := ⟨i, vs, a, b, rfl, rfl, rfl, e, h1, h2, h3, h5, h4, k⟩
theorem pApp {h1 h2 : MH} {i : Nat} {vs : List MV} {w : MV} {Q : MV → MH → Prop} (e : h1[i]? = some (.list vs)) (e2 : h2[i]? = some (.list vs)) (z : vs.length ≤ lim) (k : Q .none (h2.set i (.list (vs ++ [w])))) : PApp h1 h2 (.ref i) w Q := ⟨i, vs, rfl, e, e2, z, k⟩
theorem pExt {h1 h2 : MH} {i j : Nat} {vs ws : List MV} {Q : MV → MH → Prop} (e : h1[i]? = some (.list vs)) (e2 : h2[i]? = some (.list vs)) (e3 : h2[j]? = some (.list ws)) (z : i ≠ j) (z' : vs.length + ws.length ≤ lim) (k : Q .none (h2.set i (.list (vs ++ ws)))) : PExt h1 h2 (.ref i) (.ref j) Q := ⟨i, j, vs, ws, rfl, rfl, e, e2, e3, z, z', k⟩
theorem pSet {h2 : MH} {a i c : Nat} {fs : List (Nat × MV)} {v : MV} {K : MH → Prop} (e : h2[i]? = some (.inst c fs)) (z : fs.length ≤ 50) (d : prg.dat c a = true) (k : K (h2.set i (.inst c (putF a v fs)))) : PSet h2 (.ref i) a v K := ⟨i, c, fs, rfl, e, z, d, k⟩
theorem pUnp {h : MH} {v : MV} {n : Nat} {K : List MV → Prop} {vs : List MV} (e : items h v = some vs) (z : ∀ a b c, v ≠ .rng a b c) (z' : vs.length = n) (k : K vs) : PUnp h v n K := ⟨vs, e, z, z', k⟩
theorem pBi {h h' : MH} {b : Bi} {vs : List MV} {v : MV} {Q : MV → MH → Prop} (e : BiR h b vs v h') (k : Q v h') : WBi h b vs Q := ⟨_, _, e, k⟩
theorem pItem {h : MH} {x y v : MV} {Q : MV → Prop} (e : ItemR h x y v) (k : Q v) : WItem h x y Q := ⟨_, e, k⟩
theorem pCmp {h : MH} {o : Cop} {x y : MV} {r : Bool} {Q : Bool → Prop} (e : CmpR h o x y r) (k : Q r) : WCmp h o x y Q := ⟨_, e, k⟩
theorem pSetI {h h' : MH} {x y v : MV} {Q : MH → Prop} (e : SetR h x y v h') (k : Q h') : WSet h x y v Q := ⟨_, e, k⟩
/-- the unknown places of a frame, as one function -/
theorem fr {l : Loc} {F : (Nat → Option MV) → Loc} (e : l = F fun n => getL l n) : ∃ u, l = F u := ⟨_, e⟩

section
variable {l : Loc} {h : MH} {Q Q' : MV → MH → Prop} {R : Option MV → Loc → MH → Prop} {B : Bool → MH → Prop}

theorem WE.mono {e : ME} (a : WE l h e Q) (k : ∀ v h', Q v h' → Q' v h') : WE l h e Q' := by obtain ⟨v, h', e, q⟩ := a; exact ⟨v, h', e, k v h' q⟩
theorem WCall.mono {f : Nat} {vs : List MV} (a : WCall f vs h Q) (k : ∀ v h', Q v h' → Q' v h') : WCall f vs h Q' := by obtain ⟨v, h', e, q⟩ := a; exact ⟨v, h', e, k v h' q⟩
theorem WSs.mono {ss : List MS} {R' : Option MV → Loc → MH → Prop} (a : WSs l h ss R) (k : ∀ o l' h', R o l' h' → R' o l' h') : WSs l h ss R' := by obtain ⟨o, l', h', e, q⟩ := a; exact ⟨o, l', h', e, k o l' h' q⟩

theorem w_int {i : Int} (k : Q (.int i) h) : WE l h (.int i) Q := ⟨_, _, .of (.int), k⟩
theorem w_bool {i : Bool} (k : Q (.bool i) h) : WE l h (.bool i) Q := ⟨_, _, .of (.bool), k⟩
theorem w_none (k : Q .none h) : WE l h .none Q := ⟨_, _, .of (.none), k⟩
theorem w_str (k : Q .str h) : WE l h .str Q := ⟨_, _, .of (.str), k⟩
theorem w_loc {i : Nat} {v : MV} (e : getL l i = some v) (k : Q v h) : WE l h (.loc i) Q := ⟨_, _, .of (.loc e), k⟩
theorem w_gint {g : Nat} {i : Int} (e : prg.gint g = some i) (k : Q (.int i) h) : WE l h (.gint g) Q := ⟨_, _, .of (.gint e), k⟩
theorem w_gtup {g : Nat} {is : List Int} (e : prg.gtup g = some is) (k : Q (.tup (is.map MV.int)) h) : WE l h (.gtup g) Q := ⟨_, _, .of (.gtup e), k⟩
theorem w_bin {o : Bop} {a b : ME} (k : WE l h a fun x h1 => WE l h1 b fun y h2 => WBin h2 o x y Q) : WE l h (.bin o a b) Q := by obtain ⟨_, _, e1, _, _, e2, _, _, r, q⟩ := k; exact ⟨_, _, .of (.bin e1 e2 r), q⟩
theorem w_neg {a : ME} (k : WE l h a fun x h1 => ∃ i, x = .int i ∧ Q (.int (-i)) h1) : WE l h (.neg a) Q := by
  obtain ⟨_, _, e1, i, rfl, q⟩ := k; exact ⟨_, _, .of (.neg e1), q⟩
theorem w_cmp {o : Cop} {a b : ME} (k : WE l h a fun x h1 => WE l h1 b fun y h2 => WCmp h2 o x y fun r => Q (.bool r) h2) : WE l h (.cmp o a b) Q := by obtain ⟨_, _, e1, _, _, e2, _, r, q⟩ := k; exact ⟨_, _, .of (.cmp e1 e2 r), q⟩
theorem w_ite {c a b : ME} (k : WB l h c fun r h1 => (r = true → WE l h1 a Q) ∧ (r = false → WE l h1 b Q)) : WE l h (.ite c a b) Q := by
  obtain ⟨r, h1, e1, k1, k2⟩ := k
  cases r
  · obtain ⟨_, _, e, q⟩ := k2 rfl; exact ⟨_, _, .of (.iteF e1 e), q⟩
  · obtain ⟨_, _, e, q⟩ := k1 rfl; exact ⟨_, _, .of (.iteT e1 e), q⟩
theorem w_tup {es : List ME} (k : WEs l h es fun vs h1 => vs.length ≤ lim ∧ Q (.tup vs) h1) : WE l h (.tup es) Q := by obtain ⟨_, _, e, z, q⟩ := k; exact ⟨_, _, .of (.tup e z), q⟩
theorem w_list {es : List ME} (k : WEs l h es fun vs h1 => vs.length ≤ lim ∧ Q (.ref h1.length) (h1 ++ [.list vs])) : WE l h (.list es) Q := by obtain ⟨_, _, e, z, q⟩ := k; exact ⟨_, _, .of (.list e z), q⟩
theorem w_dict0 (k : Q (.ref h.length) (h ++ [.dict []])) : WE l h .dict0 Q := ⟨_, _, .of (.dict0), k⟩
theorem w_attr {e : ME} {a : Nat} (k : WE l h e fun x h1 => PAttr h1 x a Q) : WE l h (.attr e a) Q := by
  obtain ⟨_, _, e1, i, c, fs, v, rfl, e2, e3, e4, q⟩ := k; exact ⟨_, _, .of (.attr e1 e2 e3 e4), q⟩
theorem w_item {e i : ME} (k : WE l h e fun x h1 => WE l h1 i fun y h2 => WItem h2 x y fun v => Q v h2) : WE l h (.item e i) Q := by obtain ⟨_, _, e1, _, _, e2, _, r, q⟩ := k; exact ⟨_, _, .of (.item e1 e2 r), q⟩
theorem w_slice2 {e lo hi : ME} (k : WE l h e fun x h1 => WE l h1 lo fun y h2 => WE l h2 hi fun z h3 => PSl2 h3 x y z Q) : WE l h (.slice2 e lo hi) Q := by
  obtain ⟨_, _, e1, _, _, e2, _, _, e3, k, vs, a, b, rfl, rfl, rfl, h1, h2, h3, h4, h5, q⟩ := k
  exact ⟨_, _, .of (.slice2 e1 e2 e3 h1 h2 h3 h4 h5), q⟩
theorem w_slice3 {e lo hi : ME} (k : WE l h e fun x h1 => WE l h1 lo fun y h2 => WE l h2 hi fun z h3 => PSl3 h3 x y z Q) : WE l h (.slice3 e lo hi) Q := by
  obtain ⟨_, _, e1, _, _, e2, _, _, e3, k, vs, a, b, rfl, rfl, rfl, h1, h2, h3, h4, h5, h6, q⟩ := k
  exact ⟨_, _, .of (.slice3 e1 e2 e3 h1 h2 h3 h4 h5 h6), q⟩
theorem w_call {f : Nat} {es : List ME} (k : WEs l h es fun vs h1 => WCall f vs h1 Q) : WE l h (.call f es) Q := by obtain ⟨_, _, e1, _, _, e2, q⟩ := k; exact ⟨_, _, .of (.call e1 e2), q⟩
theorem w_new {c f : Nat} {es : List ME} (hf : prg.init c = some (some f)) (k : WEs l h es fun vs h1 => WCall f (.ref h1.length :: vs) (h1 ++ [.inst c []]) fun v h2 => v = .none ∧ Q (.ref h1.length) h2) : WE l h (.new c es) Q := by
  obtain ⟨_, _, e1, _, _, e2, rfl, q⟩ := k; exact ⟨_, _, .of (.new e1 hf e2), q⟩
theorem w_new0 {c : Nat} (hf : prg.init c = some Option.none) (k : Q (.ref h.length) (h ++ [.inst c []])) : WE l h (.new c []) Q := ⟨_, _, .of (.new0 hf), k⟩
theorem w_meth {e : ME} {m : Nat} {es : List ME} (k : WE l h e fun x h1 => PMeth l h1 x m es Q) : WE l h (.meth e m es) Q := by
  obtain ⟨_, _, e1, i, c, fs, f, rfl, h1, h2, h3, _, _, e2, _, _, e3, q⟩ := k; exact ⟨_, _, .of (.meth e1 h1 h2 h3 e2 e3), q⟩
theorem w_bi {b : Bi} {es : List ME} (k : WEs l h es fun vs h1 => WBi h1 b vs Q) : WE l h (.bi b es) Q := by obtain ⟨_, _, e1, _, _, e2, q⟩ := k; exact ⟨_, _, .of (.bi e1 e2), q⟩
theorem w_app {e x : ME} (k : WE l h e fun y h1 => WE l h1 x fun w h2 => PApp h1 h2 y w Q) : WE l h (.app e x) Q := by
  obtain ⟨_, _, e1, _, _, e2, i, vs, rfl, h1, h2, h3, q⟩ := k; exact ⟨_, _, .of (.app e1 e2 h1 h2 h3), q⟩
theorem w_ext {e x : ME} (k : WE l h e fun y h1 => WE l h1 x fun w h2 => PExt h1 h2 y w Q) : WE l h (.ext e x) Q := by
  obtain ⟨_, _, e1, _, _, e2, i, j, vs, ws, rfl, rfl, h1, h2, h3, h4, h5, q⟩ := k; exact ⟨_, _, .of (.ext e1 e2 h1 h2 h3 h4 h5), q⟩

/-- the turns of a comprehension, by an invariant -/
theorem c_turns {elt : ME} {src : MV} {caps : Loc} {vs : List MV} {I : Nat → List MV → MH → Prop} (hi : ∀ i ws h, I i ws h → items h src = some vs)
    (step : ∀ i v ws h, I i ws h → vs[i]? = some v → WE (some v :: caps) h elt fun w h' => I (i + 1) (ws ++ [w]) h') :
    ∀ (n i : Nat) (ws : List MV) (h : MH), n = vs.length - i → i ≤ vs.length → I i ws h → ∃ ws' h', Ev prg (.C elt src i caps h ws' h') ∧ I vs.length (ws ++ ws') h' := by
  intro n
  induction n with
  | zero =>
    intro i ws h hn hle hI
    have : i = vs.length := by lia
    subst this
    exact ⟨[], h, .of (.cend (hi _ _ _ hI) (Nat.le_refl _)), by simpa using hI⟩
  | succ n ih =>
    intro i ws h hn hle hI
    have hlt : i < vs.length := by lia
    have hv : vs[i]? = some vs[i] := by simp [hlt]
    obtain ⟨w, h1, e1, hI1⟩ := step i _ ws h hI hv
    obtain ⟨ws', h2, e2, hI2⟩ := ih (i + 1) (ws ++ [w]) h1 (by lia) hlt hI1
    exact ⟨w :: ws', h2, .of (.cgo (hi _ _ _ hI) hv e1 e2), by simpa using hI2⟩
theorem w_comp {elt src : ME} {caps : List Nat} {I : Nat → List MV → MH → Prop} (k : WE l h src fun v h1 => ∃ vs, (∀ i ws h, I i ws h → items h v = some vs) ∧ I 0 [] h1 ∧
    (∀ i v ws h, I i ws h → vs[i]? = some v → WE (some v :: caps.map (getL l)) h elt fun w h' => I (i + 1) (ws ++ [w]) h') ∧
    (∀ ws h, I vs.length ws h → ws.length ≤ lim ∧ Q (.ref h.length) (h ++ [.list ws]))) : WE l h (.comp elt src caps) Q := by
  obtain ⟨v, h1, e1, vs, hi, hI, step, fin⟩ := k
  obtain ⟨ws, h2, e2, hI2⟩ := c_turns hi step vs.length 0 [] h1 (by (exact rfl)) (by (exact Nat.zero_le _)) hI
  obtain ⟨f1, f2⟩ := fin _ _ hI2
  exact ⟨_, _, .of (.comp e1 (by simpa using e2) (by simpa using f1)), by simpa using f2⟩
/-- a comprehension whose element only computes -/
theorem w_map0 {elt src : ME} {caps : List Nat} {f : MV → MV} (k : WE l h src fun v h1 => ∃ vs, items h1 v = some vs ∧ vs.length ≤ lim ∧ (∀ v ∈ vs, WE (some v :: caps.map (getL l)) h1 elt fun w h' => w = f v ∧ h' = h1) ∧ Q (.ref h1.length) (h1 ++ [.list (vs.map f)])) :
    WE l h (.comp elt src caps) Q := by
  obtain ⟨v, h1, e1, vs, hi, hz, hf, q⟩ := k
  refine w_comp (I := fun i ws h' => h' = h1 ∧ ws = (vs.take i).map f) ⟨v, h1, e1, vs, fun i ws h' e => e.1 ▸ hi, ⟨rfl, by simp⟩, fun i v ws h' e hv => ?_, fun ws h' e => ?_⟩
  · obtain ⟨rfl, rfl⟩ := e
    obtain ⟨hlt, rfl⟩ := List.getElem?_eq_some_iff.mp hv
    refine (hf _ (List.getElem_mem hlt)).mono fun w h'' e => ⟨e.2, ?_⟩
    rw [e.1, List.take_succ, List.map_append, List.getElem?_eq_getElem hlt]; rfl
  · obtain ⟨rfl, rfl⟩ := e
    simp only [List.take_length]
    exact ⟨by simpa using hz, q⟩

theorem w_map {elt src : ME} {caps : List Nat} {f : MV → MV} (k : ∀ Q' : MV → MH → Prop, (∀ v h1 vs, items h1 v = some vs → vs.length ≤ lim → (∀ v ∈ vs, ∀ P' : MV → MH → Prop, P' (f v) h1 → WE (some v :: caps.map (getL l)) h1 elt P') → Q (.ref h1.length) (h1 ++ [.list (vs.map f)]) → Q' v h1) → WE l h src Q') :
    WE l h (.comp elt src caps) Q := w_map0 (f := f) (k _ fun v h1 vs a b d e => ⟨vs, a, b, fun v hv => d v hv _ ⟨rfl, rfl⟩, e⟩)

theorem w_nil {Q : List MV → MH → Prop} (k : Q [] h) : WEs l h [] Q := ⟨_, _, .of (.nil), k⟩
theorem w_cons {e : ME} {es : List ME} {Q : List MV → MH → Prop} (k : WE l h e fun v h1 => WEs l h1 es fun vs h2 => Q (v :: vs) h2) : WEs l h (e :: es) Q := by obtain ⟨_, _, e1, _, _, e2, q⟩ := k; exact ⟨_, _, .of (.cons e1 e2), q⟩

theorem b_cmp {o : Cop} {a b : ME} (k : WE l h a fun x h1 => WE l h1 b fun y h2 => WCmp h2 o x y fun r => B r h2) : WB l h (.cmp o a b) B := by obtain ⟨_, _, e1, _, _, e2, _, r, q⟩ := k; exact ⟨_, _, .of (.bcmp e1 e2 r), q⟩
theorem b_cmp2 {o1 o2 : Cop} {a b c : ME} (k : WE l h a fun x h1 => WE l h1 b fun y h2 => WCmp h2 o1 x y fun r => (r = true → WE l h2 c fun z h3 => WCmp h3 o2 y z fun t => B t h3) ∧ (r = false → B false h2)) : WB l h (.cmp2 o1 o2 a b c) B := by
  obtain ⟨_, _, e1, _, _, e2, r, c1, k1, k2⟩ := k
  cases r
  · exact ⟨_, _, .of (.bcmp2F e1 e2 c1), k2 rfl⟩
  · obtain ⟨_, _, e3, _, c2, q⟩ := k1 rfl; exact ⟨_, _, .of (.bcmp2T e1 e2 c1 e3 c2), q⟩
theorem b_not {a : ME} (k : WB l h a fun r h1 => B (!r) h1) : WB l h (.not a) B := by obtain ⟨_, _, e, q⟩ := k; exact ⟨_, _, .of (.bnot e), q⟩
theorem b_and {es : List ME} (k : WAll true l h es B) : WB l h (.and es) B := by obtain ⟨_, _, e, q⟩ := k; exact ⟨_, _, .of (.band e), q⟩
theorem b_or {es : List ME} (k : WAll false l h es B) : WB l h (.or es) B := by obtain ⟨_, _, e, q⟩ := k; exact ⟨_, _, .of (.bor e), q⟩
theorem b_call {f : Nat} {es : List ME} (k : WE l h (.call f es) fun v h1 => ∃ r, v = .bool r ∧ B r h1) : WB l h (.call f es) B := by
  obtain ⟨_, _, e, r, rfl, q⟩ := k; exact ⟨_, _, .of (.bcall e), q⟩
theorem a_nil {c : Bool} (k : B c h) : WAll c l h [] B := ⟨_, _, .of (.allNil), k⟩
theorem a_cons {c : Bool} {e : ME} {es : List ME} (k : WB l h e fun r h1 => (r = c → WAll c l h1 es B) ∧ (r = (!c) → B (!c) h1)) : WAll c l h (e :: es) B := by
  obtain ⟨r, h1, e1, k1, k2⟩ := k
  by_cases hr : r = c
  · subst hr; obtain ⟨_, _, e2, q⟩ := k1 rfl; exact ⟨_, _, .of (.allGo e1 e2), q⟩
  · have : r = !c := by cases r <;> cases c <;> simp_all
    subst this; exact ⟨_, _, .of (.allStop e1), k2 rfl⟩

/-! ### operators -/
theorem o_add {x y : Int} (k : Q (.int (x + y)) h) : WBin h .add (.int x) (.int y) Q := ⟨_, _, .add, k⟩
theorem o_sub {x y : Int} (k : Q (.int (x - y)) h) : WBin h .sub (.int x) (.int y) Q := ⟨_, _, .sub, k⟩
theorem o_mul {x y : Int} (z : big x ∨ big y) (k : Q (.int (x * y)) h) : WBin h .mul (.int x) (.int y) Q := ⟨_, _, .mul z, k⟩
theorem o_fdiv {x y : Int} (z : y ≠ 0) (z' : y.natAbs < 1073741824) (k : Q (.int (x.fdiv y)) h) : WBin h .fdiv (.int x) (.int y) Q := ⟨_, _, .fdiv z z', k⟩
theorem o_mod {x y : Int} (z : y ≠ 0) (k : Q (.int (x.fmod y)) h) : WBin h .mod (.int x) (.int y) Q := ⟨_, _, .mod z, k⟩
theorem o_pow {x y : Int} (z : 0 ≤ y) (z' : y ≤ 1000) (z'' : big x) (k : Q (.int (x ^ y.toNat)) h) : WBin h .pow (.int x) (.int y) Q := ⟨_, _, .pow z z' z'', k⟩
theorem o_shl {x y : Int} (z : 0 ≤ y) (z' : y ≤ 1000) (z'' : big x) (k : Q (.int (x * 2 ^ y.toNat)) h) : WBin h .shl (.int x) (.int y) Q := ⟨_, _, .shl z z' z'', k⟩
theorem o_shr {x y : Int} (z : 0 ≤ y) (k : Q (.int (x.fdiv (2 ^ y.toNat))) h) : WBin h .shr (.int x) (.int y) Q := ⟨_, _, .shr z, k⟩
theorem o_addL {i j : Nat} {xs ys : List MV} (e1 : h[i]? = some (.list xs)) (e2 : h[j]? = some (.list ys)) (z : xs.length + ys.length ≤ lim) (k : Q (.ref h.length) (h ++ [.list (xs ++ ys)])) : WBin h .add (.ref i) (.ref j) Q := ⟨_, _, .addL e1 e2 z, k⟩
theorem o_addT {xs ys : List MV} (e1 : xs ≠ []) (e2 : ys ≠ []) (z : xs.length + ys.length ≤ lim) (k : Q (.tup (xs ++ ys)) h) : WBin h .add (.tup xs) (.tup ys) Q := ⟨_, _, .addT e1 e2 z, k⟩
theorem o_mulL {i : Nat} {x : MV} {n : Int} (e1 : h[i]? = some (.list [x])) (z : 0 ≤ n) (z' : n ≤ lim) (k : Q (.ref h.length) (h ++ [.list (List.replicate n.toNat x)])) : WBin h .mul (.ref i) (.int n) Q := ⟨_, _, .mulL e1 z z', k⟩
theorem o_mulT {x : MV} {n : Int} (z : 2 ≤ n) (z' : n ≤ lim) (k : Q (.tup (List.replicate n.toNat x)) h) : WBin h .mul (.tup [x]) (.int n) Q := ⟨_, _, .mulT z z', k⟩
theorem p_int {o : Cop} {x y : Int} {r : Bool} {Q : Bool → Prop} (e : cmpI o x y = some r) (k : Q r) : WCmp h o (.int x) (.int y) Q := ⟨_, .int e, k⟩
theorem p_isNone {Q : Bool → Prop} (k : Q true) : WCmp h .is .none .none Q := ⟨_, .isNone, k⟩
theorem p_isRef {i : Nat} {Q : Bool → Prop} (k : Q false) : WCmp h .is (.ref i) .none Q := ⟨_, .isRef, k⟩
theorem i_list {i : Nat} {vs : List MV} {j : Int} {v : MV} {Q : MV → Prop} (e : h[i]? = some (.list vs)) (z : 0 ≤ j) (e2 : vs[j.toNat]? = some v) (z' : vs.length ≤ lim) (k : Q v) : WItem h (.ref i) (.int j) Q := ⟨_, .list e z e2 z', k⟩
theorem i_tup {vs : List MV} {j : Int} {v : MV} {Q : MV → Prop} (z : 0 ≤ j) (e2 : vs[j.toNat]? = some v) (z' : vs.length ≤ lim) (k : Q v) : WItem h (.tup vs) (.int j) Q := ⟨_, .tup z e2 z', k⟩

/-! ### what only computes -/
noncomputable def PE (l : Loc) (e : ME) (v : MV) : Prop := ∀ h, Ev prg (.E l h e v h)
noncomputable def PEs (l : Loc) (es : List ME) (vs : List MV) : Prop := ∀ h, Ev prg (.Es l h es vs h)
section
variable {a b : ME} {x y : Int}
theorem q_loc {i : Nat} {v : MV} (e : getL l i = some v) : PE l (.loc i) v := fun u1 => .of (.loc e)
theorem q_int {i : Int} : PE l (.int i) (.int i) := fun u1 => .of .int
theorem q_bool {i : Bool} : PE l (.bool i) (.bool i) := fun u1 => .of .bool
theorem q_none : PE l .none .none := fun u1 => .of .none
theorem q_str : PE l .str .str := fun u1 => .of .str
theorem q_gint {g : Nat} {i : Int} (e : prg.gint g = some i) : PE l (.gint g) (.int i) := fun u1 => .of (.gint e)
theorem q_add (p : PE l a (.int x)) (q : PE l b (.int y)) : PE l (.bin .add a b) (.int (x + y)) := fun h => .of (.bin (p h) (q h) .add)
theorem q_sub (p : PE l a (.int x)) (q : PE l b (.int y)) : PE l (.bin .sub a b) (.int (x - y)) := fun h => .of (.bin (p h) (q h) .sub)
theorem q_mul (p : PE l a (.int x)) (q : PE l b (.int y)) (z : big x ∨ big y) : PE l (.bin .mul a b) (.int (x * y)) := fun h => .of (.bin (p h) (q h) (.mul z))
theorem q_fdiv (p : PE l a (.int x)) (q : PE l b (.int y)) (z : y ≠ 0) (z' : y.natAbs < 1073741824) : PE l (.bin .fdiv a b) (.int (x.fdiv y)) := fun h => .of (.bin (p h) (q h) (.fdiv z z'))
theorem q_mod (p : PE l a (.int x)) (q : PE l b (.int y)) (z : y ≠ 0) : PE l (.bin .mod a b) (.int (x.fmod y)) := fun h => .of (.bin (p h) (q h) (.mod z))
theorem q_shl (p : PE l a (.int x)) (q : PE l b (.int y)) (z : 0 ≤ y) (z' : y ≤ 1000) (z'' : big x) : PE l (.bin .shl a b) (.int (x * 2 ^ y.toNat)) := fun h => .of (.bin (p h) (q h) (.shl z z' z''))
theorem q_pow (p : PE l a (.int x)) (q : PE l b (.int y)) (z : 0 ≤ y) (z' : y ≤ 1000) (z'' : big x) : PE l (.bin .pow a b) (.int (x ^ y.toNat)) := fun h => .of (.bin (p h) (q h) (.pow z z' z''))
theorem q_shr (p : PE l a (.int x)) (q : PE l b (.int y)) (z : 0 ≤ y) : PE l (.bin .shr a b) (.int (x.fdiv (2 ^ y.toNat))) := fun h => .of (.bin (p h) (q h) (.shr z))
theorem q_neg (p : PE l a (.int x)) : PE l (.neg a) (.int (-x)) := fun h => .of (.neg (p h))
theorem qs_nil : PEs l [] [] := fun u1 => .of .nil
theorem qs_cons {es : List ME} {v : MV} {vs : List MV} (p : PE l a v) (q : PEs l es vs) : PEs l (a :: es) (v :: vs) := fun h => .of (.cons (p h) (q h))
theorem q_tup {es : List ME} {vs : List MV} (p : PEs l es vs) (z : vs.length ≤ lim) : PE l (.tup es) (.tup vs) := fun h => .of (.tup (p h) z)
theorem w_of {e : ME} {v : MV} (p : PE l e v) (k : Q v h) : WE l h e Q := ⟨_, _, p h, k⟩
theorem ws_of {es : List ME} {vs : List MV} {Q : List MV → MH → Prop} (p : PEs l es vs) (k : Q vs h) : WEs l h es Q := ⟨_, _, p h, k⟩
theorem b_of {o : Cop} {r : Bool} (p : PE l a (.int x)) (q : PE l b (.int y)) (e : cmpI o x y = some r) (k : B r h) : WB l h (.cmp o a b) B := ⟨_, _, .of (.bcmp (p h) (q h) (.int e)), k⟩
end

/-! ### statements -/
theorem s_nil (k : R Option.none l h) : WSs l h [] R := ⟨_, _, _, .of (.snil), k⟩
theorem s_assign {x : Nat} {e : ME} {ss : List MS} (k : WE l h e fun v h1 => WSs (l.set x (some v)) h1 ss R) : WSs l h (.assign x e :: ss) R := by obtain ⟨_, _, e1, _, _, _, e2, q⟩ := k; exact ⟨_, _, _, .of (.scons (.of (.assign e1)) e2), q⟩
theorem s_unpack {xs : List Nat} {e : ME} {ss : List MS} (k : WE l h e fun v h1 => PUnp h1 v xs.length fun vs => WSs (setAll l xs vs) h1 ss R) : WSs l h (.unpack xs e :: ss) R := by obtain ⟨_, _, e1, _, z1, z2, z3, _, _, _, e2, q⟩ := k; exact ⟨_, _, _, .of (.scons (.of (.unpack e1 z1 z2 z3)) e2), q⟩
theorem s_assignT {xs : List Nat} {es : List ME} {ss : List MS} (k : WEs l h es fun vs h1 => vs.length = xs.length ∧ WSs (setAll l xs vs) h1 ss R) : WSs l h (.assignT xs es :: ss) R := by obtain ⟨_, _, e1, z, _, _, _, e2, q⟩ := k; exact ⟨_, _, _, .of (.scons (.of (.assignT e1 z)) e2), q⟩
theorem s_setattr {o e : ME} {a : Nat} {ss : List MS} (k : WE l h e fun v h1 => WE l h1 o fun x h2 => PSet h2 x a v fun h3 => WSs l h3 ss R) : WSs l h (.setattr o a e :: ss) R := by
  obtain ⟨_, _, e1, _, _, e2, i, c, fs, rfl, z1, z2, z3, _, _, _, e3, q⟩ := k
  exact ⟨_, _, _, .of (.scons (.of (.setattr e1 e2 z1 z2 z3)) e3), q⟩
theorem s_setitem {o i e : ME} {ss : List MS} (k : WE l h e fun v h1 => WE l h1 o fun x h2 => WE l h2 i fun y h3 => WSet h3 x y v fun h4 => WSs l h4 ss R) : WSs l h (.setitem o i e :: ss) R := by
  obtain ⟨_, _, e1, _, _, e2, _, _, e3, _, r, _, _, _, e4, q⟩ := k
  exact ⟨_, _, _, .of (.scons (.of (.setitem e1 e2 e3 r)) e4), q⟩
theorem s_aug {x : Nat} {e : ME} {a : Int} {ss : List MS} (hx : getL l x = some (.int a)) (k : WE l h e fun v h1 => ∃ b, v = .int b ∧ WSs (l.set x (some (.int (a + b)))) h1 ss R) : WSs l h (.aug x .add e :: ss) R := by
  obtain ⟨_, _, e1, b, rfl, _, _, _, e2, q⟩ := k
  exact ⟨_, _, _, .of (.scons (.of (.aug hx e1)) e2), q⟩
theorem s_ret {e : ME} {ss : List MS} (k : WE l h e fun v h1 => R (some v) l h1) : WSs l h (.ret e :: ss) R := by obtain ⟨_, _, e1, q⟩ := k; exact ⟨_, _, _, .of (.sret (.of (.ret e1))), q⟩
theorem s_expr {e : ME} {ss : List MS} (k : WE l h e fun v h1 => v = .none ∧ WSs l h1 ss R) : WSs l h (.expr e :: ss) R := by
  obtain ⟨_, _, e1, rfl, _, _, _, e2, q⟩ := k; exact ⟨_, _, _, .of (.scons (.of (.expr e1)) e2), q⟩

noncomputable def inv : J → Prop
  | .Ss l h (s :: ss) o l' h' => (∃ l1 h1, Ev prg (.S l h s Option.none l1 h1) ∧ Ev prg (.Ss l1 h1 ss o l' h')) ∨ (∃ v, o = some v ∧ Ev prg (.S l h s (some v) l' h'))
  | _ => True
theorem inv_ok {j : J} (e : Ev prg j) : inv j :=
  (e (fun j => Ev prg j ∧ inv j) fun N f j s => ⟨Ev.of' s fun j x => (f j x).1, by
    induction s with
    | scons e1 e2 => exact .inl ⟨_, _, (f _ e1).1, (f _ e2).1⟩
    | sret e1 => exact .inr ⟨_, rfl, (f _ e1).1⟩
    | _ => exact trivial⟩).2
theorem ss_split {ss : List MS} {o : Option MV} {l' : Loc} {h' : MH} {a : List MS} : ∀ {l : Loc} {h : MH}, Ev prg (.Ss l h (a ++ ss) o l' h') →
    (∃ l1 h1, Ev prg (.Ss l h a Option.none l1 h1) ∧ Ev prg (.Ss l1 h1 ss o l' h')) ∨ (∃ v, o = some v ∧ Ev prg (.Ss l h a (some v) l' h')) := by
  induction a with
  | nil => exact fun {l h} e => .inl ⟨l, h, .of (.snil), e⟩
  | cons s a ih =>
    intro l h e
    rcases (inv_ok e : inv (.Ss l h (s :: (a ++ ss)) o l' h')) with ⟨l0, h0, e1, e2⟩ | ⟨v, e0, e1⟩
    · rcases ih e2 with ⟨l1, h1, f1, f2⟩ | ⟨v, e0, f⟩
      · exact .inl ⟨l1, h1, .of (.scons e1 f1), f2⟩
      · exact .inr ⟨v, e0, .of (.scons e1 f)⟩
    · exact .inr ⟨v, e0, .of (.sret e1)⟩
theorem s_ite {c : ME} {a b ss : List MS} (k : WB l h c fun r h1 => (r = true → WSs l h1 (a ++ ss) R) ∧ (r = false → WSs l h1 (b ++ ss) R)) : WSs l h (.ite c a b :: ss) R := by
  obtain ⟨r, h1, e1, k1, k2⟩ := k
  cases r
  · obtain ⟨o, l', h', e2, q⟩ := k2 rfl
    rcases ss_split e2 with ⟨l1, h1, f1, f2⟩ | ⟨v, rfl, f⟩
    · exact ⟨_, _, _, .of (.scons (.of (.iteFS e1 f1)) f2), q⟩
    · exact ⟨_, _, _, .of (.sret (.of (.iteFS e1 f))), q⟩
  · obtain ⟨o, l', h', e2, q⟩ := k1 rfl
    rcases ss_split e2 with ⟨l1, h1, f1, f2⟩ | ⟨v, rfl, f⟩
    · exact ⟨_, _, _, .of (.scons (.of (.iteTS e1 f1)) f2), q⟩
    · exact ⟨_, _, _, .of (.sret (.of (.iteTS e1 f))), q⟩

/-- a loop over items, by an invariant -/
theorem f_turns {x : Nat} {src : MV} {b : List MS} {vs : List MV} {I : Nat → Loc → MH → Prop} {K : MV → Loc → MH → Prop} (hi : ∀ i l h, I i l h → items h src = some vs)
    (step : ∀ i v l h, I i l h → vs[i]? = some v → WSs (l.set x (some v)) h b fun o l' h' => (o = Option.none → I (i + 1) l' h') ∧ (∀ r, o = some r → K r l' h')) :
    ∀ (n i : Nat) (l : Loc) (h : MH), n = vs.length - i → i ≤ vs.length → I i l h → ∃ o l' h', Ev prg (.F x src i b l h o l' h') ∧ (o = Option.none → I vs.length l' h') ∧ (∀ r, o = some r → K r l' h') := by
  intro n
  induction n with
  | zero =>
    intro i l h hn hle hI
    have : i = vs.length := by lia
    subst this
    exact ⟨_, _, _, .of (.fend (hi _ _ _ hI) (Nat.le_refl _)), fun u1 => hI, fun r e => by cases e⟩
  | succ n ih =>
    intro i l h hn hle hI
    have hlt : i < vs.length := by lia
    have hv : vs[i]? = some vs[i] := by simp [hlt]
    obtain ⟨o, l1, h1, e1, k1, k2⟩ := step i _ l h hI hv
    cases o with
    | none =>
      obtain ⟨o, l2, h2, e2, q⟩ := ih (i + 1) l1 h1 (by lia) hlt (k1 rfl)
      exact ⟨_, _, _, .of (.fgo (hi _ _ _ hI) hv e1 e2), q⟩
    | some r => exact ⟨_, _, _, .of (.fret (hi _ _ _ hI) hv e1), fun e => (by cases e), k2⟩
theorem s_for {x : Nat} {e : ME} {b ss : List MS} {I : Nat → Loc → MH → Prop} {K : MV → Loc → MH → Prop} (k : WE l h e fun v h1 => ∃ vs, (∀ i l h, I i l h → items h v = some vs) ∧ I 0 l h1 ∧
      (∀ i v l h, I i l h → vs[i]? = some v → WSs (l.set x (some v)) h b fun o l' h' => (o = Option.none → I (i + 1) l' h') ∧ (∀ r, o = some r → K r l' h')) ∧
      (∀ l h, I vs.length l h → WSs l h ss R))
    (kr : ∀ r l h, K r l h → R (some r) l h) : WSs l h (.for x e b :: ss) R := by
  obtain ⟨v, h1, e1, vs, hi, hI, step, fin⟩ := k
  obtain ⟨o, l2, h2, e2, k1, k2⟩ := f_turns hi step vs.length 0 l h1 (by (exact rfl)) (by (exact Nat.zero_le _)) hI
  cases o with
  | none =>
    obtain ⟨_, _, _, e3, q⟩ := fin _ _ (k1 rfl)
    exact ⟨_, _, _, .of (.scons (.of (.for e1 e2)) e3), q⟩
  | some r => exact ⟨_, _, _, .of (.sret (.of (.for e1 e2))), kr _ _ _ (k2 r rfl)⟩
/-- the same without a return in the loop -/
theorem s_for0 {x : Nat} {e : ME} {b ss : List MS} {I : Nat → Loc → MH → Prop} (k : ∀ (I' : Nat → Loc → MH → Prop), (∀ i l h, I i l h → I' i l h) → (∀ i l h, I' i l h → I i l h) → ∀ Q' : MV → MH → Prop, (∀ v h1 vs, (∀ i l h, I' i l h → items h v = some vs) → I' 0 l h1 →
      (∀ i v l h, I' i l h → vs[i]? = some v → ∀ R' : Option MV → Loc → MH → Prop, (∀ l' h', I' (i + 1) l' h' → R' Option.none l' h') → WSs (l.set x (some v)) h b R') →
      (∀ l h, I' vs.length l h → WSs l h ss R) → Q' v h1) → WE l h e Q') : WSs l h (.for x e b :: ss) R :=
  s_for (I := I) (K := fun u1 u2 u3 => False) (k I (fun u1 u2 u3 z => z) (fun u1 u2 u3 z => z) _ fun v h1 vs z1 z2 z3 z4 => ⟨vs, z1, z2, fun i v l h hI hv => z3 i v l h hI hv _ fun l' h' q => ⟨fun u1 => q, fun r e => nomatch e⟩, z4⟩) fun u1 u2 u3 f => f.elim

theorem w_while {c : ME} {b ss : List MS} (k : ∃ o l' h', Ev prg (.W c b l h o l' h') ∧ (o = Option.none → WSs l' h' ss R) ∧ (∀ r, o = some r → R o l' h')) : WSs l h (.while c b :: ss) R := by
  obtain ⟨o, l1, h1, e1, k1, k2⟩ := k
  cases o with
  | none => obtain ⟨_, _, _, e2, q⟩ := k1 rfl; exact ⟨_, _, _, .of (.scons (.of (.while e1)) e2), q⟩
  | some r => exact ⟨_, _, _, .of (.sret (.of (.while e1))), k2 r rfl⟩

/-- a call -/
theorem callW {f : Nat} {fn : Fn} {vs : List MV} (e1 : prg.fn f = some fn) (e2 : vs.length = fn.np) (k : WSs (vs.map some ++ List.replicate (fn.nl - fn.np) Option.none) h fn.body fun o u1 h' => Q (o.getD .none) h') : WCall f vs h Q := by
  obtain ⟨o, l', h', e, q⟩ := k
  cases o with
  | none => exact ⟨_, _, .of (.callEnd e1 e2 e), q⟩
  | some v => exact ⟨_, _, .of (.callRet e1 e2 e), q⟩
end

/-! ### heaps -/
noncomputable def Ext (S : List Nat) (h h' : MH) : Prop := ∀ k o, h[k]? = some o → k ∉ S → h'[k]? = some o
theorem Ext.refl {S : List Nat} (h : MH) : Ext S h h := fun u1 u2 e u3 => e
theorem Ext.trans {S : List Nat} {a b c : MH} (x : Ext S a b) (y : Ext S b c) : Ext S a c := fun k o e n => y k o (x k o e n) n
theorem Ext.sub {S S' : List Nat} {a b : MH} (x : Ext S a b) (h : ∀ k ∈ S, k ∈ S') : Ext S' a b := fun k o e n => x k o e fun m => n (h k m)
theorem Ext.push {S : List Nat} {a b : MH} (x : Ext S a b) (o : MO) : Ext S a (b ++ [o]) := fun k p e n => by
  have := x k p e n
  rw [List.getElem?_append_left (List.getElem?_eq_some_iff.mp this).1]; exact this
theorem Ext.set {S : List Nat} {a b : MH} (x : Ext S a b) {k : Nat} (o : MO) (hk : k ∈ S) : Ext S a (b.set k o) := fun j p e n => by
  have hne : k ≠ j := fun q => n (q ▸ hk)
  rw [List.getElem?_set_ne hne]; exact x j p e n
theorem get_push {h : MH} {k : Nat} {o p : MO} (e : h[k]? = some p) : (h ++ [o])[k]? = some p := by rw [List.getElem?_append_left (List.getElem?_eq_some_iff.mp e).1]; exact e
theorem get_last (h : MH) (o : MO) : (h ++ [o])[h.length]? = some o := by simp
theorem get_set {h : MH} {k : Nat} {o p : MO} (e : h[k]? = some p) : (h.set k o)[k]? = some o := by rw [List.getElem?_set_self (List.getElem?_eq_some_iff.mp e).1]
theorem get_set_ne {h : MH} {j k : Nat} {o p : MO} (hne : k ≠ j) (e : h[j]? = some p) : (h.set k o)[j]? = some p := by rw [List.getElem?_set_ne hne]; exact e
theorem lt_of {h : MH} {k : Nat} {o : MO} (e : h[k]? = some o) : k < h.length := (List.getElem?_eq_some_iff.mp e).1
theorem ne_of {h : MH} {j k : Nat} {o p : MO} (e : h[j]? = some o) (f : h[k]? = some p) (n : o ≠ p) : j ≠ k := fun q => by subst q; rw [e] at f; exact n (Option.some.inj f)
theorem set_push (h : MH) (o p : MO) : (h ++ [o]).set h.length p = h ++ [p] := by simp

end
/-! LB -/
section
set_option maxRecDepth 4000
set_option linter.unusedVariables false


variable {h : MH} {Q : MV → MH → Prop}

theorem cast {v v' : MV} {h h' : MH} (e : v = v') (e' : h = h') (k : Q v' h') : Q v h := by subst e e'; exact k

theorem c_parts {m n : Int} (h0 : n ≠ 0) (h1 : n.natAbs < 1073741824) (k : Q (.int ((m + n - 1).fdiv n)) h) : WCall f_parts [.int m, .int n] h Q := by
  refine callW (by rfl) (by rfl) ?_
  unfold b_parts
  (repeat (first | (apply w_of; (· (apply q_fdiv; (· (apply q_sub; (· (apply q_add; (· exact q_loc (by rfl)); (· exact q_loc (by rfl)))); (· exact q_int))); (· exact q_loc (by rfl)); (· with_reducible assumption); (· with_reducible assumption)))) | refine s_ret ?_))
  exact k
noncomputable def clampI (x m : Int) : Int := if x < 0 then 0 else if m < x then m else x
theorem c_clamped {x m : Int} (k : Q (.int (clampI x m)) h) : WCall f_clamped [.int x, .int m] h Q := by
  refine callW (by rfl) (by rfl) ?_
  unfold b_clamped
  unfold clampI at k
  (repeat (first | (apply b_of; (· exact q_loc (by rfl)); (· exact q_int); (· rfl)) | refine s_ret ?_ | refine w_ite ?_))
  refine ⟨fun hc => ?_, fun hc => ?_⟩
  · simp at hc
    (repeat (apply w_of; (· exact q_int)))
    rw [if_pos hc] at k; exact k
  · have hc' : ¬ x < 0 := by simpa using hc
    rw [if_neg hc'] at k
    (repeat (first | (apply b_of; (· exact q_loc (by rfl)); (· exact q_loc (by rfl)); (· rfl)) | refine w_ite ?_))
    refine ⟨fun hd => ?_, fun hd => ?_⟩
    · (repeat (apply w_of; (· exact q_loc (by rfl))))
      rw [if_pos (by simpa using hd)] at k; exact k
    · (repeat (apply w_of; (· exact q_loc (by rfl))))
      rw [if_neg (by simpa using hd)] at k; exact k
theorem c_descaled {x b : Int} (h0 : 1 ≤ b) (h1 : b ≤ 1000) (k : Q (.int ((x + 1 * 2 ^ (b - 1).toNat).fdiv (2 ^ b.toNat))) h) : WCall f_descaled [.int x, .int b] h Q := by
  refine callW (by rfl) (by rfl) ?_
  unfold b_descaled
  (repeat (first | (apply w_of; (· (apply q_shr; (· (apply q_add; (· exact q_loc (by rfl)); (· (apply q_shl; (· exact q_int); (· (apply q_sub; (· exact q_loc (by rfl)); (· exact q_int))); (· lia); (· lia); (· (unfold big; decide)))))); (· exact q_loc (by rfl)); (· with_reducible exact nn_i (by assumption))))) | refine s_ret ?_))
  exact k
theorem c_even {a : Int} (h1 : a.natAbs < 2 ^ 60) (k : Q (.tup [.int (a * 8192), .int (a * 8192), .int (a * 8192), .int (a * 8192)]) h) : WCall f_even_inverse [.int a, .int 0, .int 0, .int 0] h Q := by
  refine callW (by rfl) (by rfl) ?_
  unfold b_even_inverse
  (repeat (first | (apply w_of; (· (apply q_mul; (· (apply q_add; (· exact q_loc (by rfl)); (· exact q_loc (by rfl)))); (· exact q_gint (by rfl)); (· (unfold big; decide))))) | (apply ws_of; (· exact qs_cons (by (apply q_add; (· exact q_loc (by rfl)); (· (apply q_mul; (· exact q_loc (by rfl)); (· exact q_gint (by rfl)); (· (unfold big; decide)))))) (by exact qs_cons (by (apply q_sub; (· exact q_loc (by rfl)); (· (apply q_mul; (· exact q_loc (by rfl)); (· exact q_gint (by rfl)); (· (unfold big; decide)))))) (by exact qs_nil)))) | refine s_assign ?_ | refine s_assignT ?_))
  refine ⟨rfl, ?_⟩
  (repeat (first | (apply ws_of; (· exact qs_cons (by (apply q_shl; (· (apply q_add; (· exact q_loc (by rfl)); (· exact q_loc (by rfl)))); (· exact q_gint (by rfl)); (· decide); (· decide); (· (unfold big; with_reducible exact Nat.lt_of_le_of_lt (by exact nab_add (by exact Nat.le_of_lt (by assumption)) (by exact Nat.le_refl _)) (by decide))))) (by exact qs_cons (by (apply q_shl; (· (apply q_sub; (· exact q_loc (by rfl)); (· exact q_loc (by rfl)))); (· exact q_gint (by rfl)); (· decide); (· decide); (· (unfold big; with_reducible exact Nat.lt_of_le_of_lt (by exact nab_sub (by exact Nat.le_of_lt (by assumption)) (by exact Nat.le_refl _)) (by decide))))) (by exact qs_nil)))) | refine s_assignT ?_))
  refine ⟨rfl, ?_⟩
  (repeat (first | (apply ws_of; (· exact qs_cons (by (apply q_add; (· exact q_loc (by rfl)); (· exact q_loc (by rfl)))) (by exact qs_cons (by (apply q_add; (· exact q_loc (by rfl)); (· exact q_loc (by rfl)))) (by exact qs_cons (by (apply q_sub; (· exact q_loc (by rfl)); (· exact q_loc (by rfl)))) (by exact qs_cons (by (apply q_sub; (· exact q_loc (by rfl)); (· exact q_loc (by rfl)))) (by exact qs_nil)))))) | refine s_ret ?_ | refine w_tup ?_))
  refine ⟨by (simp [lim]; done), cast ?_ rfl k⟩
  simp
theorem c_odd (k : Q (.tup [.int 0, .int 0, .int 0, .int 0]) h) : WCall f_odd_flow [.int 0, .int 0, .int 0, .int 0] h Q := by
  refine callW (by rfl) (by rfl) ?_
  unfold b_odd_flow
  (repeat (first | (apply w_of; (· (apply q_mul; (· (apply q_add; (· (apply q_add; (· (apply q_add; (· exact q_loc (by rfl)); (· exact q_loc (by rfl)))); (· exact q_loc (by rfl)))); (· exact q_loc (by rfl)))); (· exact q_gint (by rfl)); (· (unfold big; decide))))) | (apply ws_of; (· exact qs_cons (by (apply q_mul; (· (apply q_add; (· exact q_loc (by rfl)); (· exact q_loc (by rfl)))); (· exact q_gint (by rfl)); (· (unfold big; decide)))) (by exact qs_cons (by (apply q_mul; (· (apply q_add; (· exact q_loc (by rfl)); (· exact q_loc (by rfl)))); (· exact q_gint (by rfl)); (· (unfold big; decide)))) (by exact qs_nil)))) | refine s_assign ?_ | refine s_assignT ?_))
  refine ⟨rfl, ?_⟩
  (repeat (first | (apply ws_of; (· exact qs_cons (by (apply q_sub; (· exact q_loc (by rfl)); (· (apply q_mul; (· (apply q_add; (· exact q_loc (by rfl)); (· exact q_loc (by rfl)))); (· exact q_gint (by rfl)); (· (unfold big; decide)))))) (by exact qs_cons (by (apply q_sub; (· exact q_loc (by rfl)); (· (apply q_mul; (· (apply q_add; (· exact q_loc (by rfl)); (· exact q_loc (by rfl)))); (· exact q_gint (by rfl)); (· (unfold big; decide)))))) (by exact qs_nil)))) | refine s_assignT ?_))
  refine ⟨rfl, ?_⟩
  (repeat (first | (apply ws_of; (· exact qs_cons (by (apply q_add; (· (apply q_sub; (· (apply q_mul; (· exact q_loc (by rfl)); (· exact q_gint (by rfl)); (· (unfold big; decide)))); (· exact q_loc (by rfl)))); (· exact q_loc (by rfl)))) (by exact qs_cons (by (apply q_add; (· (apply q_sub; (· (apply q_mul; (· exact q_loc (by rfl)); (· exact q_gint (by rfl)); (· (unfold big; decide)))); (· exact q_loc (by rfl)))); (· exact q_loc (by rfl)))) (by exact qs_cons (by (apply q_add; (· (apply q_sub; (· (apply q_mul; (· exact q_loc (by rfl)); (· exact q_gint (by rfl)); (· (unfold big; decide)))); (· exact q_loc (by rfl)))); (· exact q_loc (by rfl)))) (by exact qs_cons (by (apply q_add; (· (apply q_sub; (· (apply q_mul; (· exact q_loc (by rfl)); (· exact q_gint (by rfl)); (· (unfold big; decide)))); (· exact q_loc (by rfl)))); (· exact q_loc (by rfl)))) (by exact qs_nil)))))) | refine s_ret ?_ | refine w_tup ?_))
  refine ⟨by decide, cast ?_ rfl k⟩
  simp
theorem c_fits {a b : Int} (h0 : b ≠ 0) (k : Q (.bool (decide (a.fmod (2 * b) = 0))) h) : WCall f_fits [.int a, .int b] h Q := by
  refine callW (by rfl) (by rfl) ?_
  unfold b_fits
  (repeat (first | (apply w_of; (· (apply q_mod; (· exact q_loc (by rfl)); (· (apply q_mul; (· exact q_int); (· exact q_loc (by rfl)); (· (unfold big; with_reducible exact Or.inl (Nat.lt_of_le_of_lt (by exact Nat.le_refl _) (by decide)))))); (· lia)))) | (apply w_of; (· exact q_int)) | refine s_ret ?_ | refine w_cmp ?_ | refine p_int (by rfl) ?_))
  exact k
theorem c_over {a b : Int} (h0 : b ≠ 0) (h1 : b.natAbs < 1073741824) (k : Q (.int (-((-a).fdiv b))) h) : WCall f_law_over [.int a, .int b] h Q := by
  refine callW (by rfl) (by rfl) ?_
  unfold b_law_over
  (repeat (first | (apply w_of; (· (apply q_neg; (· (apply q_fdiv; (· (apply q_neg; (· exact q_loc (by rfl)))); (· exact q_loc (by rfl)); (· with_reducible assumption); (· with_reducible assumption)))))) | refine s_ret ?_))
  exact k

/-! ### the transforms of a block that has nothing but its first coefficient -/
noncomputable def DC (v : Int) (m : Nat) : List MV := .int v :: List.replicate (m - 1) (.int 0)
theorem DC_len (v : Int) {m : Nat} (h : 0 < m) : (DC v m).length = m := by unfold DC; simp; lia
theorem DC_get (v : Int) {m i : Nat} (h : i < m) : (DC v m)[i]? = some (.int (if i = 0 then v else 0)) := by
  unfold DC
  cases i with
  | zero => rfl
  | succ i => rw [List.getElem?_cons_succ, List.getElem?_replicate, if_pos (by lia)]; simp

/-- the transpose of such a block is the block -/
theorem picks_map {a k : Int} {vs : List Nat} (f : Nat → MV) : picks a k (vs.map f) = ((List.range (if a < vs.length then ((vs.length : Int) - a + k - 1) / k else 0).toNat).filterMap fun (j : Nat) => vs[(a + k * (j : Int)).toNat]?).map f := by
  unfold picks
  rw [List.length_map, List.map_filterMap]
  congr 1
  funext j
  simp
theorem DC_map (v : Int) {m : Nat} (h : 0 < m) : DC v m = (List.range m).map fun i => if i = 0 then MV.int v else MV.int 0 := by
  apply List.ext_getElem?
  intro i
  by_cases hi : i < m
  · rw [DC_get v hi]
    simp [hi]
    split <;> rfl
  · rw [List.getElem?_eq_none (by rw [DC_len v h]; (with_reducible exact Nat.ge_of_not_lt (by assumption))), List.getElem?_eq_none (by simp; (with_reducible exact Nat.ge_of_not_lt (by assumption)))]
noncomputable def picksN (a k : Int) (vs : List Nat) : List Nat := (List.range (if a < vs.length then ((vs.length : Int) - a + k - 1) / k else 0).toNat).filterMap fun (j : Nat) => vs[(a + k * (j : Int)).toNat]?
theorem turn8 : (List.range 8).flatMap (fun (p : Nat) => (picksN p 8 (List.range 64)).map fun i => if i = 0 then true else false) = (List.range 64).map (fun i => if i = 0 then true else false) := by decide +kernel
theorem turn4 : (List.range 4).flatMap (fun (p : Nat) => (picksN p 4 (List.range 16)).map fun i => if i = 0 then true else false) = (List.range 16).map (fun i => if i = 0 then true else false) := by decide +kernel
theorem turn8b : (List.range 8).flatMap (fun (p : Nat) => (picksN p 8 (List.range 64)).map fun i => decide (i < 8)) = (List.range 64).map (fun i => decide (i % 8 = 0)) := by decide +kernel
theorem turn4b : (List.range 4).flatMap (fun (p : Nat) => (picksN p 4 (List.range 16)).map fun i => decide (i < 4)) = (List.range 16).map (fun i => decide (i % 4 = 0)) := by decide +kernel

theorem Ext.set_new {S : List Nat} {a b : MH} (x : Ext S a b) {k : Nat} (o : MO) (hk : a.length ≤ k) : Ext S a (b.set k o) := fun j p e n => by
  have hne : k ≠ j := fun q => by have := lt_of e; lia
  rw [List.getElem?_set_ne hne]; exact x j p e n
theorem Ext.get {S : List Nat} {a b : MH} (x : Ext S a b) {k : Nat} {o : MO} (e : a[k]? = some o) (n : k ∉ S := by simp) : b[k]? = some o := x k o e n

theorem ritems_get {m i : Nat} {v : MV} (hv : (ritems 0 m 1)[i]? = some v) : i < m ∧ v = .int i := by
  unfold ritems at hv
  have hs : rsize 0 m 1 = m := by unfold rsize; simp; split <;> lia
  rw [hs, List.getElem?_map] at hv
  by_cases h : i < m
  · rw [List.getElem?_range h] at hv; simp at hv; exact ⟨h, hv.symm⟩
  · rw [List.getElem?_eq_none (by simp; (with_reducible exact Nat.ge_of_not_lt (by assumption)))] at hv; simp at hv
theorem ritems_len (m : Nat) : (ritems 0 m 1).length = m := by
  unfold ritems; simp; unfold rsize; simp; split <;> lia
theorem items_rng {h : MH} {m : Nat} (hm : m ≤ 1000000) : items h (.rng 0 m 1) = some (ritems 0 m 1) := by
  have : rok 0 m 1 = true := by unfold rok; simp; (with_reducible assumption)
  simp only [items, this, if_true]

theorem picks_len {a k : Int} {vs : List MV} (h0 : 0 ≤ a) (h1 : 0 < k) : (picks a k vs).length ≤ vs.length := by
  unfold picks
  refine Nat.le_trans (List.length_filterMap_le _ _) ?_
  rw [List.length_range]
  split
  · rename_i h
    have hm : 0 < (vs.length : Int) - a := by lia
    have : ((vs.length : Int) - a + k - 1) / k ≤ (vs.length : Int) - a := by
      apply Int.le_of_lt_add_one
      apply Int.ediv_lt_of_lt_mul h1
      have := Int.mul_le_mul_of_nonneg_left (show (1 : Int) ≤ k by lia) (show (0 : Int) ≤ (vs.length : Int) - a by lia)
      rw [Int.add_mul]; lia
    lia
  · simp
theorem turned_len {n : Nat} {vs : List MV} (h1 : 0 < n) : ∀ i : Nat, ((List.range i).flatMap fun (p : Nat) => picks p n vs).length ≤ i * vs.length
  | 0 => by simp
  | i + 1 => by
    rw [List.range_succ, List.flatMap_append, List.length_append]
    have := turned_len (vs := vs) h1 i
    have h2 := picks_len (a := i) (k := n) (vs := vs) (by (exact Int.natCast_nonneg _)) (by lia)
    simp only [List.flatMap_cons, List.flatMap_nil, List.append_nil]
    rw [Nat.add_mul]; lia

theorem c_turned {kb n : Nat} {vs : List MV} (e : h[kb]? = some (.list vs)) (h0 : 0 < n) (h1 : n ≤ vs.length) (h2 : vs.length ≤ 64)
    (k : ∀ h' kf, h.length ≤ kf → Ext [] h h' → h'[kf]? = some (.list ((List.range n).flatMap fun (p : Nat) => picks p n vs)) → Q (.ref kf) h') : WCall f_turned [.ref kb, .int n] h Q := by
  refine callW (by rfl) (by rfl) ?_
  unfold b_turned
  (repeat (first | (apply ws_of; (· exact qs_nil)) | refine s_assign ?_ | refine w_list ?_))
  refine ⟨by decide, ?_⟩
  refine s_for0 (I := fun i l h' => (∃ p, l = [some (.ref kb), some (.int n), some (.ref h.length), p]) ∧ Ext [] h h' ∧ h'[h.length]? = some (.list ((List.range i).flatMap fun (p : Nat) => picks p n vs))) fun I' into out Q' kQ => ?_
  (repeat (first | (apply ws_of; (· exact qs_cons (by exact q_loc (by rfl)) (by exact qs_nil))) | refine w_bi ?_))
  refine pBi .range1 (kQ _ _ (ritems 0 n 1) (fun u1 u2 u3 u4 => items_rng (by lia)) (into _ _ _ ⟨⟨_, rfl⟩, (Ext.refl h).push _, get_last _ _⟩) ?_ ?_)
  · intro i v l h' hI hv R' kR
    have kR := fun l h q => kR l h (into _ l h q)
    obtain ⟨⟨p, rfl⟩, hx, hf⟩ := out _ _ _ hI
    obtain ⟨hi, rfl⟩ := ritems_get hv
    (repeat (first | (apply w_of; (· exact q_loc (by rfl))) | refine s_expr ?_ | refine w_slice3 ?_ | refine w_ext ?_))
    have e1 := hx.get e
    refine pSl3 e1 (by (exact Int.natCast_nonneg _)) (by lia) (by lia) (by (simp [lim]; lia)) (by (simp [lim]; with_reducible exact Nat.le_trans (by assumption) (by decide))) ?_
    have hz := turned_len (vs := vs) h0 i
    have hz2 : i * vs.length ≤ 64 * 64 := Nat.mul_le_mul (by lia) h2
    have hz3 := picks_len (a := (i : Int)) (k := n) (vs := vs) (by (exact Int.natCast_nonneg _)) (by lia)
    have hlt := lt_of hf
    refine pExt hf (get_push hf) (get_last _ _) (by lia) (by unfold lim; lia) ⟨rfl, ?_⟩
    (repeat (refine s_nil ?_))
    refine kR _ _ ⟨⟨_, rfl⟩, (hx.push _).set_new _ (Nat.le_refl _), ?_⟩
    rw [get_set (get_push hf), List.range_succ, List.flatMap_append]
    simp
  · intro l h' hI
    obtain ⟨⟨p, rfl⟩, hx, hf⟩ := out _ _ _ hI
    rw [ritems_len] at hf
    (repeat (first | (apply w_of; (· exact q_loc (by rfl))) | refine s_ret ?_))
    exact k h' _ (Nat.le_refl _) hx hf


theorem c_inverse_row {kr : Nat} {a d : Int} (e : h[kr]? = some (.list (DC a 8))) (h1 : a.natAbs < 2 ^ 50) (h2 : 1 ≤ d) (h3 : d ≤ 100)
    (k : ∀ h' kf, h.length ≤ kf → Ext [] h h' → h'[kf]? = some (.list (List.replicate 8 (.int ((a * 8192 + 1 * 2 ^ (d - 1).toNat).fdiv (2 ^ d.toNat))))) → Q (.ref kf) h') : WCall f_inverse_row [.ref kr, .int d] h Q := by
  have e : h[kr]? = some (.list [.int a, .int 0, .int 0, .int 0, .int 0, .int 0, .int 0, .int 0]) := e
  refine callW (by rfl) (by rfl) ?_
  unfold b_inverse_row
  repeat (first | (apply w_of; (· exact q_loc (by rfl))) | (apply w_of; (· exact q_int)) | (apply ws_of; (· exact qs_nil)) | refine w_call ?_ | refine w_cons ?_ | refine s_assign ?_ | refine w_item ?_ | (refine i_list (by assumption) (by decide) (by rfl) (by (simp [lim]; done)) ?_))
  refine c_even (by (with_reducible exact Nat.lt_of_le_of_lt (by exact Nat.le_of_lt (by assumption)) (by decide))) ?_
  repeat (first | (apply w_of; (· exact q_loc (by rfl))) | (apply w_of; (· exact q_int)) | (apply ws_of; (· exact qs_nil)) | refine w_call ?_ | refine w_cons ?_ | refine s_unpack ?_ | refine w_item ?_ | (refine i_list (by assumption) (by decide) (by rfl) (by (simp [lim]; done)) ?_))
  refine c_odd ?_
  refine pUnp rfl (fun u1 u2 u3 => by simp) rfl ?_
  repeat (first | (apply w_of; (· exact q_loc (by rfl))) | (apply w_of; (· exact q_int)) | (apply ws_of; (· exact qs_nil)) | refine w_bin ?_ | refine w_cons ?_ | refine o_add ?_ | refine s_assign ?_ | refine w_list ?_ | refine w_item ?_ | (refine i_tup (by decide) (by rfl) (by (simp [lim]; done)) ?_))
  refine ⟨by (simp [lim]; done), ?_⟩
  repeat (first | (apply w_of; (· exact q_loc (by rfl))) | (apply w_of; (· exact q_int)) | (apply ws_of; (· exact qs_nil)) | refine w_bin ?_ | refine w_cons ?_ | refine o_sub ?_ | refine s_assign ?_ | refine w_list ?_ | refine w_item ?_ | (refine i_tup (by decide) (by rfl) (by (simp [lim]; done)) ?_))
  refine ⟨by (simp [lim]; done), ?_⟩
  repeat (first | refine s_ret ?_ | fail)
  refine w_map (f := fun u1 => .int ((a * 8192 + 1 * 2 ^ (d - 1).toNat).fdiv (2 ^ d.toNat))) fun Q' kQ => ?_
  repeat (first | (apply w_of; (· exact q_loc (by rfl))) | refine w_bin ?_ | fail)
  refine o_addL (get_push (get_last _ _)) (get_last _ _) (by (simp [lim]; done)) ?_
  refine kQ _ _ _ (by simp only [items, get_last]; rfl) (by (simp [lim]; done)) ?_ ?_
  · intro v hv P' kP
    have : v = .int (a * 8192) := (List.mem_replicate.mp (show v ∈ List.replicate 8 _ from hv)).2.trans (congrArg MV.int (Int.add_zero _))
    subst this
    repeat (first | (apply ws_of; (· exact qs_cons (by exact q_loc (by rfl)) (by exact qs_cons (by exact q_loc (by rfl)) (by exact qs_nil)))) | refine w_call ?_ | fail)
    exact c_descaled h2 (by (with_reducible exact Int.le_trans (by assumption) (by decide))) kP
  · exact k _ _ (by simp) (((((Ext.refl h).push _).push _).push _).push _) (get_last _ _)

end
/-! LC -/
section
set_option maxRecDepth 4000
set_option linter.unusedVariables false

variable {h : MH} {Q : MV → MH → Prop}

theorem map_range_eq {m : Nat} {F G : Nat → MV} (e : ∀ i < m, F i = G i) : (List.range m).map F = (List.range m).map G := List.map_congr_left fun i hi => e i (List.mem_range.mp hi)
theorem slice_map {m a b : Nat} {F : Nat → MV} (hm : a + b ≤ m) : (((List.range m).map F).drop a).take b = (List.range b).map fun j => F (a + j) := by
  apply List.ext_getElem?
  intro i
  rw [List.getElem?_take]
  by_cases hi : i < b
  · rw [if_pos hi, List.getElem?_drop]
    simp [hi, show a + i < m by lia]
  · rw [if_neg hi, List.getElem?_eq_none (by simp; (with_reducible exact Nat.ge_of_not_lt (by assumption)))]
theorem append_map {a b : Nat} {F : Nat → MV} : (List.range a).map F ++ (List.range b).map (fun j => F (a + j)) = (List.range (a + b)).map F := by
  rw [List.range_add, List.map_append, List.map_map]; rfl
theorem repl_map {m : Nat} {v : MV} : List.replicate m v = (List.range m).map fun u1 => v := by
  apply List.ext_getElem?
  intro i
  rw [List.getElem?_replicate, List.getElem?_map]
  by_cases hi : i < m <;> simp [hi]
theorem tr8 : (List.range 8).flatMap (fun (p : Nat) => picksN p 8 (List.range 64)) = (List.range 64).map fun i => 8 * (i % 8) + i / 8 := by decide +kernel
theorem tr4 : (List.range 4).flatMap (fun (p : Nat) => picksN p 4 (List.range 16)) = (List.range 16).map fun i => 4 * (i % 4) + i / 4 := by decide +kernel
theorem turned8 (F : Nat → MV) : (List.range 8).flatMap (fun (p : Nat) => picks p (8 : Nat) ((List.range 64).map F)) = (List.range 64).map fun i => F (8 * (i % 8) + i / 8) := by
  have e : ∀ p : Nat, picks p (8 : Nat) ((List.range 64).map F) = (picksN p 8 (List.range 64)).map F := fun p => by rw [picks_map]; rfl
  simp only [e]
  rw [← List.map_flatMap, tr8, List.map_map]; rfl
theorem turned4 (F : Nat → MV) : (List.range 4).flatMap (fun (p : Nat) => picks p (4 : Nat) ((List.range 16).map F)) = (List.range 16).map fun i => F (4 * (i % 4) + i / 4) := by
  have e : ∀ p : Nat, picks p (4 : Nat) ((List.range 16).map F) = (picksN p 4 (List.range 16)).map F := fun p => by rw [picks_map]; rfl
  simp only [e]
  rw [← List.map_flatMap, tr4, List.map_map]; rfl

/-- what a descaling does -/
noncomputable def ds (x b : Int) : Int := (x + 1 * 2 ^ (b - 1).toNat).fdiv (2 ^ b.toNat)
theorem ds_first (v : Int) : ds (v * 8192) 11 = 4 * v := by
  unfold ds
  rw [Int.fdiv_eq_ediv_of_nonneg _ (by decide)]
  show (v * 8192 + 1 * 1024) / 2048 = 4 * v
  lia
theorem rits8 : ritems 0 64 8 = (List.range 8).map fun (i : Nat) => MV.int (8 * (i : Int)) := by rfl
theorem rits4 : ritems 0 16 4 = (List.range 4).map fun (i : Nat) => MV.int (4 * (i : Int)) := by rfl
theorem rit8 {i : Nat} {v : MV} (hv : (ritems 0 64 8)[i]? = some v) : i < 8 ∧ v = .int (8 * (i : Int)) := by
  rw [rits8, List.getElem?_map] at hv
  by_cases h : i < 8
  · rw [List.getElem?_range h] at hv; simp at hv; exact ⟨h, hv.symm⟩
  · rw [List.getElem?_eq_none (by simp; (with_reducible exact Nat.ge_of_not_lt (by assumption)))] at hv; simp at hv
theorem ritems_l8 : (ritems 0 64 8).length = 8 := by rw [rits8]; simp
theorem ritems_l4 : (ritems 0 16 4).length = 4 := by rw [rits4]; simp
theorem rit4 {i : Nat} {v : MV} (hv : (ritems 0 16 4)[i]? = some v) : i < 4 ∧ v = .int (4 * (i : Int)) := by
  rw [rits4, List.getElem?_map] at hv
  by_cases h : i < 4
  · rw [List.getElem?_range h] at hv; simp at hv; exact ⟨h, hv.symm⟩
  · rw [List.getElem?_eq_none (by simp; (with_reducible exact Nat.ge_of_not_lt (by assumption)))] at hv; simp at hv
theorem DC8 (a : Int) {F : Nat → MV} (e : ∀ j < 8, F j = .int (if j = 0 then a else 0)) : (List.range 8).map F = DC a 8 := by
  rw [map_range_eq e]; rfl

theorem c_islow {ks kb : Nat} {V : Int} (e : h[kb]? = some (.list (DC V 64))) (h1 : V.natAbs < 2 ^ 40)
    (k : ∀ h' kf, h.length ≤ kf → Ext [] h h' → h'[kf]? = some (.list (List.replicate 64 (.int ((V + 4).fdiv 8)))) → Q (.ref kf) h') : WCall f_IslowDct_inverse [.ref ks, .ref kb] h Q := by
  refine callW (by rfl) (by rfl) ?_
  unfold b_IslowDct_inverse
  rw [DC_map V (by decide)] at e
  (repeat (first | (apply ws_of; (· exact qs_cons (by exact q_loc (by rfl)) (by exact qs_cons (by exact q_gint (by rfl)) (by exact qs_nil)))) | refine w_call ?_ | refine s_assign ?_))
  refine c_turned (n := 8) e (by decide) (by simp) (by simp) fun g ka n1 x1 ea => ?_
  rw [turned8] at ea
  have hlt := lt_of ea
  (repeat (first | (apply ws_of; (· exact qs_nil)) | refine s_assign ?_ | refine w_list ?_))
  refine ⟨by decide, ?_⟩
  skip
  refine s_for0 (I := fun i l h' => (∃ p, l = [some (.ref ks), some (.ref kb), some (.ref ka), some (.ref g.length), p]) ∧ Ext [] g h' ∧ h'[g.length]? = some (.list ((List.range (8 * i)).map fun j => .int (ds ((if j / 8 = 0 then V else 0) * 8192) 11)))) fun I' into out Q' kQ => ?_
  (repeat (first | (apply ws_of; (· exact qs_cons (by exact q_int) (by exact qs_cons (by (apply q_mul; (· exact q_gint (by rfl)); (· exact q_gint (by rfl)); (· (unfold big; decide)))) (by exact qs_cons (by exact q_gint (by rfl)) (by exact qs_nil))))) | refine w_bi ?_))
  refine pBi (.range3 (by decide)) (kQ _ _ _ (fun u1 u2 u3 u4 => by rfl) (into _ _ _ ⟨⟨_, rfl⟩, (Ext.refl g).push _, get_last _ _⟩) ?_ ?_)
  · intro i v l h' hI hv R' kR
    have kR := fun l h q => kR l h (into _ l h q)
    obtain ⟨⟨p, rfl⟩, hx, hf⟩ := out _ _ _ hI
    obtain ⟨hi, rfl⟩ : i < 8 ∧ v = .int (8 * (i : Int)) := rit8 hv
    have ea' := hx.get ea
    (repeat (first | (apply w_of; (· exact q_loc (by rfl))) | (apply w_of; (· (apply q_add; (· exact q_loc (by rfl)); (· exact q_gint (by rfl))))) | refine w_call ?_ | refine w_cons ?_ | refine s_expr ?_ | refine w_slice2 ?_ | refine w_ext ?_))
    refine pSl2 ea' (by lia) (by lia) ?_ (by (simp [lim]; done)) ?_
    · simp; lia
    have e1 : (List.take (8 * (i : Int) + 8 - 8 * (i : Int)).toNat (List.drop (8 * (i : Int)).toNat (List.map (fun i => if 8 * (i % 8) + i / 8 = 0 then MV.int V else MV.int 0) (List.range 64)))) = DC (if i = 0 then V else 0) 8 := by
      have e2 : (8 * (i : Int) + 8 - 8 * (i : Int)).toNat = 8 := by lia
      have e3 : (8 * (i : Int)).toNat = 8 * i := by (exact rfl)
      rw [e2, e3, slice_map (by lia)]
      refine DC8 _ fun j hj => ?_
      by_cases h0 : i = 0
      · subst h0
        by_cases hj0 : j = 0
        · subst hj0; rfl
        · rw [if_neg (by lia), if_neg hj0]
      · rw [if_neg (by lia), if_neg h0]; simp
    rw [e1]
    (repeat (apply ws_of; (· exact qs_cons (by (apply q_sub; (· exact q_gint (by rfl)); (· exact q_gint (by rfl)))) (by exact qs_nil))))
    refine c_inverse_row (get_last _ _) (by split <;> (first | decide | with_reducible exact Nat.lt_of_le_of_lt (by exact Nat.le_of_lt (by assumption)) (by decide))) (by decide) (by decide) fun h2 kf n2 x2 e2 => ?_
    have hlt2 := lt_of hf
    have hf2 := x2.get (get_push (o := .list (DC (if i = 0 then V else 0) 8)) hf)
    refine pExt hf hf2 e2 ?_ ?_ ⟨rfl, ?_⟩
    · simp at n2; lia
    · simp [lim]; lia
    (repeat (refine s_nil ?_))
    refine kR _ _ ⟨⟨_, rfl⟩, ?_, ?_⟩
    · exact ((hx.push _).trans x2).set_new _ (Nat.le_refl _)
    · rw [get_set hf2, repl_map, show 8 * (i + 1) = 8 * i + 8 by (exact rfl), ← append_map]
      refine congrArg (fun z => some (MO.list (_ ++ z))) ?_
      refine map_range_eq fun j hj => ?_
      have e4 : (8 * i + j) / 8 = i := by lia
      rw [e4]; rfl
  · intro l h' hI
    obtain ⟨⟨p, rfl⟩, hx, hf⟩ := out _ _ _ hI
    (repeat (first | (apply ws_of; (· exact qs_cons (by exact q_loc (by rfl)) (by exact qs_cons (by exact q_gint (by rfl)) (by exact qs_nil)))) | refine w_call ?_ | refine s_assign ?_))
    have hf : h'[g.length]? = some (MO.list ((List.range 64).map fun j => .int (ds ((if j / 8 = 0 then V else 0) * 8192) 11))) := hf
    refine c_turned (n := 8) hf (by decide) (by simp) (by simp) fun g2 ka2 n3 x3 ea2 => ?_
    rw [turned8] at ea2
    have hlt2 := lt_of ea2
    (repeat (first | (apply ws_of; (· exact qs_nil)) | refine s_assign ?_ | refine w_list ?_))
    refine ⟨by decide, ?_⟩
    skip
    refine s_for0 (I := fun i l h' => (∃ p, l = [some (.ref ks), some (.ref kb), some (.ref ka2), some (.ref g2.length), p]) ∧ Ext [] g2 h' ∧ h'[g2.length]? = some (.list ((List.range (8 * i)).map fun j => .int (ds (4 * V * 8192) 18)))) fun I' into out Q' kQ => ?_
    (repeat (first | (apply ws_of; (· exact qs_cons (by exact q_int) (by exact qs_cons (by (apply q_mul; (· exact q_gint (by rfl)); (· exact q_gint (by rfl)); (· (unfold big; decide)))) (by exact qs_cons (by exact q_gint (by rfl)) (by exact qs_nil))))) | refine w_bi ?_))
    refine pBi (.range3 (by decide)) (kQ _ _ _ (fun u1 u2 u3 u4 => by rfl) (into _ _ _ ⟨⟨_, rfl⟩, (Ext.refl g2).push _, get_last _ _⟩) ?_ ?_)
    · intro i v l h3 hI hv R' kR
      have kR := fun l h q => kR l h (into _ l h q)
      obtain ⟨⟨p, rfl⟩, hx3, hf3⟩ := out _ _ _ hI
      obtain ⟨hi, rfl⟩ : i < 8 ∧ v = .int (8 * (i : Int)) := rit8 hv
      have ea' := hx3.get ea2
      (repeat (first | (apply w_of; (· exact q_loc (by rfl))) | (apply w_of; (· (apply q_add; (· exact q_loc (by rfl)); (· exact q_gint (by rfl))))) | refine w_call ?_ | refine w_cons ?_ | refine s_expr ?_ | refine w_slice2 ?_ | refine w_ext ?_))
      refine pSl2 ea' (by lia) (by lia) ?_ (by (simp [lim]; done)) ?_
      · simp; lia
      have e1 : (List.take (8 * (i : Int) + 8 - 8 * (i : Int)).toNat (List.drop (8 * (i : Int)).toNat (List.map (fun i => MV.int (ds ((if (8 * (i % 8) + i / 8) / 8 = 0 then V else 0) * 8192) 11)) (List.range 64)))) = DC (4 * V) 8 := by
        have e2 : (8 * (i : Int) + 8 - 8 * (i : Int)).toNat = 8 := by lia
        have e3 : (8 * (i : Int)).toNat = 8 * i := by (exact rfl)
        rw [e2, e3, slice_map (by lia)]
        refine DC8 _ fun j hj => ?_
        have m1 : (8 * i + j) % 8 = j := by lia
        have m2 : (8 * i + j) / 8 = i := by lia
        have m3 : (8 * j + i) / 8 = j := by lia
        rw [m1, m2, m3]
        by_cases h0 : j = 0
        · rw [if_pos h0, if_pos h0, ds_first]
        · rw [if_neg h0, if_neg h0]; rfl
      rw [e1]
      (repeat (apply ws_of; (· exact qs_cons (by (apply q_add; (· (apply q_add; (· exact q_gint (by rfl)); (· exact q_gint (by rfl)))); (· exact q_gint (by rfl)))) (by exact qs_nil))))
      refine c_inverse_row (get_last _ _) (by (with_reducible exact Nat.lt_of_le_of_lt (by exact nab_mul (by exact Nat.le_refl _) (by exact Nat.le_of_lt (by assumption))) (by decide))) (by decide) (by decide) fun h2 kf n2 x2 e2 => ?_
      have hlt3 := lt_of hf3
      have hf2 := x2.get (get_push (o := .list (DC (4 * V) 8)) hf3)
      refine pExt hf3 hf2 e2 ?_ ?_ ⟨rfl, ?_⟩
      · simp at n2; lia
      · simp [lim]; lia
      (repeat (refine s_nil ?_))
      refine kR _ _ ⟨⟨_, rfl⟩, ?_, ?_⟩
      · exact ((hx3.push _).trans x2).set_new _ (Nat.le_refl _)
      · rw [get_set hf2, repl_map, show 8 * (i + 1) = 8 * i + 8 by (exact rfl), ← append_map]
        rfl
    · intro l h3 hI
      obtain ⟨⟨p, rfl⟩, hx3, hf3⟩ := out _ _ _ hI
      have hf3 : h3[g2.length]? = some (MO.list ((List.range 64).map fun j => .int (ds (4 * V * 8192) 18))) := hf3
      (repeat (first | (apply w_of; (· exact q_loc (by rfl))) | refine s_ret ?_))
      refine k h3 _ ?_ (((x1.trans hx).trans x3).trans hx3) ?_
      · have := lt_of hf; have := lt_of (x1.get e); lia
      · rw [hf3, repl_map]
        have : ds (4 * V * 8192) 18 = (V + 4).fdiv 8 := by
          unfold ds
          rw [Int.fdiv_eq_ediv_of_nonneg _ (by decide), Int.fdiv_eq_ediv_of_nonneg _ (by decide)]
          show (4 * V * 8192 + 1 * 131072) / 262144 = (V + 4) / 8
          lia
        rw [this]

end
/-! LD -/
section
set_option maxRecDepth 4000
set_option linter.unusedVariables false

variable {h : MH} {Q : MV → MH → Prop}

theorem get_map {m i : Nat} {F : Nat → MV} (hi : i < m) : ((List.range m).map F)[i]? = some (F i) := by simp [hi]

theorem c_four {ks kb : Nat} {V : Int} (e : h[kb]? = some (.list (DC V 16))) (h1 : V.natAbs < 2 ^ 40)
    (k : ∀ h' kf, h.length ≤ kf → Ext [] h h' → h'[kf]? = some (.list (List.replicate 16 (.int ((V + 2).fdiv 4)))) → Q (.ref kf) h') : WCall f_FourDct_inverse [.ref ks, .ref kb] h Q := by
  refine callW (by rfl) (by rfl) ?_
  unfold b_FourDct_inverse
  rw [DC_map V (by decide)] at e
  (repeat (first | (apply ws_of; (· exact qs_cons (by exact q_loc (by rfl)) (by exact qs_cons (by exact q_gint (by rfl)) (by exact qs_nil)))) | refine w_call ?_ | refine s_assign ?_))
  refine c_turned (n := 4) e (by decide) (by simp) (by simp) fun g ka n1 x1 ea => ?_
  rw [turned4] at ea
  have hlt := lt_of ea
  (repeat (first | (apply ws_of; (· exact qs_nil)) | refine s_assign ?_ | refine w_list ?_))
  refine ⟨by decide, ?_⟩
  skip
  refine s_for0 (I := fun i l h' => (∃ u : Nat → Option MV, l = [some (.ref ks), some (.ref kb), some (.ref ka), some (.ref g.length), u 4, u 5]) ∧ Ext [] g h' ∧ h'[g.length]? = some (.list ((List.range (4 * i)).map fun j => .int (ds ((if j / 4 = 0 then V else 0) * 8192) 11)))) fun I' into out Q' kQ => ?_
  (repeat (first | (apply ws_of; (· exact qs_cons (by exact q_int) (by exact qs_cons (by (apply q_mul; (· exact q_gint (by rfl)); (· exact q_gint (by rfl)); (· (unfold big; decide)))) (by exact qs_cons (by exact q_gint (by rfl)) (by exact qs_nil))))) | refine w_bi ?_))
  refine pBi (.range3 (by decide)) (kQ _ _ _ (fun u1 u2 u3 u4 => by rfl) (into _ _ _ ⟨(fr rfl), (Ext.refl g).push _, get_last _ _⟩) ?_ ?_)
  · intro i v l h' hI hv R' kR
    have kR := fun l h q => kR l h (into _ l h q)
    obtain ⟨⟨u, rfl⟩, hx, hf⟩ := out _ _ _ hI
    obtain ⟨hi, rfl⟩ : i < 4 ∧ v = .int (4 * (i : Int)) := rit4 hv
    have ea' := hx.get ea
    have g0 : ∀ j : Nat, j < 4 → (List.map (fun i => if 4 * (i % 4) + i / 4 = 0 then MV.int V else MV.int 0) (List.range 16))[4 * i + j]? = some (.int (if i = 0 ∧ j = 0 then V else 0)) := fun j hj => by
      rw [get_map (by lia)]
      have m1 : (4 * i + j) % 4 = j := by lia
      have m2 : (4 * i + j) / 4 = i := by lia
      rw [m1, m2]
      by_cases hz : i = 0 ∧ j = 0
      · rw [if_pos (by lia), if_pos hz]
      · rw [if_neg (by lia), if_neg hz]
    (repeat (first | (apply w_of; (· exact q_loc (by rfl))) | refine w_call ?_ | refine w_cons ?_ | refine s_assign ?_ | refine w_item ?_))
    refine i_list ea' (by lia) (by rw [show (4 * (i : Int)).toNat = 4 * i + 0 by (exact rfl)]; exact g0 0 (by decide)) (by (simp [lim]; done)) ?_
    (repeat (first | (apply w_of; (· exact q_loc (by rfl))) | (apply w_of; (· (apply q_add; (· exact q_loc (by rfl)); (· exact q_int)))) | refine w_cons ?_ | refine w_item ?_))
    refine i_list ea' (by lia) (by rw [show (4 * (i : Int) + 2).toNat = 4 * i + 2 by (exact rfl), g0 2 (by decide), if_neg (by lia)]) (by (simp [lim]; done)) ?_
    (repeat (first | (apply w_of; (· exact q_loc (by rfl))) | (apply w_of; (· (apply q_add; (· exact q_loc (by rfl)); (· exact q_int)))) | refine w_cons ?_ | refine w_item ?_))
    refine i_list ea' (by lia) (by rw [show (4 * (i : Int) + 1).toNat = 4 * i + 1 by (exact rfl), g0 1 (by decide), if_neg (by lia)]) (by (simp [lim]; done)) ?_
    (repeat (first | (apply w_of; (· exact q_loc (by rfl))) | (apply w_of; (· (apply q_add; (· exact q_loc (by rfl)); (· exact q_int)))) | refine w_cons ?_ | refine w_item ?_))
    refine i_list ea' (by lia) (by rw [show (4 * (i : Int) + 3).toNat = 4 * i + 3 by (exact rfl), g0 3 (by decide), if_neg (by lia)]) (by (simp [lim]; done)) ?_
    (repeat (apply ws_of; (· exact qs_nil)))
    refine c_even (by split <;> (first | decide | with_reducible exact Nat.lt_of_le_of_lt (by exact Nat.le_of_lt (by assumption)) (by decide))) ?_
    (repeat (first | (apply w_of; (· exact q_loc (by rfl))) | refine s_expr ?_ | refine w_ext ?_))
    refine w_map (f := fun u1 => .int (ds ((if i = 0 ∧ 0 = 0 then V else 0) * 8192) 11)) fun Q' kQ => ?_
    (repeat (apply w_of; (· exact q_loc (by rfl))))
    refine kQ _ _ _ rfl (by (simp [lim]; done)) ?_ ?_
    · intro v hv P' kP
      have : v = .int ((if i = 0 ∧ 0 = 0 then V else 0) * 8192) := (List.mem_replicate.mp (show v ∈ List.replicate 4 _ from hv)).2
      subst this
      (repeat (first | (apply ws_of; (· exact qs_cons (by exact q_loc (by rfl)) (by exact qs_cons (by (apply q_sub; (· exact q_gint (by rfl)); (· exact q_gint (by rfl)))) (by exact qs_nil)))) | refine w_call ?_))
      exact c_descaled (by decide) (by decide) kP
    have hlt2 := lt_of hf
    refine pExt hf (get_push hf) (get_last _ _) (by lia) (by simp [lim]; lia) ⟨rfl, ?_⟩
    (repeat (refine s_nil ?_))
    refine kR _ _ ⟨(fr rfl), (hx.push _).set_new _ (Nat.le_refl _), ?_⟩
    rw [get_set (get_push hf), show 4 * (i + 1) = 4 * i + 4 by (exact rfl), ← append_map]
    refine congrArg (fun z => some (MO.list (_ ++ z))) ?_
    show List.replicate 4 _ = _
    rw [repl_map]
    refine map_range_eq fun j hj => ?_
    have e4 : (4 * i + j) / 4 = i := by lia
    rw [e4]; simp
  · intro l h' hI
    obtain ⟨⟨u, rfl⟩, hx, hf⟩ := out _ _ _ hI
    have hf : h'[g.length]? = some (MO.list ((List.range 16).map fun j => .int (ds ((if j / 4 = 0 then V else 0) * 8192) 11))) := hf
    (repeat (first | (apply ws_of; (· exact qs_cons (by exact q_loc (by rfl)) (by exact qs_cons (by exact q_gint (by rfl)) (by exact qs_nil)))) | refine w_call ?_ | refine s_assign ?_))
    refine c_turned (n := 4) hf (by decide) (by simp) (by simp) fun g2 ka2 n3 x3 ea2 => ?_
    rw [turned4] at ea2
    have hlt2 := lt_of ea2
    (repeat (first | (apply ws_of; (· exact qs_nil)) | refine s_assign ?_ | refine w_list ?_))
    refine ⟨by decide, ?_⟩
    skip
    refine s_for0 (I := fun i l h' => (∃ u : Nat → Option MV, l = [some (.ref ks), some (.ref kb), some (.ref ka2), some (.ref g2.length), u 4, u 5]) ∧ Ext [] g2 h' ∧ h'[g2.length]? = some (.list ((List.range (4 * i)).map fun j => .int (ds (4 * V * 8192) 17)))) fun I' into out Q' kQ => ?_
    (repeat (first | (apply ws_of; (· exact qs_cons (by exact q_int) (by exact qs_cons (by (apply q_mul; (· exact q_gint (by rfl)); (· exact q_gint (by rfl)); (· (unfold big; decide)))) (by exact qs_cons (by exact q_gint (by rfl)) (by exact qs_nil))))) | refine w_bi ?_))
    refine pBi (.range3 (by decide)) (kQ _ _ _ (fun u1 u2 u3 u4 => by rfl) (into _ _ _ ⟨(fr rfl), (Ext.refl g2).push _, get_last _ _⟩) ?_ ?_)
    · intro i v l h3 hI hv R' kR
      have kR := fun l h q => kR l h (into _ l h q)
      obtain ⟨⟨u, rfl⟩, hx3, hf3⟩ := out _ _ _ hI
      obtain ⟨hi, rfl⟩ : i < 4 ∧ v = .int (4 * (i : Int)) := rit4 hv
      have ea' := hx3.get ea2
      have g0 : ∀ j : Nat, j < 4 → (List.map (fun i => MV.int (ds ((if (4 * (i % 4) + i / 4) / 4 = 0 then V else 0) * 8192) 11)) (List.range 16))[4 * i + j]? = some (.int (if j = 0 then 4 * V else 0)) := fun j hj => by
        rw [get_map (by lia)]
        have m1 : (4 * i + j) % 4 = j := by lia
        have m2 : (4 * i + j) / 4 = i := by lia
        have m3 : (4 * j + i) / 4 = j := by lia
        rw [m1, m2, m3]
        by_cases h0 : j = 0
        · rw [if_pos h0, if_pos h0, ds_first]
        · rw [if_neg h0, if_neg h0]; rfl
      (repeat (first | (apply w_of; (· exact q_loc (by rfl))) | refine w_call ?_ | refine w_cons ?_ | refine s_assign ?_ | refine w_item ?_))
      refine i_list ea' (by lia) (by rw [show (4 * (i : Int)).toNat = 4 * i + 0 by (exact rfl)]; exact g0 0 (by decide)) (by (simp [lim]; done)) ?_
      (repeat (first | (apply w_of; (· exact q_loc (by rfl))) | (apply w_of; (· (apply q_add; (· exact q_loc (by rfl)); (· exact q_int)))) | refine w_cons ?_ | refine w_item ?_))
      refine i_list ea' (by lia) (by rw [show (4 * (i : Int) + 2).toNat = 4 * i + 2 by (exact rfl)]; exact g0 2 (by decide)) (by (simp [lim]; done)) ?_
      (repeat (first | (apply w_of; (· exact q_loc (by rfl))) | (apply w_of; (· (apply q_add; (· exact q_loc (by rfl)); (· exact q_int)))) | refine w_cons ?_ | refine w_item ?_))
      refine i_list ea' (by lia) (by rw [show (4 * (i : Int) + 1).toNat = 4 * i + 1 by (exact rfl)]; exact g0 1 (by decide)) (by (simp [lim]; done)) ?_
      (repeat (first | (apply w_of; (· exact q_loc (by rfl))) | (apply w_of; (· (apply q_add; (· exact q_loc (by rfl)); (· exact q_int)))) | refine w_cons ?_ | refine w_item ?_))
      refine i_list ea' (by lia) (by rw [show (4 * (i : Int) + 3).toNat = 4 * i + 3 by (exact rfl)]; exact g0 3 (by decide)) (by (simp [lim]; done)) ?_
      (repeat (apply ws_of; (· exact qs_nil)))
      refine c_even (a := 4 * V) (by (with_reducible exact Nat.lt_of_le_of_lt (by exact nab_mul (by exact Nat.le_refl _) (by exact Nat.le_of_lt (by assumption))) (by decide))) ?_
      (repeat (first | (apply w_of; (· exact q_loc (by rfl))) | refine s_expr ?_ | refine w_ext ?_))
      refine w_map (f := fun u1 => .int (ds (4 * V * 8192) 17)) fun Q' kQ => ?_
      (repeat (apply w_of; (· exact q_loc (by rfl))))
      refine kQ _ _ _ rfl (by (simp [lim]; done)) ?_ ?_
      · intro v hv P' kP
        have : v = .int (4 * V * 8192) := (List.mem_replicate.mp (show v ∈ List.replicate 4 _ from hv)).2
        subst this
        (repeat (first | (apply ws_of; (· exact qs_cons (by exact q_loc (by rfl)) (by exact qs_cons (by (apply q_add; (· (apply q_add; (· exact q_gint (by rfl)); (· exact q_gint (by rfl)))); (· exact q_int))) (by exact qs_nil)))) | refine w_call ?_))
        exact c_descaled (by decide) (by decide) kP
      have hlt3 := lt_of hf3
      refine pExt hf3 (get_push hf3) (get_last _ _) (by lia) (by simp [lim]; lia) ⟨rfl, ?_⟩
      (repeat (refine s_nil ?_))
      refine kR _ _ ⟨(fr rfl), (hx3.push _).set_new _ (Nat.le_refl _), ?_⟩
      rw [get_set (get_push hf3), show 4 * (i + 1) = 4 * i + 4 by (exact rfl), ← append_map]
      refine congrArg (fun z => some (MO.list (_ ++ z))) ?_
      show List.replicate 4 _ = _
      rw [repl_map]
    · intro l h3 hI
      obtain ⟨⟨u, rfl⟩, hx3, hf3⟩ := out _ _ _ hI
      have hf3 : h3[g2.length]? = some (MO.list ((List.range 16).map fun j => .int (ds (4 * V * 8192) 17))) := hf3
      (repeat (first | (apply w_of; (· exact q_loc (by rfl))) | refine s_ret ?_))
      refine k h3 _ ?_ (((x1.trans hx).trans x3).trans hx3) ?_
      · have := lt_of hf; have := lt_of (x1.get e); lia
      · rw [hf3, repl_map]
        have : ds (4 * V * 8192) 17 = (V + 2).fdiv 4 := by
          unfold ds
          rw [Int.fdiv_eq_ediv_of_nonneg _ (by decide), Int.fdiv_eq_ediv_of_nonneg _ (by decide)]
          show (4 * V * 8192 + 1 * 65536) / 131072 = (V + 2) / 4
          lia
        rw [this]

end
/-! LE -/
section
set_option maxRecDepth 4000
set_option linter.unusedVariables false

variable {h : MH} {Q : MV → MH → Prop}

theorem c_sums {ks kb : Nat} {V : Int} (e : h[kb]? = some (.list (DC V 4)))
    (k : Q (.ref h.length) (h ++ [.list (List.replicate 4 (.int V))])) : WCall f_TwoDct_sums [.ref ks, .ref kb] h Q := by
  refine callW (by rfl) (by rfl) ?_
  unfold b_TwoDct_sums
  (repeat (first | (apply w_of; (· exact q_loc (by rfl))) | refine s_unpack ?_))
  refine pUnp (by simp only [items, e]; rfl) (fun u1 u2 u3 => by simp) rfl ?_
  (repeat (first | (apply ws_of; (· exact qs_cons (by (apply q_add; (· (apply q_add; (· (apply q_add; (· exact q_loc (by rfl)); (· exact q_loc (by rfl)))); (· exact q_loc (by rfl)))); (· exact q_loc (by rfl)))) (by exact qs_cons (by (apply q_sub; (· (apply q_add; (· (apply q_sub; (· exact q_loc (by rfl)); (· exact q_loc (by rfl)))); (· exact q_loc (by rfl)))); (· exact q_loc (by rfl)))) (by exact qs_cons (by (apply q_sub; (· (apply q_sub; (· (apply q_add; (· exact q_loc (by rfl)); (· exact q_loc (by rfl)))); (· exact q_loc (by rfl)))); (· exact q_loc (by rfl)))) (by exact qs_cons (by (apply q_add; (· (apply q_sub; (· (apply q_sub; (· exact q_loc (by rfl)); (· exact q_loc (by rfl)))); (· exact q_loc (by rfl)))); (· exact q_loc (by rfl)))) (by exact qs_nil)))))) | refine s_ret ?_ | refine w_list ?_))
  refine ⟨by (simp [lim]; done), cast rfl ?_ k⟩
  simp
theorem c_two {ks kb : Nat} {V : Int} (e : h[kb]? = some (.list (DC V 4))) (es : h[ks]? = some (.inst 5 []))
    (k : ∀ h' kf, h.length ≤ kf → Ext [] h h' → h'[kf]? = some (.list (List.replicate 4 (.int ((V + 1).fdiv 2)))) → Q (.ref kf) h') : WCall f_TwoDct_inverse [.ref ks, .ref kb] h Q := by
  refine callW (by rfl) (by rfl) ?_
  unfold b_TwoDct_inverse
  (repeat (refine s_ret ?_))
  refine w_map (f := fun u1 => .int (ds V 1)) fun Q' kQ => ?_
  (repeat (first | (apply w_of; (· exact q_loc (by rfl))) | refine w_meth ?_))
  first | refine pAttr es rfl rfl ?_ | refine pMeth es rfl rfl ?_
  (repeat (apply ws_of; (· exact qs_cons (by exact q_loc (by rfl)) (by exact qs_nil))))
  refine c_sums e ?_
  refine kQ _ _ _ (by simp only [items, get_last]; rfl) (by (simp [lim]; done)) ?_ ?_
  · intro v hv P' kP
    have : v = .int V := by simpa using hv
    subst this
    (repeat (first | (apply ws_of; (· exact qs_cons (by exact q_loc (by rfl)) (by exact qs_cons (by exact q_int) (by exact qs_nil)))) | refine w_call ?_))
    exact c_descaled (by decide) (by decide) kP
  · refine k _ _ (by simp) (((Ext.refl h).push _).push _) ?_
    rw [get_last]; rfl
theorem c_one1 {ks kb : Nat} {V : Int} (e : h[kb]? = some (.list (DC V 1)))
    (k : ∀ h' kf, h.length ≤ kf → Ext [] h h' → h'[kf]? = some (.list (List.replicate 1 (.int V))) → Q (.ref kf) h') : WCall f_OneDct_inverse [.ref ks, .ref kb] h Q := by
  have e : h[kb]? = some (.list [.int V]) := e
  refine callW (by rfl) (by rfl) ?_
  unfold b_OneDct_inverse
  repeat (first | (apply w_of; (· exact q_loc (by rfl))) | (apply w_of; (· exact q_int)) | (apply ws_of; (· exact qs_nil)) | refine w_cons ?_ | refine s_ret ?_ | refine w_list ?_ | refine w_item ?_ | (refine i_list (by assumption) (by decide) (by rfl) (by (simp [lim]; done)) ?_))
  exact ⟨by (simp [lim]; done), k _ _ (Nat.le_refl _) ((Ext.refl h).push _) (get_last _ _)⟩

noncomputable def sides : List Nat := [1, 2, 4, 8]
theorem c_picked8 (k : Q (.ref h.length) (h ++ [.inst 3 []])) : WCall f_picked [.int 8] h Q := by
  refine callW (by rfl) (by rfl) ?_
  unfold b_picked
  (repeat (first | (apply b_of; (· exact q_loc (by rfl)); (· exact q_int); (· rfl)) | refine s_ite ?_))
  refine ⟨fun u1 => ?_, fun hc => by simp at hc⟩
  refine s_ret (w_new0 (by rfl) ?_)
  exact k
theorem c_picked4 (k : Q (.ref h.length) (h ++ [.inst 4 []])) : WCall f_picked [.int 4] h Q := by
  refine callW (by rfl) (by rfl) ?_
  unfold b_picked
  (repeat (first | (apply b_of; (· exact q_loc (by rfl)); (· exact q_int); (· rfl)) | refine s_ite ?_))
  refine ⟨fun hc => by simp at hc, fun u1 => ?_⟩
  (repeat (first | (apply b_of; (· exact q_loc (by rfl)); (· exact q_int); (· rfl)) | refine s_ite ?_))
  refine ⟨fun u1 => ?_, fun hc => by simp at hc⟩
  refine s_ret (w_new0 (by rfl) ?_)
  exact k
theorem c_picked2 (k : Q (.ref h.length) (h ++ [.inst 5 []])) : WCall f_picked [.int 2] h Q := by
  refine callW (by rfl) (by rfl) ?_
  unfold b_picked
  (repeat (first | (apply b_of; (· exact q_loc (by rfl)); (· exact q_int); (· rfl)) | refine s_ite ?_))
  refine ⟨fun hc => by simp at hc, fun u1 => ?_⟩
  (repeat (first | (apply b_of; (· exact q_loc (by rfl)); (· exact q_int); (· rfl)) | refine s_ite ?_))
  refine ⟨fun hc => by simp at hc, fun u1 => ?_⟩
  (repeat (first | (apply b_of; (· exact q_loc (by rfl)); (· exact q_int); (· rfl)) | refine s_ite ?_))
  refine ⟨fun u1 => ?_, fun hc => by simp at hc⟩
  refine s_ret (w_new0 (by rfl) ?_)
  exact k
theorem c_picked1 (k : Q (.ref h.length) (h ++ [.inst 6 []])) : WCall f_picked [.int 1] h Q := by
  refine callW (by rfl) (by rfl) ?_
  unfold b_picked
  (repeat (first | (apply b_of; (· exact q_loc (by rfl)); (· exact q_int); (· rfl)) | refine s_ite ?_))
  refine ⟨fun hc => by simp at hc, fun u1 => ?_⟩
  (repeat (first | (apply b_of; (· exact q_loc (by rfl)); (· exact q_int); (· rfl)) | refine s_ite ?_))
  refine ⟨fun hc => by simp at hc, fun u1 => ?_⟩
  (repeat (first | (apply b_of; (· exact q_loc (by rfl)); (· exact q_int); (· rfl)) | refine s_ite ?_))
  refine ⟨fun hc => by simp at hc, fun u1 => ?_⟩
  (repeat (first | (apply b_of; (· exact q_loc (by rfl)); (· exact q_int); (· rfl)) | refine s_ite ?_))
  refine ⟨fun u1 => ?_, fun hc => by simp at hc⟩
  refine s_ret (w_new0 (by rfl) ?_)
  exact k

theorem c_inverse {kb s : Nat} {V : Int} (hs : s ∈ sides) (e : h[kb]? = some (.list (DC V (s * s)))) (h1 : V.natAbs < 2 ^ 40)
    (k : ∀ h' kf, h.length ≤ kf → Ext [] h h' → h'[kf]? = some (.list (List.replicate (s * s) (.int ((V + s / 2).fdiv s)))) → Q (.ref kf) h') : WCall f_inverse [.ref kb, .int s] h Q := by
  refine callW (by rfl) (by rfl) ?_
  unfold b_inverse
  (repeat (first | (apply ws_of; (· exact qs_cons (by exact q_loc (by rfl)) (by exact qs_nil))) | refine w_call ?_ | refine s_ret ?_ | refine w_meth ?_))
  have hs' : s = 1 ∨ s = 2 ∨ s = 4 ∨ s = 8 := by simpa [sides] using hs
  have x0 : ∀ o, Ext [] h (h ++ [o]) := fun o => (Ext.refl h).push o
  rcases hs' with rfl | rfl | rfl | rfl
  · refine c_picked1 ⟨_, _, _, _, rfl, get_last _ _, rfl, rfl, ?_⟩
    (repeat (apply ws_of; (· exact qs_cons (by exact q_loc (by rfl)) (by exact qs_nil))))
    refine c_one1 (get_push e) fun h' kf n x e' => ?_
    refine k h' kf (by simp at n; lia) ((x0 _).trans x) ?_
    rw [e']; simp
  · refine c_picked2 ⟨_, _, _, _, rfl, get_last _ _, rfl, rfl, ?_⟩
    (repeat (apply ws_of; (· exact qs_cons (by exact q_loc (by rfl)) (by exact qs_nil))))
    refine c_two (get_push e) (get_last _ _) fun h' kf n x e' => ?_
    exact k h' kf (by simp at n; lia) ((x0 _).trans x) e'
  · refine c_picked4 ⟨_, _, _, _, rfl, get_last _ _, rfl, rfl, ?_⟩
    (repeat (apply ws_of; (· exact qs_cons (by exact q_loc (by rfl)) (by exact qs_nil))))
    refine c_four (get_push e) h1 fun h' kf n x e' => ?_
    exact k h' kf (by simp at n; lia) ((x0 _).trans x) e'
  · refine c_picked8 ⟨_, _, _, _, rfl, get_last _ _, rfl, rfl, ?_⟩
    (repeat (apply ws_of; (· exact qs_cons (by exact q_loc (by rfl)) (by exact qs_nil))))
    refine c_islow (get_push e) h1 fun h' kf n x e' => ?_
    exact k h' kf (by simp at n; lia) ((x0 _).trans x) e'

end
/-! LF -/
section
set_option maxRecDepth 4000
set_option linter.unusedVariables false

variable {h : MH} {Q : MV → MH → Prop}

noncomputable def rint (a b c : Int) : List Int := (List.range (rsize a b c)).map fun (i : Nat) => a + i * c
theorem ritems_rint (a b c : Int) : ritems a b c = (rint a b c).map MV.int := by unfold ritems rint; rw [List.map_map]; rfl
noncomputable def zlo (n t : Int) : Int := if t - n + 1 > 0 then t - n + 1 else 0
noncomputable def zhi (n t : Int) : Int := if n - 1 < t then n - 1 else t
noncomputable def zrow (n t : Int) : List Int := (if t.fmod 2 = 1 then rint (zlo n t) (zhi n t + 1) 1 else rint (zhi n t) (zlo n t - 1) (-1)).map fun y => y * n + t - y
noncomputable def zz (n : Nat) (m : Nat) : List Int := (List.range m).flatMap fun (t : Nat) => zrow n t

theorem rok_any {a b c : Int} (h0 : a.natAbs ≤ 1000000) (h1 : b.natAbs ≤ 1000000) (h2 : c = 1 ∨ c = -1 ∨ c = 4 ∨ c = 8) : rok a b c = true := by
  unfold rok; simp; lia
theorem rint_len {a b c : Int} (h0 : a.natAbs ≤ 100) (h1 : b.natAbs ≤ 100) (h2 : c = 1 ∨ c = -1) : (rint a b c).length ≤ 200 := by
  unfold rint rsize
  simp only [List.length_map, List.length_range]
  rcases h2 with rfl | rfl <;> (simp; split <;> (first | decide | lia))

theorem c_zig {n m : Nat} (hm : 2 * (n : Int) - 1 = m) (hn : n ≤ 8)
    (k : ∀ h', Ext [] h h' → Q (.tup ((zz n m).map MV.int)) h') : WCall f_zigzag_places [.int n] h Q := by
  refine callW (by rfl) (by rfl) ?_
  unfold b_zigzag_places
  (repeat (first | (apply ws_of; (· exact qs_nil)) | refine s_assign ?_ | refine w_list ?_))
  refine ⟨by decide, ?_⟩
  have hlen : ∀ t : Nat, t ≤ 20 → (zrow n t).length ≤ 200 := fun t ht => by
    unfold zrow
    rw [List.length_map]
    have : (zlo n t).natAbs ≤ 90 ∧ (zhi n t).natAbs ≤ 90 := by unfold zlo zhi; constructor <;> split <;> (first | decide | with_reducible exact Nat.le_trans (by exact nab_add (by exact nab_sub (by exact nab_c (by assumption)) (by exact nab_c (by assumption))) (by exact Nat.le_refl _)) (by decide) | with_reducible exact Nat.le_trans (by exact nab_sub (by exact nab_c (by assumption)) (by exact Nat.le_refl _)) (by decide) | with_reducible exact Nat.le_trans (by exact nab_c (by assumption)) (by decide))
    split
    · exact rint_len (by (with_reducible exact Nat.le_trans (by exact And.left (by assumption)) (by decide))) (by lia) (.inl rfl)
    · exact rint_len (by (with_reducible exact Nat.le_trans (by exact And.right (by assumption)) (by decide))) (by lia) (.inr rfl)
  have hzl : ∀ i : Nat, i ≤ 20 → ((List.range i).flatMap fun (t : Nat) => zrow n t).length ≤ i * 200 := fun i => by
    induction i with
    | zero => intro _; simp
    | succ i ih =>
      intro hi
      rw [List.range_succ, List.flatMap_append, List.length_append]
      have := ih (by lia)
      have := hlen i (by lia)
      simp only [List.flatMap_cons, List.flatMap_nil, List.append_nil]
      lia
  refine s_for0 (I := fun i l h' => (∃ u : Nat → Option MV, l = [some (.int n), some (.ref h.length), u 2, u 3, u 4, u 5, u 6]) ∧ Ext [] h h' ∧ h'[h.length]? = some (.list (((List.range i).flatMap fun (t : Nat) => zrow n t).map MV.int))) fun I' into out Q' kQ => ?_
  (repeat (first | (apply ws_of; (· exact qs_cons (by (apply q_sub; (· (apply q_mul; (· exact q_int); (· exact q_loc (by rfl)); (· (unfold big; with_reducible exact Or.inl (Nat.lt_of_le_of_lt (by exact Nat.le_refl _) (by decide)))))); (· exact q_int))) (by exact qs_nil))) | refine w_bi ?_))
  refine pBi .range1 (kQ _ _ (ritems 0 m 1) (fun u1 u2 u3 u4 => by rw [hm]; exact items_rng (by lia)) (into _ _ _ ⟨(fr rfl), (Ext.refl h).push _, get_last _ _⟩) ?_ ?_)
  · intro i v l h' hI hv R' kR
    have kR := fun l h q => kR l h (into _ l h q)
    obtain ⟨⟨u, rfl⟩, hx, hf⟩ := out _ _ _ hI
    obtain ⟨hi, rfl⟩ := ritems_get hv
    (repeat (first | (apply ws_of; (· exact qs_cons (by exact q_int) (by exact qs_cons (by (apply q_add; (· (apply q_sub; (· exact q_loc (by rfl)); (· exact q_loc (by rfl)))); (· exact q_int))) (by exact qs_nil)))) | refine s_assign ?_ | refine w_bi ?_))
    refine pBi .max2 ?_
    (repeat (first | (apply ws_of; (· exact qs_cons (by exact q_loc (by rfl)) (by exact qs_cons (by (apply q_sub; (· exact q_loc (by rfl)); (· exact q_int))) (by exact qs_nil)))) | refine s_assign ?_ | refine w_bi ?_))
    refine pBi .min2 ?_
    (repeat (first | (apply b_of; (· (apply q_mod; (· exact q_loc (by rfl)); (· exact q_int); (· decide))); (· exact q_int); (· rfl)) | refine s_assign ?_ | refine w_ite ?_))
    have body : ∀ (A B D : Int), A.natAbs ≤ 90 → B.natAbs ≤ 90 → D = 1 ∨ D = -1 → (rint A B D).map (fun (y : Int) => y * (n : Int) + (i : Int) - y) = zrow n i → ∀ l : Loc, (∃ u : Nat → Option MV, l = [some (.int n), some (.ref h.length), some (.int i), u 3, u 4, some (.rng A B D), u 6]) →
        WSs l h' [.for 6 (.loc 5) [.expr (.app (.loc 1) (.bin .sub (.bin .add (.bin .mul (.loc 6) (.loc 0)) (.loc 2)) (.loc 6)))]] R' := by
      rintro A B D hA hB hD hz l ⟨u, rfl⟩
      refine s_for0 (I := fun j l h2 => (∃ u : Nat → Option MV, l = [some (.int n), some (.ref h.length), some (.int i), u 3, u 4, some (.rng A B D), u 6]) ∧ Ext [] h h2 ∧ h2[h.length]? = some (.list (((List.range i).flatMap fun (t : Nat) => zrow n t).map MV.int ++ ((zrow n i).take j).map MV.int))) fun I' into out Q' kQ => ?_
      (repeat (apply w_of; (· exact q_loc (by rfl))))
      refine kQ _ _ ((rint A B D).map MV.int) (fun u1 u2 u3 u4 => by rw [← ritems_rint]; simp only [items, rok_any (a := A) (b := B) (c := D) (by (with_reducible exact Nat.le_trans (by assumption) (by decide))) (by (with_reducible exact Nat.le_trans (by assumption) (by decide))) (by lia), if_true]) (into _ _ _ ⟨(fr rfl), hx, by simpa using hf⟩) ?_ ?_
      · intro j v l h2 hI hv2 R' kR
        have kR := fun l h q => kR l h (into _ l h q)
        obtain ⟨⟨u, rfl⟩, hx2, hf2⟩ := out _ _ _ hI
        rw [List.getElem?_map] at hv2
        obtain ⟨y, hy, rfl⟩ := Option.map_eq_some_iff.mp hv2
        have hzy : (zrow n i)[j]? = some (y * n + i - y) := by rw [← hz, List.getElem?_map, hy]; rfl
        (repeat (first | (apply w_of; (· exact q_loc (by rfl))) | (apply w_of; (· (apply q_sub; (· (apply q_add; (· (apply q_mul; (· exact q_loc (by rfl)); (· exact q_loc (by rfl)); (· (unfold big; with_reducible exact Or.inr (Nat.lt_of_le_of_lt (by exact nab_c (by assumption)) (by decide)))))); (· exact q_loc (by rfl)))); (· exact q_loc (by rfl))))) | refine s_expr ?_ | refine w_app ?_))
        have l1 := hzl i (by lia)
        have l2 := hlen i (by lia)
        have l3 : (List.take j (zrow n i)).length ≤ 200 := by rw [List.length_take]; lia
        refine pApp hf2 hf2 (by rw [List.length_append, List.length_map, List.length_map]; unfold lim; lia) ⟨rfl, ?_⟩
        (repeat (refine s_nil ?_))
        refine kR _ _ ⟨(fr rfl), hx2.set_new _ (Nat.le_refl _), ?_⟩
        rw [get_set hf2, List.take_add_one, hzy]
        simp
      · intro l h2 hI
        obtain ⟨⟨u, rfl⟩, hx2, hf2⟩ := out _ _ _ hI
        (repeat (refine s_nil ?_))
        refine kR _ _ ⟨(by exact fr rfl), hx2, ?_⟩
        rw [hf2, List.length_map]
        have hl : (rint A B D).length = (zrow n i).length := by rw [← hz, List.length_map]
        rw [hl, List.take_length, List.range_succ, List.flatMap_append]
        simp
    have hb : (zlo n i).natAbs ≤ 80 ∧ (zhi n i).natAbs ≤ 80 := by unfold zlo zhi; constructor <;> split <;> (first | decide | with_reducible exact Nat.le_trans (by exact nab_sub (by exact nab_c (by assumption)) (by exact Nat.le_refl _)) (by decide) | lia)
    refine ⟨fun hc => ?_, fun hc => ?_⟩
    · have hc : (i : Int).fmod 2 = 1 := by simpa using hc
      (repeat (first | (apply ws_of; (· exact qs_cons (by exact q_loc (by rfl)) (by exact qs_cons (by (apply q_add; (· exact q_loc (by rfl)); (· exact q_int))) (by exact qs_nil)))) | refine w_bi ?_))
      refine pBi .range2 ?_
      refine body (zlo n i) (zhi n i + 1) 1 (by (with_reducible exact Nat.le_trans (by exact And.left (by assumption)) (by decide))) (by lia) (.inl rfl) (by unfold zrow; rw [if_pos hc]) _ (by exact fr rfl)
    · have hc : ¬ (i : Int).fmod 2 = 1 := by simpa using hc
      (repeat (first | (apply ws_of; (· exact qs_cons (by exact q_loc (by rfl)) (by exact qs_cons (by (apply q_sub; (· exact q_loc (by rfl)); (· exact q_int))) (by exact qs_cons (by (apply q_neg; (· exact q_int))) (by exact qs_nil))))) | refine w_bi ?_))
      refine pBi (.range3 (rok_any (a := zhi n i) (b := zlo n i - 1) (by (with_reducible exact Nat.le_trans (by exact And.right (by assumption)) (by decide))) (by lia) (.inr (.inl rfl)))) ?_
      refine body (zhi n i) (zlo n i - 1) (-1) (by (with_reducible exact Nat.le_trans (by exact And.right (by assumption)) (by decide))) (by lia) (.inr rfl) (by unfold zrow; rw [if_neg hc]) _ (by exact fr rfl)
  · intro l h' hI
    obtain ⟨⟨u, rfl⟩, hx, hf⟩ := out _ _ _ hI
    rw [ritems_len] at hf
    (repeat (first | (apply ws_of; (· exact qs_cons (by exact q_loc (by rfl)) (by exact qs_nil))) | refine s_ret ?_ | refine w_bi ?_))
    have l1 := hzl m (by lia)
    exact pBi (.tuple hf (by rw [List.length_map]; unfold lim; lia)) (k h' hx)

end
/-! LG -/
section
set_option maxRecDepth 4000
set_option linter.unusedVariables false

variable {h : MH} {Q : MV → MH → Prop}

theorem Ext.len {a b : MH} (x : Ext [] a b) : a.length ≤ b.length := by
  by_cases h : a.length = 0
  · lia
  · have e : a[a.length - 1]? = some a[a.length - 1] := List.getElem?_eq_getElem (by omega)
    have := lt_of (x.get e); omega
noncomputable def ordL (n : Nat) : List Int := if n = 8 then order8 else zz n (2 * n - 1)
noncomputable def ordOk (m : Nat) (os : List Int) : Bool := os.length == m && os.head? == some 0 && os.tail.all fun p => decide (1 ≤ p) && decide (p < m)
theorem ord_ok {n : Nat} (hn : n ∈ sides) : ordOk (n * n) (ordL n) = true := by
  have hs' : n = 1 ∨ n = 2 ∨ n = 4 ∨ n = 8 := by simpa [sides] using hn
  rcases hs' with rfl | rfl | rfl | rfl <;> decide +kernel
theorem ord_at {n i : Nat} {p : Int} (hn : n ∈ sides) (e : (ordL n)[i]? = some p) : i < n * n ∧ 0 ≤ p ∧ p < n * n ∧ (p = 0 ↔ i = 0) := by
  have h := ord_ok hn
  unfold ordOk at h
  simp only [Bool.and_eq_true, beq_iff_eq, List.all_eq_true, decide_eq_true_eq] at h
  obtain ⟨⟨h1, h2⟩, h3⟩ := h
  have hlt := (List.getElem?_eq_some_iff.mp e).1
  have hm : ((n * n : Nat) : Int) = (n : Int) * n := by push_cast; rfl
  rw [hm] at h3
  generalize ordL n = os at *
  cases os with
  | nil => simp at h2
  | cons o os =>
    simp at h2; subst h2
    cases i with
    | zero => simp at e; subst e; refine ⟨by omega, by decide, ?_, by simp⟩; rw [← hm]; omega
    | succ i =>
      simp at e
      have := h3 p (List.mem_of_getElem? e)
      refine ⟨by lia, by (with_reducible exact nn_i (by exact And.left (by assumption))), this.2, ?_⟩
      constructor
      · intro q; omega
      · intro q; lia
theorem ord_len {n : Nat} (hn : n ∈ sides) : (ordL n).length = n * n := by
  have h := ord_ok hn
  unfold ordOk at h
  simp only [Bool.and_eq_true, beq_iff_eq] at h
  exact h.1.1
theorem side_pos {n : Nat} (hn : n ∈ sides) : 1 ≤ n ∧ n ≤ 8 ∧ 1 ≤ n * n ∧ n * n ≤ 64 := by
  have hs' : n = 1 ∨ n = 2 ∨ n = 4 ∨ n = 8 := by simpa [sides] using hn
  rcases hs' with rfl | rfl | rfl | rfl <;> decide

theorem c_order {n : Nat} (hn : n ∈ sides) (k : ∀ h', Ext [] h h' → Q (.tup ((ordL n).map MV.int)) h') : WCall f_order [.int n] h Q := by
  refine callW (by rfl) (by rfl) ?_
  unfold b_order
  (repeat (first | (apply b_of; (· exact q_loc (by rfl)); (· exact q_int); (· rfl)) | refine s_ret ?_ | refine w_ite ?_))
  have hs' : n = 1 ∨ n = 2 ∨ n = 4 ∨ n = 8 := by simpa [sides] using hn
  refine ⟨fun hc => ?_, fun hc => ?_⟩
  · have hc : n = 8 := by simp at hc; lia
    subst hc
    (repeat (refine w_gtup (by rfl) ?_))
    exact k h (.refl h)
  · have hc : n ≠ 8 := by simp at hc; lia
    have e : ordL n = zz n (2 * n - 1) := by unfold ordL; rw [if_neg hc]
    (repeat (first | (apply ws_of; (· exact qs_cons (by exact q_loc (by rfl)) (by exact qs_nil))) | refine w_call ?_))
    refine c_zig (m := 2 * n - 1) (by lia) (by lia) fun h' x => ?_
    rw [e] at k
    exact k h' x

/-- a list read in the order -/
theorem c_to_row {kb n : Nat} {vs : List MV} (hn : n ∈ sides) (e : h[kb]? = some (.list vs)) (hl : vs.length = n * n)
    (k : ∀ h' kf, h.length ≤ kf → Ext [] h h' → h'[kf]? = some (.list ((ordL n).map fun p => (vs[p.toNat]?).getD .none)) → Q (.ref kf) h') : WCall f_to_row [.ref kb, .int n] h Q := by
  refine callW (by rfl) (by rfl) ?_
  unfold b_to_row
  (repeat (refine s_ret ?_))
  have hp := side_pos hn
  refine w_map (f := fun v => match v with | .int p => (vs[p.toNat]?).getD .none | _ => .none) fun Q' kQ => ?_
  (repeat (first | (apply ws_of; (· exact qs_cons (by exact q_loc (by rfl)) (by exact qs_nil))) | refine w_call ?_))
  refine c_order hn fun g x => ?_
  refine kQ _ _ _ rfl (by rw [List.length_map, ord_len hn]; unfold lim; (with_reducible exact Nat.le_trans (by exact And.right (And.right (And.right (by assumption)))) (by decide))) ?_ ?_
  · intro v hv P' kP
    obtain ⟨p, hp2, rfl⟩ := List.mem_map.mp hv
    obtain ⟨i, hi⟩ := List.getElem?_of_mem hp2
    have hq := ord_at hn hi; have o1 := hq.1; have o2 := hq.2.1; have o3 := hq.2.2.1; have o4 := hq.2.2.2
    have hlt : p.toNat < vs.length := by rw [hl]; have : ((n * n : Nat) : Int) = (n : Int) * n := by push_cast; rfl
                                         omega
    (repeat (first | (apply w_of; (· exact q_loc (by rfl))) | refine w_item ?_))
    refine i_list (x.get e) o2 (List.getElem?_eq_getElem hlt) (by rw [hl]; unfold lim; (with_reducible exact Nat.le_trans (by exact And.right (And.right (And.right (by assumption)))) (by decide))) ?_
    have e0 : (vs[p.toNat]?).getD .none = vs[p.toNat] := by rw [List.getElem?_eq_getElem hlt]; rfl
    rw [← e0]; exact kP
  · rw [List.map_map]
    exact k _ g.length x.len (x.push _) (get_last _ _)

/-- such a row in the order is such a row -/
theorem dc_row {n : Nat} (hn : n ∈ sides) (v : Int) : (ordL n).map (fun p => ((DC v (n * n))[p.toNat]?).getD .none) = DC v (n * n) := by
  have hp := side_pos hn
  apply List.ext_getElem?
  intro i
  by_cases hi : i < n * n
  · have hlt : i < (ordL n).length := by rw [ord_len hn]; exact hi
    rw [List.getElem?_map, List.getElem?_eq_getElem hlt]
    have o := ord_at hn (List.getElem?_eq_getElem hlt)
    generalize (ordL n)[i] = p at o
    obtain ⟨o1, o2, o3, o4⟩ := o
    have hm : ((n * n : Nat) : Int) = (n : Int) * n := by push_cast; rfl
    rw [Option.map_some, DC_get v (show p.toNat < n * n by lia), DC_get v hi]
    have : (p.toNat = 0) ↔ (i = 0) := by rw [← o4]; lia
    simp [this]
  · rw [List.getElem?_eq_none (by rw [List.length_map, ord_len hn]; (with_reducible exact Nat.ge_of_not_lt (by assumption))), List.getElem?_eq_none (by rw [DC_len v (by (with_reducible exact pos_of (by exact And.left (And.right (And.right (by assumption)))) (by decide)))]; (with_reducible exact Nat.ge_of_not_lt (by assumption)))]

theorem dc_set {v : Int} {m p : Nat} (h0 : 0 < p) (h1 : p < m) : (DC v m).set p (.int 0) = DC v m := by
  apply List.ext_getElem?
  intro i
  have hl := DC_len v (show 0 < m by (with_reducible exact Nat.lt_of_lt_of_le (by assumption) (by exact Nat.le_of_lt (by assumption))))
  by_cases hi : i = p
  · subst hi
    rw [List.getElem?_set_self (by lia), DC_get v h1, if_neg (by lia)]
  · rw [List.getElem?_set_ne (by lia)]
theorem zero_set {v : Int} {m : Nat} (h : 0 < m) : (List.replicate m (MV.int 0)).set 0 (.int v) = DC v m := by
  cases m with
  | zero => omega
  | succ m => simp [List.replicate_succ, DC]

theorem c_to_block {kr n : Nat} {v : Int} (hn : n ∈ sides) (e : h[kr]? = some (.list (DC v (n * n))))
    (k : ∀ h' kf, h.length ≤ kf → Ext [] h h' → h'[kf]? = some (.list (DC v (n * n))) → Q (.ref kf) h') : WCall f_to_block [.ref kr, .int n] h Q := by
  refine callW (by rfl) (by rfl) ?_
  unfold b_to_block
  have hp := side_pos hn
  have hm : ((n * n : Nat) : Int) = (n : Int) * n := by push_cast; rfl
  have hDl := DC_len v (show 0 < n * n by (with_reducible exact pos_of (by exact And.left (And.right (And.right (by assumption)))) (by decide)))
  (repeat (first | (apply ws_of; (· exact qs_cons (by exact q_int) (by exact qs_nil))) | refine w_bin ?_ | refine s_assign ?_ | refine w_list ?_))
  refine ⟨by decide, ?_⟩
  (repeat (apply w_of; (· (apply q_mul; (· exact q_loc (by rfl)); (· exact q_loc (by rfl)); (· (unfold big; with_reducible exact Or.inl (Nat.lt_of_le_of_lt (by exact nab_c (by exact And.left (And.right (by assumption)))) (by decide))))))))
  refine o_mulL (get_last _ _) (by lia) (by unfold lim; lia) ?_
  (repeat (first | (apply w_of; (· exact q_int)) | refine s_assign ?_))
  have hnn : ((n : Int) * n).toNat = n * n := by rw [← hm]; (exact rfl)
  rw [hnn]
  refine s_for0 (I := fun i l h' => (∃ p, l = [some (.ref kr), some (.int n), some (.ref (h.length + 1)), some (.int i), p]) ∧ Ext [] h h' ∧ h'[h.length + 1]? = some (.list (if i = 0 then List.replicate (n * n) (.int 0) else DC v (n * n)))) fun I' into out Q' kQ => ?_
  (repeat (first | (apply ws_of; (· exact qs_cons (by exact q_loc (by rfl)) (by exact qs_nil))) | refine w_call ?_))
  refine c_order hn fun g x => ?_
  have hlen : (h ++ [MO.list [MV.int 0]]).length = h.length + 1 := by simp
  refine kQ _ _ ((ordL n).map MV.int) (fun u1 u2 u3 u4 => rfl) (into _ _ _ ⟨⟨_, by rw [hlen]; rfl⟩, ?_, ?_⟩) ?_ ?_
  · exact (((Ext.refl h).push _).push _).trans x
  · have := x.get (get_last (h ++ [MO.list [MV.int 0]]) (.list (List.replicate (n * n) (.int 0))))
    rw [hlen] at this; exact this
  · intro i w l h' hI hw R' kR
    have kR := fun l h q => kR l h (into _ l h q)
    obtain ⟨⟨p, rfl⟩, hx, hf⟩ := out _ _ _ hI
    rw [List.getElem?_map] at hw
    obtain ⟨q, hq, rfl⟩ := Option.map_eq_some_iff.mp hw
    obtain ⟨o1, o2, o3, o4⟩ := ord_at hn hq
    (repeat (first | (apply w_of; (· exact q_loc (by rfl))) | refine s_setitem ?_ | refine w_item ?_))
    refine i_list (hx.get e) (by (exact Int.natCast_nonneg _)) (by rw [show (i : Int).toNat = i by (exact rfl)]; exact DC_get v o1) (by rw [hDl]; unfold lim; (with_reducible exact Nat.le_trans (by exact And.right (And.right (And.right (by assumption)))) (by decide))) ?_
    (repeat (apply w_of; (· exact q_loc (by rfl))))
    have hll : (if i = 0 then List.replicate (n * n) (MV.int 0) else DC v (n * n)).length = n * n := by split; simp; exact hDl
    first | refine pItem (.list hf o2 (by rw [hll]; lia) (by rw [hll]; unfold lim; lia)) ?_ | refine pSetI (.list hf o2 (by rw [hll]; lia) (by rw [hll]; unfold lim; (with_reducible exact Nat.le_trans (by exact And.right (And.right (And.right (by assumption)))) (by decide)))) ?_ | refine pCmp (.list hf o2 (by rw [hll]; lia) (by rw [hll]; unfold lim; lia)) ?_
    refine s_aug (a := (i : Int)) (by rfl) ?_
    (repeat (apply w_of; (· exact q_int)))
    refine ⟨1, rfl, ?_⟩
    (repeat (refine s_nil ?_))
    refine kR _ _ ⟨⟨_, by simp; rfl⟩, hx.set_new _ (by lia), ?_⟩
    rw [get_set hf, if_neg (show ¬ i + 1 = 0 by lia)]
    refine congrArg (fun z => some (MO.list z)) ?_
    by_cases h0 : i = 0
    · subst h0
      have : q.toNat = 0 := by have := o4.mpr rfl; lia
      rw [if_pos rfl, if_pos rfl, this, zero_set (by (with_reducible assumption))]
    · have : ¬ q = 0 := fun z => h0 (o4.mp z)
      rw [if_neg h0, if_neg h0, dc_set (by lia) (by lia)]
  · intro l h' hI
    obtain ⟨⟨p, rfl⟩, hx, hf⟩ := out _ _ _ hI
    rw [List.length_map, ord_len hn, if_neg (by lia)] at hf
    (repeat (first | (apply w_of; (· exact q_loc (by rfl))) | refine s_ret ?_))
    exact k h' _ (by lia) hx hf

theorem slice_dc {v : Int} {m a b : Nat} (h0 : 0 < b) (h : a + b ≤ m) : (((DC v m).drop a).take b) = DC (if a = 0 then v else 0) b := by
  apply List.ext_getElem?
  intro i
  rw [List.getElem?_take]
  by_cases hi : i < b
  · rw [if_pos hi, List.getElem?_drop, DC_get v (by lia), DC_get _ hi]
    by_cases h1 : a = 0 <;> by_cases h2 : i = 0 <;> simp [h1, h2]
  · rw [if_neg hi, List.getElem?_eq_none (by rw [DC_len _ h0]; (with_reducible exact Nat.ge_of_not_lt (by assumption)))]
theorem dc_append {v : Int} {m b : Nat} (h : 0 < m) : DC v m ++ DC 0 b = if b = 0 then DC v m ++ [.int 0] else DC v (m + b) := by
  by_cases hb : b = 0
  · subst hb; rfl
  · rw [if_neg hb]
    unfold DC
    have : MV.int 0 :: List.replicate (b - 1) (MV.int 0) = List.replicate b (.int 0) := by
      cases b with
      | zero => lia
      | succ b => simp [List.replicate_succ]
    rw [List.cons_append, this, List.replicate_append_replicate]
    congr 2; lia

theorem c_corner {kr n s : Nat} {v : Int} (hn : n ∈ sides) (hs : s ∈ sides) (hsn : s ≤ n) (e : h[kr]? = some (.list (DC v (n * n))))
    (k : ∀ h' kf, h.length ≤ kf → Ext [] h h' → h'[kf]? = some (.list (DC v (s * s))) → Q (.ref kf) h') : WCall f_corner [.ref kr, .int n, .int s] h Q := by
  refine callW (by rfl) (by rfl) ?_
  unfold b_corner
  have hp := side_pos hn
  have hps := side_pos hs
  have hDl := DC_len v (show 0 < n * n by (with_reducible exact pos_of (by exact And.left (And.right (And.right (by assumption)))) (by decide)))
  (repeat (first | (apply ws_of; (· exact qs_cons (by exact q_loc (by rfl)) (by exact qs_cons (by exact q_loc (by rfl)) (by exact qs_nil)))) | refine w_call ?_ | refine s_assign ?_))
  refine c_to_block hn e fun g kb n1 x1 eb => ?_
  have hlt := lt_of eb
  (repeat (first | (apply ws_of; (· exact qs_nil)) | refine s_assign ?_ | refine w_list ?_))
  refine ⟨by decide, ?_⟩
  skip
  refine s_for0 (I := fun i l h' => (∃ p, l = [some (.ref kr), some (.int n), some (.int s), some (.ref kb), some (.ref g.length), p]) ∧ Ext [] g h' ∧ h'[g.length]? = some (.list (if i = 0 then [] else DC v (i * s)))) fun I' into out Q' kQ => ?_
  (repeat (first | (apply ws_of; (· exact qs_cons (by exact q_loc (by rfl)) (by exact qs_nil))) | refine w_bi ?_))
  refine pBi .range1 (kQ _ _ (ritems 0 s 1) (fun u1 u2 u3 u4 => items_rng (by lia)) (into _ _ _ ⟨⟨_, rfl⟩, (Ext.refl g).push _, get_last _ _⟩) ?_ ?_)
  · intro i w l h' hI hw R' kR
    have kR := fun l h q => kR l h (into _ l h q)
    obtain ⟨⟨p, rfl⟩, hx, hf⟩ := out _ _ _ hI
    obtain ⟨hi, rfl⟩ := ritems_get hw
    have m1 : i * n + n ≤ n * n := by
      have := Nat.mul_le_mul_right n (show i + 1 ≤ n by lia)
      rw [Nat.add_mul] at this; lia
    have m2 : ((i * n : Nat) : Int) = (i : Int) * n := by push_cast; rfl
    (repeat (first | (apply w_of; (· exact q_loc (by rfl))) | (apply w_of; (· (apply q_mul; (· exact q_loc (by rfl)); (· exact q_loc (by rfl)); (· (unfold big; with_reducible exact Or.inr (Nat.lt_of_le_of_lt (by exact nab_c (by exact And.left (And.right (by assumption)))) (by decide))))))) | (apply w_of; (· (apply q_add; (· (apply q_mul; (· exact q_loc (by rfl)); (· exact q_loc (by rfl)); (· (unfold big; with_reducible exact Or.inr (Nat.lt_of_le_of_lt (by exact nab_c (by exact And.left (And.right (by assumption)))) (by decide)))))); (· exact q_loc (by rfl))))) | refine s_expr ?_ | refine w_slice2 ?_ | refine w_ext ?_))
    refine pSl2 (hx.get eb) ?_ (by lia) ?_ (by rw [hDl]; unfold lim; (with_reducible exact Nat.le_trans (by exact And.right (And.right (And.right (by assumption)))) (by decide))) ?_
    · rw [← m2]; (exact Int.natCast_nonneg _)
    · rw [hDl, ← m2]; lia
    have e2 : ((i : Int) * n + s - (i : Int) * n).toNat = s := by lia
    have e3 : ((i : Int) * n).toNat = i * n := by rw [← m2]; (exact rfl)
    rw [e2, e3, slice_dc (by (with_reducible exact pos_of (by exact And.left (by assumption)) (by decide))) (by lia)]
    skip
    have hlt2 := lt_of hf
    have hl1 : (DC (if i * n = 0 then v else 0) s).length = s := DC_len _ (by (with_reducible exact pos_of (by exact And.left (by assumption)) (by decide)))
    have m3 : i * s ≤ 8 * 8 := Nat.mul_le_mul (by (with_reducible exact Nat.le_trans (by exact Nat.le_of_lt (by assumption)) (by exact And.left (And.right (by assumption))))) (by (with_reducible exact And.left (And.right (by assumption))))
    have hl2 : (if i = 0 then [] else DC v (i * s)).length ≤ 64 := by
      split
      · simp
      · rename_i h0
        have : 0 < i * s := Nat.mul_pos (by lia) (by (with_reducible exact pos_of (by exact And.left (by assumption)) (by decide)))
        rw [DC_len v this]; (with_reducible assumption)
    refine pExt hf (get_push hf) (get_last _ _) (by lia) (by rw [hl1]; unfold lim; lia) ⟨rfl, ?_⟩
    (repeat (refine s_nil ?_))
    refine kR _ _ ⟨⟨_, rfl⟩, (hx.push _).set_new _ (Nat.le_refl _), ?_⟩
    rw [get_set (get_push hf), if_neg (show ¬ i + 1 = 0 by lia)]
    refine congrArg (fun z => some (MO.list z)) ?_
    by_cases h0 : i = 0
    · subst h0; simp
    · have hin : i * n ≠ 0 := Nat.mul_ne_zero h0 (by lia)
      have : 0 < i * s := Nat.mul_pos (by lia) (by (with_reducible exact pos_of (by exact And.left (by assumption)) (by decide)))
      rw [if_neg h0, if_neg hin, dc_append this, if_neg (by lia), Nat.add_mul]; simp
  · intro l h' hI
    obtain ⟨⟨p, rfl⟩, hx, hf⟩ := out _ _ _ hI
    rw [ritems_len, if_neg (by lia)] at hf
    (repeat (first | (apply ws_of; (· exact qs_cons (by exact q_loc (by rfl)) (by exact qs_cons (by exact q_loc (by rfl)) (by exact qs_nil)))) | refine w_call ?_ | refine s_ret ?_))
    refine c_to_row hs hf (DC_len v (by (with_reducible exact pos_of (by exact And.left (And.right (And.right (by assumption)))) (by decide)))) fun h2 kf n2 x2 e2 => ?_
    rw [dc_row hs] at e2
    refine k h2 kf ?_ ((x1.trans hx).trans x2) e2
    have := x1.len; have := hx.len; lia

end
/-! LH -/
section
set_option maxRecDepth 4000
set_option linter.unusedVariables false

variable {h : MH} {Q : MV → MH → Prop}

theorem side_cases {n : Nat} (hn : n ∈ sides) : n = 1 ∨ n = 2 ∨ n = 4 ∨ n = 8 := by simpa [sides] using hn

theorem c_check {n s : Nat} (hn : n ∈ sides) (hs : s ∈ sides) (hsn : s ≤ n) (k : Q .none h) : WCall f_check_side [.int n, .int s] h Q := by
  refine callW (by rfl) (by rfl) ?_
  unfold b_check_side
  have h1 := side_cases hn
  have h2 := side_cases hs
  (repeat (first | (apply w_of; (· exact q_loc (by rfl))) | (apply ws_of; (· exact qs_cons (by exact q_int) (by exact qs_cons (by exact q_int) (by exact qs_cons (by exact q_int) (by exact qs_cons (by exact q_int) (by exact qs_nil)))))) | refine s_ite ?_ | refine b_cmp ?_ | refine b_or ?_ | refine a_cons ?_ | refine w_tup ?_))
  refine ⟨by decide, ?_⟩
  refine pCmp (.notin (is := [1, 2, 4, 8])) ⟨fun u1 => ?_, fun hc => ?_⟩
  · (repeat (first | (apply b_of; (· exact q_loc (by rfl)); (· exact q_loc (by rfl)); (· rfl)) | refine a_cons ?_))
    refine ⟨fun u1 => ?_, fun hc => ?_⟩
    · repeat (first | (apply b_of; (· (apply q_mod; (· (apply q_mul; (· exact q_gint (by rfl)); (· exact q_loc (by rfl)); (· (unfold big; with_reducible exact Or.inl (Nat.lt_of_le_of_lt (by exact Nat.le_refl _) (by decide)))))); (· exact q_loc (by rfl)); (· lia))); (· exact q_int); (· rfl)) | refine a_cons ?_ | refine o_mod (by lia) ?_)
      refine ⟨fun u1 => ?_, fun hc => ?_⟩
      · (repeat (refine a_nil ?_))
        refine ⟨fun hc => by simp at hc, fun u1 => ?_⟩
        (repeat (refine s_nil ?_))
        exact k
      · exfalso
        rcases h1 with rfl | rfl | rfl | rfl <;> rcases h2 with rfl | rfl | rfl | rfl <;> first | lia | (simp [Int.fmod] at hc; done) | (revert hc; decide)
    · exfalso
      simp at hc; lia
  · exfalso
    rcases h2 with rfl | rfl | rfl | rfl <;> simp at hc

theorem samp_num : ∀ n ∈ sides, ∀ s ∈ sides, s ≤ n → 2 ≤ n → (s : Int) * 8 = 8 * (s : Int) / n * n ∧ (4 : Int) * s = (n : Int) / 2 * (8 * (s : Int) / n) ∧ (s : Int) / 2 < 8 * (s : Int) / n ∧ (0 : Int) ≤ (s : Int) / 2 ∧ (s : Int) ≠ 0 := by decide
theorem samples_law {n s : Nat} (v : Int) (hn : n ∈ sides) (hs : s ∈ sides) (hsn : s ≤ n) (h1 : 2 ≤ n) :
    ((v * ((8 * (s : Int)).fdiv n) + s / 2).fdiv s + 4).fdiv 8 = (v + n / 2).fdiv n := by
  rw [Int.fdiv_eq_ediv_of_nonneg _ (Int.natCast_nonneg n), Int.fdiv_eq_ediv_of_nonneg _ (Int.natCast_nonneg s), Int.fdiv_eq_ediv_of_nonneg _ (show (0 : Int) ≤ 8 by decide), Int.fdiv_eq_ediv_of_nonneg _ (Int.natCast_nonneg n)]
  obtain ⟨e1, e2, e3, e4, e5⟩ := samp_num n hn s hs hsn h1
  have e6 := Int.lt_of_le_of_lt e4 e3
  rw [← Int.add_mul_ediv_right _ _ e5, Int.ediv_ediv_of_nonneg (Int.natCast_nonneg s), e1, e2, ← Int.ediv_ediv_of_nonneg (Int.le_of_lt e6), Int.add_right_comm, ← Int.add_mul, Int.add_comm, Int.add_mul_ediv_right _ _ (Int.ne_of_gt e6), Int.ediv_eq_zero_of_lt e4 e3, Int.zero_add]

theorem times_le {n s : Nat} (hn : n ∈ sides) (hs : s ∈ sides) : ((8 * (s : Int)).fdiv n).natAbs ≤ 64 := (by decide : ∀ n ∈ sides, ∀ s ∈ sides, ((8 * (s : Int)).fdiv n).natAbs ≤ 64) n hn s hs

theorem dc_mul (v t : Int) (m : Nat) : (DC v m).map (fun w => match w with | .int x => MV.int (x * t) | _ => .none) = DC (v * t) m := by
  unfold DC
  simp

theorem c_scaled {kr n s : Nat} {v : Int} (hn : n ∈ sides) (hs : s ∈ sides) (hsn : s ≤ n) (h2 : 2 ≤ n) (e : h[kr]? = some (.list (DC v (n * n)))) (hv : v.natAbs < 2 ^ 30)
    (k : ∀ h' kf, h.length ≤ kf → Ext [] h h' → h'[kf]? = some (.list (List.replicate (s * s) (.int ((v + n / 2).fdiv n)))) → Q (.ref kf) h') : WCall f_scaled_samples [.ref kr, .int n, .int s] h Q := by
  refine callW (by rfl) (by rfl) ?_
  unfold b_scaled_samples
  have hp := side_pos hn
  have hps := side_pos hs
  have ht := times_le hn hs
  have hDl := DC_len v (show 0 < s * s by (with_reducible exact pos_of (by exact And.left (And.right (And.right (by assumption)))) (by decide)))
  (repeat (first | (apply ws_of; (· exact qs_cons (by exact q_loc (by rfl)) (by exact qs_cons (by exact q_loc (by rfl)) (by exact qs_nil)))) | refine w_call ?_ | refine s_expr ?_))
  refine c_check hn hs hsn ⟨rfl, ?_⟩
  (repeat (first | (apply w_of; (· (apply q_fdiv; (· (apply q_mul; (· exact q_gint (by rfl)); (· exact q_loc (by rfl)); (· (unfold big; with_reducible exact Or.inl (Nat.lt_of_le_of_lt (by exact Nat.le_refl _) (by decide)))))); (· exact q_loc (by rfl)); (· with_reducible exact nzc (by exact And.left (by assumption))); (· with_reducible exact Nat.lt_of_le_of_lt (by exact nab_c (by exact And.left (And.right (by assumption)))) (by decide))))) | (apply ws_of; (· exact qs_cons (by exact q_loc (by rfl)) (by exact qs_cons (by exact q_loc (by rfl)) (by exact qs_cons (by exact q_loc (by rfl)) (by exact qs_nil))))) | refine w_call ?_ | refine w_cons ?_ | refine s_assign ?_))
  refine c_corner hn hs hsn e fun g1 k1 n1 x1 e1 => ?_
  (repeat (apply ws_of; (· exact qs_cons (by exact q_loc (by rfl)) (by exact qs_nil))))
  refine c_to_block hs e1 fun g2 k2 n2 x2 e2 => ?_
  (repeat (first | refine w_call ?_ | refine w_cons ?_ | refine s_assign ?_))
  refine w_map (f := fun w => match w with | .int x => .int (x * ((8 * (s : Int)).fdiv n)) | _ => .none) fun Q' kQ => ?_
  (repeat (apply w_of; (· exact q_loc (by rfl))))
  refine kQ _ _ _ (by simp only [items, e2]; rfl) (by rw [hDl]; unfold lim; (with_reducible exact Nat.le_trans (by exact And.right (And.right (And.right (by assumption)))) (by decide))) ?_ ?_
  · intro w hw P' kP
    obtain ⟨i, hi⟩ := List.getElem?_of_mem hw
    have hlt := (List.getElem?_eq_some_iff.mp hi).1
    rw [DC_get v (by lia)] at hi
    obtain rfl := Option.some.inj hi
    (repeat (apply w_of; (· (apply q_mul; (· exact q_loc (by rfl)); (· exact q_loc (by rfl)); (· (unfold big; with_reducible exact Or.inr (Nat.lt_of_le_of_lt (by assumption) (by decide))))))))
    exact kP
  rw [dc_mul]
  (repeat (apply ws_of; (· exact qs_cons (by exact q_loc (by rfl)) (by exact qs_nil))))
  have hb : (v * (8 * (s : Int)).fdiv n).natAbs < 2 ^ 40 := by
    rw [Int.natAbs_mul]
    have := Nat.mul_le_mul (show v.natAbs ≤ 2 ^ 30 by (with_reducible exact Nat.le_trans (by exact Nat.le_of_lt (by assumption)) (by decide))) ht
    (with_reducible exact Nat.lt_of_le_of_lt (by assumption) (by decide))
  refine c_inverse hs (get_last _ _) hb fun g3 k3 n3 x3 e3 => ?_
  (repeat (refine s_ret ?_))
  refine w_map (f := fun u1 => .int ((v + n / 2).fdiv n)) fun Q' kQ => ?_
  (repeat (apply w_of; (· exact q_loc (by rfl))))
  refine kQ _ _ _ (by simp only [items, e3]; rfl) (by simp [lim]; (with_reducible exact Nat.le_trans (by exact And.right (And.right (And.right (by assumption)))) (by decide))) ?_ ?_
  · intro w hw P' kP
    have : w = .int ((v * (8 * (s : Int)).fdiv n + s / 2).fdiv s) := (List.mem_replicate.mp hw).2
    subst this
    (repeat (apply w_of; (· (apply q_shr; (· (apply q_add; (· exact q_loc (by rfl)); (· (apply q_fdiv; (· exact q_gint (by rfl)); (· exact q_int); (· decide); (· decide))))); (· exact q_int); (· decide)))))
    rw [← samples_law v hn hs hsn h2] at kP
    exact kP
  · refine k _ _ ?_ (((x1.trans x2).push _).trans (x3.push _)) ?_
    · have := x1.len; have := x2.len; have := x3.len; simp at this ⊢; lia
    · rw [get_last, List.map_replicate]

end
/-! LI -/
section
set_option maxRecDepth 4000
set_option linter.unusedVariables false

variable {h : MH} {Q : MV → MH → Prop}

noncomputable def mxL : List Int → Int
  | [] => 0
  | a :: r => if mxL r < a then a else mxL r
theorem mxL_ok : ∀ {xs : List Int}, xs ≠ [] → (∀ a ∈ xs, 0 < a) → mxL xs ∈ xs ∧ (∀ a ∈ xs, a ≤ mxL xs)
  | [a], _, hp => by have := hp a (by simp); simp [mxL]; lia
  | a :: b :: r, _, hp => by
    obtain ⟨i1, i2⟩ := mxL_ok (xs := b :: r) (by simp) fun x hx => hp x (by simp at hx ⊢; right; exact hx)
    unfold mxL
    split
    · rename_i hlt
      refine ⟨by simp, fun x hx => ?_⟩
      rcases List.mem_cons.mp hx with rfl | hx
      · exact Int.le_refl _
      · have := i2 x hx; lia
    · rename_i hlt
      refine ⟨by simp at i1 ⊢; right; exact i1, fun x hx => ?_⟩
      rcases List.mem_cons.mp hx with rfl | hx
      · lia
      · exact i2 x hx

noncomputable abbrev Cs := List (Int × Int)
structure FrameW (h : MH) (kf : Nat) (W H n : Int) (cs : Cs) (kc : Nat) (ks : List Nat) : Prop where
  f1 : h[kf]? = some (.inst 1 [(4, .str), (5, .int 8), (6, .int H), (7, .int W), (8, .ref kc), (9, .int n)])
  f2 : h[kc]? = some (.list (ks.map MV.ref))
  f3 : ks.length = cs.length
  f4 : ∀ (i : Nat) k c, ks[i]? = some k → cs[i]? = some c → ∃ id, h[k]? = some (.inst 0 [(0, .int id), (1, .int c.1), (2, .int c.2), (3, .int 0)])
structure FrameAt (h : MH) (kf : Nat) (W H n : Int) (cs : Cs) : Prop where
  ex : ∃ (kc : Nat) (ks : List Nat), FrameW h kf W H n cs kc ks
  ne : cs ≠ []
  few : cs.length ≤ 3
  pos : ∀ c ∈ cs, 1 ≤ c.1 ∧ c.1 ≤ 4 ∧ 1 ≤ c.2 ∧ c.2 ≤ 4
  w : 1 ≤ W ∧ W ≤ 20
  hh : 1 ≤ H ∧ H ≤ 20
  n8 : 1 ≤ n ∧ n ≤ 8
variable {kf : Nat} {W H n : Int} {cs : Cs}
theorem FrameAt.ext {h' : MH} (F : FrameAt h kf W H n cs) (x : Ext [] h h') : FrameAt h' kf W H n cs :=
  ⟨let ⟨kc, ks, a, b, c, d⟩ := F.ex; ⟨kc, ks, x.get a, x.get b, c, fun i k e z1 z2 => let ⟨id, q⟩ := d i k e z1 z2; ⟨id, x.get q⟩⟩, F.ne, F.few, F.pos, F.w, F.hh, F.n8⟩
/-- the heap has changed at a list that is none of the frame's -/
theorem FrameAt.ext1 {h' : MH} {k0 : Nat} {vs : List MV} (F : FrameAt h kf W H n cs) (x : Ext [k0] h h') (e : h[k0]? = some (.list vs)) (hv : ∀ k r, vs ≠ .ref k :: r) : FrameAt h' kf W H n cs := by
  refine ⟨?_, F.ne, F.few, F.pos, F.w, F.hh, F.n8⟩
  obtain ⟨kc, ks, a, b, c, d⟩ := F.ex
  refine ⟨kc, ks, x.get a (by simp; exact ne_of a e (by simp)), x.get b ?_, c, fun i k z z1 z2 => ?_⟩
  · simp
    refine ne_of b e ?_
    have hc := F.ne
    intro q
    cases ks with
    | nil => simp at c; exact hc (List.length_eq_zero_iff.mp c.symm)
    | cons k ks => simp at q; exact hv _ _ q.symm
  · obtain ⟨id, q⟩ := d i k z z1 z2
    exact ⟨id, x.get q (by simp; exact ne_of q e (by simp))⟩

theorem mx_pos (F : FrameAt h kf W H n cs) : 1 ≤ mxL (cs.map (·.1)) ∧ mxL (cs.map (·.1)) ≤ 4 ∧ 1 ≤ mxL (cs.map (·.2)) ∧ mxL (cs.map (·.2)) ≤ 4 := by
  have hne : cs.map (·.1) ≠ [] := by simp [F.ne]
  have hne2 : cs.map (·.2) ≠ [] := by simp [F.ne]
  obtain ⟨a, _⟩ := mxL_ok hne fun a ha => by obtain ⟨c, hc, rfl⟩ := List.mem_map.mp ha; have := F.pos c hc; (with_reducible exact pos_i (by exact And.left (by assumption)))
  obtain ⟨b, _⟩ := mxL_ok hne2 fun a ha => by obtain ⟨c, hc, rfl⟩ := List.mem_map.mp ha; have := F.pos c hc; (with_reducible exact pos_i (by exact And.left (And.right (And.right (by assumption)))))
  obtain ⟨c, hc, e⟩ := List.mem_map.mp a
  obtain ⟨d, hd, e'⟩ := List.mem_map.mp b
  have := F.pos c hc
  have := F.pos d hd
  omega

/-- the comprehension over the components' sampling -/
theorem w_comps {l : Loc} {elt : ME} {kc : Nat} {ks : List Nat} {f : Int × Int → Int} {src : ME} (F : ks.length = cs.length) (few : cs.length ≤ 3) (e : h[kc]? = some (.list (ks.map MV.ref)))
    (hsrc : ∀ Q', Q' (.ref kc) h → WE l h src Q')
    (he : ∀ (i : Nat) k c, ks[i]? = some k → cs[i]? = some c → ∀ l', WE (some (.ref k) :: l') h elt fun w h' => w = .int (f c) ∧ h' = h)
    (k : Q (.ref h.length) (h ++ [.list ((cs.map f).map MV.int)])) {caps : List Nat} : WE l h (.comp elt src caps) Q := by
  refine w_comp (I := fun i ws h' => h' = h ∧ ws = ((cs.take i).map f).map MV.int) (hsrc _ ⟨ks.map MV.ref, fun u1 u2 h' z => by rw [z.1]; simp only [items, e], ⟨rfl, by simp⟩, fun i v ws h' z hv => ?_, fun ws h' z => ?_⟩)
  · obtain ⟨rfl, rfl⟩ := z
    rw [List.getElem?_map] at hv
    obtain ⟨k', hk, rfl⟩ := Option.map_eq_some_iff.mp hv
    have hlt := (List.getElem?_eq_some_iff.mp hk).1
    have hc : cs[i]? = some cs[i] := List.getElem?_eq_getElem (by omega)
    refine (he i k' _ hk hc _).mono fun w h'' q => ⟨q.2, ?_⟩
    rw [q.1, List.take_add_one, hc, List.map_append, List.map_append]; rfl
  · obtain ⟨rfl, rfl⟩ := z
    have hl : (ks.map MV.ref).length = cs.length := by rw [List.length_map, F]
    simp only [hl, List.take_length]
    refine ⟨by simp [lim]; (with_reducible exact Nat.le_trans (by assumption) (by decide)), k⟩

theorem c_most_across (F : FrameAt h kf W H n cs) (k : ∀ h', Ext [] h h' → Q (.int (mxL (cs.map (·.1)))) h') : WCall f_Frame_most_across [.ref kf] h Q := by
  refine callW (by rfl) (by rfl) ?_
  unfold b_Frame_most_across
  obtain ⟨kc, ks, f1, f2, f3, f4⟩ := F.ex
  (repeat (first | refine w_cons ?_ | refine s_ret ?_ | refine w_bi ?_))
  refine w_comps (cs := cs) (kc := kc) (f := fun c => c.1) f3 F.few f2 (fun Q' z => ?_) (fun i k' c z1 z2 l' => ?_) ?_
  · (repeat (first | (apply w_of; (· exact q_loc (by rfl))) | refine w_attr ?_))
    first | exact pAttr f1 rfl rfl z | exact pMeth f1 rfl rfl z
  · obtain ⟨id, z⟩ := f4 i k' c z1 z2
    (repeat (first | (apply w_of; (· exact q_loc (by rfl))) | refine w_attr ?_))
    exact ⟨_, _, _, _, rfl, z, rfl, rfl, rfl, rfl⟩
  · (repeat (apply ws_of; (· exact qs_nil)))
    obtain ⟨m1, m2⟩ := mxL_ok (xs := cs.map (·.1)) (by simp [F.ne]) fun a ha => by obtain ⟨c, hc, rfl⟩ := List.mem_map.mp ha; have := F.pos c hc; (with_reducible exact pos_i (by exact And.left (by assumption)))
    exact pBi (.maxL (get_last _ _) m1 m2) (k _ ((Ext.refl h).push _))
theorem c_most_down (F : FrameAt h kf W H n cs) (k : ∀ h', Ext [] h h' → Q (.int (mxL (cs.map (·.2)))) h') : WCall f_Frame_most_down [.ref kf] h Q := by
  refine callW (by rfl) (by rfl) ?_
  unfold b_Frame_most_down
  obtain ⟨kc, ks, f1, f2, f3, f4⟩ := F.ex
  (repeat (first | refine w_cons ?_ | refine s_ret ?_ | refine w_bi ?_))
  refine w_comps (cs := cs) (kc := kc) (f := fun c => c.2) f3 F.few f2 (fun Q' z => ?_) (fun i k' c z1 z2 l' => ?_) ?_
  · (repeat (first | (apply w_of; (· exact q_loc (by rfl))) | refine w_attr ?_))
    first | exact pAttr f1 rfl rfl z | exact pMeth f1 rfl rfl z
  · obtain ⟨id, z⟩ := f4 i k' c z1 z2
    (repeat (first | (apply w_of; (· exact q_loc (by rfl))) | refine w_attr ?_))
    exact ⟨_, _, _, _, rfl, z, rfl, rfl, rfl, rfl⟩
  · (repeat (apply ws_of; (· exact qs_nil)))
    obtain ⟨m1, m2⟩ := mxL_ok (xs := cs.map (·.2)) (by simp [F.ne]) fun a ha => by obtain ⟨c, hc, rfl⟩ := List.mem_map.mp ha; have := F.pos c hc; (with_reducible exact pos_i (by exact And.left (And.right (And.right (by assumption)))))
    exact pBi (.maxL (get_last _ _) m1 m2) (k _ ((Ext.refl h).push _))

noncomputable def pt (m n : Int) : Int := (m + n - 1).fdiv n
noncomputable abbrev mxA (cs : Cs) : Int := mxL (cs.map (·.1))
noncomputable abbrev mxD (cs : Cs) : Int := mxL (cs.map (·.2))

/-- a frame's field -/
theorem a_frame {a : Nat} {v : MV} (F : FrameAt h kf W H n cs) (e : ∀ kc, ([(4, .str), (5, .int 8), (6, .int H), (7, .int W), (8, .ref kc), (9, .int n)] : List (Nat × MV)).lookup a = some v) (d : prg.dat 1 a = true) (k : Q v h) : PAttr h (.ref kf) a Q := by
  obtain ⟨kc, ks, f1, _⟩ := F.ex
  exact ⟨_, _, _, _, rfl, f1, e kc, d, k⟩
theorem m_frame {m f : Nat} {l : Loc} {es : List ME} (F : FrameAt h kf W H n cs) (e : ∀ kc, ([(4, .str), (5, .int 8), (6, .int H), (7, .int W), (8, .ref kc), (9, .int n)] : List (Nat × MV)).lookup m = Option.none) (d : prg.meth 1 m = some f) (k : WEs l h es fun vs h2 => WCall f (.ref kf :: vs) h2 Q) : PMeth l h (.ref kf) m es Q := by
  obtain ⟨kc, ks, f1, _⟩ := F.ex
  exact ⟨_, _, _, _, rfl, f1, e kc, d, k⟩

theorem c_mcus_across (F : FrameAt h kf W H n cs) (k : ∀ h', Ext [] h h' → Q (.int (pt W (n * mxA cs))) h') : WCall f_Frame_mcus_across [.ref kf] h Q := by
  refine callW (by rfl) (by rfl) ?_
  unfold b_Frame_mcus_across
  have hm := mx_pos F
  have hn := F.n8
  (repeat (first | (apply w_of; (· exact q_loc (by rfl))) | refine w_call ?_ | refine w_cons ?_ | refine s_ret ?_ | refine w_attr ?_))
  refine a_frame F (fun _ => by rfl) (by rfl) ?_
  (repeat (first | (apply w_of; (· exact q_loc (by rfl))) | refine w_bin ?_ | refine w_cons ?_ | refine w_attr ?_))
  refine a_frame F (fun _ => by rfl) (by rfl) ?_
  (repeat (first | (apply w_of; (· exact q_loc (by rfl))) | refine w_meth ?_))
  refine m_frame F (fun _ => by rfl) (by rfl) ?_
  (repeat (apply ws_of; (· exact qs_nil)))
  refine c_most_across F fun h' x => ?_
  (repeat (first | (apply ws_of; (· exact qs_nil)) | (refine o_mul ?_ ?_; (· (unfold big; lia)))))
  refine c_parts ?_ ?_ (k h' x)
  · exact Int.ne_of_gt (Int.mul_pos (by (with_reducible exact pos_i (by exact And.left (by assumption)))) (by (with_reducible exact pos_i (by exact And.left (by assumption)))))
  · rw [Int.natAbs_mul]
    have := Nat.mul_le_mul (show n.natAbs ≤ 8 by lia) (show (mxL (cs.map (·.1))).natAbs ≤ 4 by lia)
    (with_reducible exact Nat.lt_of_le_of_lt (by assumption) (by decide))
theorem c_mcus_down (F : FrameAt h kf W H n cs) (k : ∀ h', Ext [] h h' → Q (.int (pt H (n * mxD cs))) h') : WCall f_Frame_mcus_down [.ref kf] h Q := by
  refine callW (by rfl) (by rfl) ?_
  unfold b_Frame_mcus_down
  have hm := mx_pos F
  have hn := F.n8
  (repeat (first | (apply w_of; (· exact q_loc (by rfl))) | refine w_call ?_ | refine w_cons ?_ | refine s_ret ?_ | refine w_attr ?_))
  refine a_frame F (fun _ => by rfl) (by rfl) ?_
  (repeat (first | (apply w_of; (· exact q_loc (by rfl))) | refine w_bin ?_ | refine w_cons ?_ | refine w_attr ?_))
  refine a_frame F (fun _ => by rfl) (by rfl) ?_
  (repeat (first | (apply w_of; (· exact q_loc (by rfl))) | refine w_meth ?_))
  refine m_frame F (fun _ => by rfl) (by rfl) ?_
  (repeat (apply ws_of; (· exact qs_nil)))
  refine c_most_down F fun h' x => ?_
  (repeat (first | (apply ws_of; (· exact qs_nil)) | (refine o_mul ?_ ?_; (· (unfold big; lia)))))
  refine c_parts ?_ ?_ (k h' x)
  · exact Int.ne_of_gt (Int.mul_pos (by (with_reducible exact pos_i (by exact And.left (by assumption)))) (by (with_reducible exact pos_i (by exact And.left (And.right (And.right (by assumption)))))))
  · rw [Int.natAbs_mul]
    have := Nat.mul_le_mul (show n.natAbs ≤ 8 by lia) (show (mxL (cs.map (·.2))).natAbs ≤ 4 by lia)
    (with_reducible exact Nat.lt_of_le_of_lt (by assumption) (by decide))

/-- the component at a place -/
theorem i_comp {p : Nat} {c : Int × Int} (F : FrameAt h kf W H n cs) (hp : cs[p]? = some c) {Q : MV → MH → Prop} {l : Loc}
    (k : ∀ kc id, h[kc]? = some (.inst 0 [(0, .int id), (1, .int c.1), (2, .int c.2), (3, .int 0)]) → Q (.ref kc) h) {e i : ME} (he : ∀ Q', Q' (.ref kf) h → WE l h e Q') (hi : ∀ Q', Q' (.int p) h → WE l h i Q') : WE l h (.item (.attr e 8) i) Q := by
  obtain ⟨kc, ks, f1, f2, f3, f4⟩ := F.ex
  have few := F.few
  have hlt := (List.getElem?_eq_some_iff.mp hp).1
  have hk : ks[p]? = some ks[p] := List.getElem?_eq_getElem (by omega)
  obtain ⟨id, z⟩ := f4 p _ _ hk hp
  refine w_item (w_attr (he _ ⟨_, _, _, _, rfl, f1, rfl, rfl, hi _ ?_⟩))
  exact i_list f2 (by (exact Int.natCast_nonneg _)) (by rw [List.getElem?_map]; simp only [Int.toNat_natCast, hk]; rfl) (by rw [List.length_map]; unfold lim; lia) (k _ id z)

end
/-! LJ -/
section
set_option maxRecDepth 4000
set_option linter.unusedVariables false

variable {h : MH} {Q : MV → MH → Prop} {kf : Nat} {W H n : Int} {cs : Cs}

theorem c_plane_size {p : Nat} {c : Int × Int} (F : FrameAt h kf W H n cs) (hp : cs[p]? = some c) (k : ∀ h', Ext [] h h' → Q (.tup [.int (pt (W * c.1) (mxA cs)), .int (pt (H * c.2) (mxD cs))]) h') : WCall f_Frame_plane_size [.ref kf, .int p] h Q := by
  refine callW (by rfl) (by rfl) ?_
  unfold b_Frame_plane_size
  have hm := mx_pos F
  have hn := F.n8
  have hw := F.w
  have hh := F.hh
  have hc := F.pos c (List.mem_of_getElem? hp)
  refine s_assign (i_comp F hp (fun kc id z => ?_) (fun Q' z => w_loc (by rfl) z) (fun Q' z => w_loc (by rfl) z))
  (repeat (first | (apply w_of; (· exact q_loc (by rfl))) | refine w_bin ?_ | refine w_call ?_ | refine w_cons ?_ | refine s_assign ?_ | refine w_attr ?_))
  refine a_frame F (fun _ => by rfl) (by rfl) ?_
  (repeat (first | (apply w_of; (· exact q_loc (by rfl))) | refine w_attr ?_))
  first | refine pAttr z rfl rfl ?_ | refine pMeth z rfl rfl ?_
  repeat (first | (apply w_of; (· exact q_loc (by rfl))) | refine w_cons ?_ | (refine o_mul ?_ ?_; (· (unfold big; lia))) | refine w_meth ?_ | refine o_mul (.inr (by unfold big; lia)) ?_)
  refine m_frame F (fun _ => by rfl) (by rfl) ?_
  (repeat (apply ws_of; (· exact qs_nil)))
  refine c_most_across F fun h1 x1 => ?_
  (repeat (apply ws_of; (· exact qs_nil)))
  refine c_parts (by (with_reducible exact nz_of (by exact And.left (by assumption)))) (by lia) ?_
  (repeat (first | (apply w_of; (· exact q_loc (by rfl))) | refine w_bin ?_ | refine w_call ?_ | refine w_cons ?_ | refine s_ret ?_ | refine w_tup ?_ | refine w_attr ?_))
  refine a_frame (F.ext x1) (fun _ => by rfl) (by rfl) ?_
  (repeat (first | (apply w_of; (· exact q_loc (by rfl))) | refine w_attr ?_))
  first | refine pAttr (x1.get z) rfl rfl ?_ | refine pMeth (x1.get z) rfl rfl ?_
  repeat (first | (apply w_of; (· exact q_loc (by rfl))) | refine w_cons ?_ | (refine o_mul ?_ ?_; (· (unfold big; lia))) | refine w_meth ?_ | refine o_mul (.inr (by unfold big; lia)) ?_)
  refine m_frame (F.ext x1) (fun _ => by rfl) (by rfl) ?_
  (repeat (apply ws_of; (· exact qs_nil)))
  refine c_most_down (F.ext x1) fun h2 x2 => ?_
  (repeat (apply ws_of; (· exact qs_nil)))
  refine c_parts (by (with_reducible exact nz_of (by exact And.left (And.right (And.right (by assumption)))))) (by lia) ?_
  (repeat (apply ws_of; (· exact qs_nil)))
  exact ⟨by (simp [lim]; done), k h2 (x1.trans x2)⟩

theorem c_blocks {p : Nat} {c : Int × Int} (F : FrameAt h kf W H n cs) (hp : cs[p]? = some c) (k : ∀ h', Ext [] h h' → Q (.tup [.int (pt (pt (W * c.1) (mxA cs)) n), .int (pt (pt (H * c.2) (mxD cs)) n)]) h') : WCall f_Frame_blocks [.ref kf, .int p] h Q := by
  refine callW (by rfl) (by rfl) ?_
  unfold b_Frame_blocks
  have hn := F.n8
  (repeat (first | (apply w_of; (· exact q_loc (by rfl))) | refine s_unpack ?_ | refine w_meth ?_))
  refine m_frame F (fun _ => by rfl) (by rfl) ?_
  (repeat (apply ws_of; (· exact qs_cons (by exact q_loc (by rfl)) (by exact qs_nil))))
  refine c_plane_size F hp fun h1 x1 => ?_
  refine pUnp rfl (fun u1 u2 u3 => by simp) rfl ?_
  (repeat (first | (apply w_of; (· exact q_loc (by rfl))) | refine w_call ?_ | refine w_cons ?_ | refine s_ret ?_ | refine w_tup ?_ | refine w_attr ?_))
  refine a_frame (F.ext x1) (fun _ => by rfl) (by rfl) ?_
  (repeat (apply ws_of; (· exact qs_nil)))
  refine c_parts (by (with_reducible exact nz_of (by exact And.left (by assumption)))) (by lia) ?_
  (repeat (first | (apply w_of; (· exact q_loc (by rfl))) | refine w_call ?_ | refine w_cons ?_ | refine w_attr ?_))
  refine a_frame (F.ext x1) (fun _ => by rfl) (by rfl) ?_
  (repeat (apply ws_of; (· exact qs_nil)))
  refine c_parts (by (with_reducible exact nz_of (by exact And.left (by assumption)))) (by lia) ?_
  (repeat (apply ws_of; (· exact qs_nil)))
  exact ⟨by (simp [lim]; done), k h1 x1⟩

theorem pt_le {a b : Int} (h0 : 0 ≤ a) (h1 : 1 ≤ b) : 0 ≤ pt a b ∧ pt a b ≤ a := by
  unfold pt
  rw [Int.fdiv_eq_ediv_of_nonneg _ (by (with_reducible exact nn_i (by assumption)))]
  constructor
  · exact Int.ediv_nonneg (by lia) (by (with_reducible exact nn_i (by assumption)))
  · by_cases ha : a = 0
    · subst ha
      have : (0 + b - 1) / b = 0 := Int.ediv_eq_zero_of_lt (by lia) (by lia)
      omega
    · apply Int.le_of_lt_add_one
      apply Int.ediv_lt_of_lt_mul (by (with_reducible exact pos_i (by assumption)))
      have := Int.mul_le_mul_of_nonneg_left (show (1 : Int) ≤ b by (with_reducible assumption)) (show (0 : Int) ≤ a by (with_reducible assumption))
      rw [Int.add_mul]; lia

theorem c_padded {p : Nat} {c : Int × Int} (F : FrameAt h kf W H n cs) (hp : cs[p]? = some c) (k : ∀ h', Ext [] h h' → Q (.tup [.int (pt W (n * mxA cs) * c.1), .int (pt H (n * mxD cs) * c.2)]) h') : WCall f_Frame_padded [.ref kf, .int p] h Q := by
  refine callW (by rfl) (by rfl) ?_
  unfold b_Frame_padded
  have hc := F.pos c (List.mem_of_getElem? hp)
  refine s_assign (i_comp F hp (fun kc id z => ?_) (fun Q' z => w_loc (by rfl) z) (fun Q' z => w_loc (by rfl) z))
  (repeat (first | (apply w_of; (· exact q_loc (by rfl))) | refine w_bin ?_ | refine w_cons ?_ | refine s_ret ?_ | refine w_tup ?_ | refine w_meth ?_))
  refine m_frame F (fun _ => by rfl) (by rfl) ?_
  (repeat (apply ws_of; (· exact qs_nil)))
  refine c_mcus_across F fun h1 x1 => ?_
  (repeat (first | (apply w_of; (· exact q_loc (by rfl))) | refine w_attr ?_))
  first | refine pAttr (x1.get z) rfl rfl ?_ | refine pMeth (x1.get z) rfl rfl ?_
  repeat (first | (apply w_of; (· exact q_loc (by rfl))) | refine w_bin ?_ | refine w_cons ?_ | (refine o_mul ?_ ?_; (· (unfold big; lia))) | refine w_meth ?_ | refine o_mul (.inr (by unfold big; lia)) ?_)
  refine m_frame (F.ext x1) (fun _ => by rfl) (by rfl) ?_
  (repeat (apply ws_of; (· exact qs_nil)))
  refine c_mcus_down (F.ext x1) fun h2 x2 => ?_
  (repeat (first | (apply w_of; (· exact q_loc (by rfl))) | refine w_attr ?_))
  first | refine pAttr ((x1.trans x2).get z) rfl rfl ?_ | refine pMeth ((x1.trans x2).get z) rfl rfl ?_
  repeat (first | (apply ws_of; (· exact qs_nil)) | (refine o_mul ?_ ?_; (· (unfold big; lia))) | refine o_mul (.inr (by unfold big; lia)) ?_)
  exact ⟨by (simp [lim]; done), k h2 (x1.trans x2)⟩

theorem c_scaled_size {s : Int} (F : FrameAt h kf W H n cs) (hs : s.natAbs ≤ 100) (k : Q (.tup [.int (pt (W * s) n), .int (pt (H * s) n)]) h) : WCall f_scaled_size [.ref kf, .int s] h Q := by
  refine callW (by rfl) (by rfl) ?_
  unfold b_scaled_size
  have hn := F.n8
  (repeat (first | (apply w_of; (· exact q_loc (by rfl))) | refine w_bin ?_ | refine w_call ?_ | refine w_cons ?_ | refine s_ret ?_ | refine w_tup ?_ | refine w_attr ?_))
  refine a_frame F (fun _ => by rfl) (by rfl) ?_
  repeat (first | (apply w_of; (· exact q_loc (by rfl))) | refine w_cons ?_ | (refine o_mul ?_ ?_; (· (unfold big; with_reducible exact Or.inr (Nat.lt_of_le_of_lt (by assumption) (by decide))))) | refine w_attr ?_ | refine o_mul (.inr (by unfold big; (with_reducible exact Nat.lt_of_le_of_lt (by assumption) (by decide)))) ?_)
  refine a_frame F (fun _ => by rfl) (by rfl) ?_
  (repeat (apply ws_of; (· exact qs_nil)))
  refine c_parts (by (with_reducible exact nz_of (by exact And.left (by assumption)))) (by lia) ?_
  (repeat (first | (apply w_of; (· exact q_loc (by rfl))) | refine w_bin ?_ | refine w_call ?_ | refine w_cons ?_ | refine w_attr ?_))
  refine a_frame F (fun _ => by rfl) (by rfl) ?_
  repeat (first | (apply w_of; (· exact q_loc (by rfl))) | refine w_cons ?_ | (refine o_mul ?_ ?_; (· (unfold big; with_reducible exact Or.inr (Nat.lt_of_le_of_lt (by assumption) (by decide))))) | refine w_attr ?_ | refine o_mul (.inr (by unfold big; (with_reducible exact Nat.lt_of_le_of_lt (by assumption) (by decide)))) ?_)
  refine a_frame F (fun _ => by rfl) (by rfl) ?_
  (repeat (apply ws_of; (· exact qs_nil)))
  refine c_parts (by (with_reducible exact nz_of (by exact And.left (by assumption)))) (by lia) ?_
  (repeat (apply ws_of; (· exact qs_nil)))
  exact ⟨by (simp [lim]; done), k⟩

/-! ### a component's side -/
/-- the side as the law reckons it -/
noncomputable def sideL (n : Int) (mx my : Int) (c : Int × Int) (s : Int) : Int :=
  let t := fun (f t : Int) => if t * s ≤ n ∧ (mx * s).fmod (c.1 * (t * s)) = 0 ∧ (my * s).fmod (c.2 * (t * s)) = 0 then t * s else f
  t (t (t s 2) 4) 8

theorem c_law_side {p : Nat} {c : Int × Int} {s : Int} (F : FrameAt h kf W H n cs) (hp : cs[p]? = some c) (hs : 1 ≤ s ∧ s ≤ 8) (k : ∀ h', Ext [] h h' → Q (.int (sideL n (mxA cs) (mxD cs) c s)) h') : WCall f_law_side [.ref kf, .int p, .int s] h Q := by
  refine callW (by rfl) (by rfl) ?_
  unfold b_law_side
  obtain ⟨kc, ks, f1, f2, f3, f4⟩ := F.ex
  have hm := mx_pos F
  have hn := F.n8
  have hc := F.pos c (List.mem_of_getElem? hp)
  (repeat (first | refine w_bin ?_ | refine w_cons ?_ | refine s_assign ?_ | refine w_bi ?_))
  refine w_comps (cs := cs) (kc := kc) (f := fun c => c.1) f3 F.few f2 (fun Q' z => ?_) (fun i k' c z1 z2 l' => ?_) ?_
  · (repeat (first | (apply w_of; (· exact q_loc (by rfl))) | refine w_attr ?_))
    first | exact pAttr f1 rfl rfl z | exact pMeth f1 rfl rfl z
  · obtain ⟨id, z⟩ := f4 i k' c z1 z2
    (repeat (first | (apply w_of; (· exact q_loc (by rfl))) | refine w_attr ?_))
    exact ⟨_, _, _, _, rfl, z, rfl, rfl, rfl, rfl⟩
  (repeat (apply ws_of; (· exact qs_nil)))
  obtain ⟨m1, m2⟩ := mxL_ok (xs := cs.map (·.1)) (by simp [F.ne]) fun a ha => by obtain ⟨c, hc, rfl⟩ := List.mem_map.mp ha; have := F.pos c hc; (with_reducible exact pos_i (by exact And.left (by assumption)))
  refine pBi (.maxL (get_last _ _) m1 m2) ?_
  have x1 : Ext [] h (h ++ [MO.list ((cs.map (·.1)).map MV.int)]) := (Ext.refl h).push _
  repeat (first | (apply w_of; (· exact q_loc (by rfl))) | refine w_bin ?_ | refine w_cons ?_ | (refine o_mul ?_ ?_; (· (unfold big; lia))) | refine s_assign ?_ | refine w_bi ?_ | refine o_mul (.inr (by unfold big; lia)) ?_)
  refine w_comps (cs := cs) (kc := kc) (f := fun c => c.2) f3 F.few (x1.get f2) (fun Q' z => ?_) (fun i k' c z1 z2 l' => ?_) ?_
  · (repeat (first | (apply w_of; (· exact q_loc (by rfl))) | refine w_attr ?_))
    first | exact pAttr (x1.get f1) rfl rfl z | exact pMeth (x1.get f1) rfl rfl z
  · obtain ⟨id, z⟩ := f4 i k' c z1 z2
    (repeat (first | (apply w_of; (· exact q_loc (by rfl))) | refine w_attr ?_))
    exact ⟨_, _, _, _, rfl, x1.get z, rfl, rfl, rfl, rfl⟩
  (repeat (apply ws_of; (· exact qs_nil)))
  obtain ⟨m3, m4⟩ := mxL_ok (xs := cs.map (·.2)) (by simp [F.ne]) fun a ha => by obtain ⟨c, hc, rfl⟩ := List.mem_map.mp ha; have := F.pos c hc; (with_reducible exact pos_i (by exact And.left (And.right (And.right (by assumption)))))
  refine pBi (.maxL (get_last _ _) m3 m4) ?_
  have x2 : Ext [] h (h ++ [MO.list ((cs.map (·.1)).map MV.int)] ++ [MO.list ((cs.map (·.2)).map MV.int)]) := x1.push _
  generalize h ++ [MO.list ((cs.map (·.1)).map MV.int)] ++ [MO.list ((cs.map (·.2)).map MV.int)] = g at x2
  have G := F.ext x2
  repeat (first | (apply w_of; (· exact q_loc (by rfl))) | refine w_cons ?_ | (refine o_mul ?_ ?_; (· (unfold big; lia))) | refine s_assignT ?_ | refine w_item ?_ | refine w_attr ?_ | refine o_mul (.inr (by unfold big; lia)) ?_)
  obtain ⟨kc2, ks2, g1, g2, g3, g4⟩ := G.ex
  have few := F.few
  have hlt := (List.getElem?_eq_some_iff.mp hp).1
  have hk : ks2[p]? = some ks2[p] := List.getElem?_eq_getElem (by omega)
  obtain ⟨id, z⟩ := g4 p _ _ hk hp
  generalize ks2[p] = ko at hk z
  first | refine pAttr g1 rfl rfl ?_ | refine pMeth g1 rfl rfl ?_
  (repeat (apply w_of; (· exact q_loc (by rfl))))
  refine i_list g2 (by (exact Int.natCast_nonneg _)) (by rw [List.getElem?_map]; simp only [Int.toNat_natCast, hk]; rfl) (by rw [List.length_map]; unfold lim; lia) ?_
  (repeat (apply ws_of; (· exact qs_cons (by exact q_loc (by rfl)) (by exact qs_nil))))
  refine ⟨rfl, ?_⟩
  let t := fun (f t : Int) => if t * s ≤ n ∧ (mxA cs * s).fmod (c.1 * (t * s)) = 0 ∧ (mxD cs * s).fmod (c.2 * (t * s)) = 0 then t * s else f
  refine s_for0 (I := fun i l h' => h' = g ∧ ∃ u : Nat → Option MV, l = [some (.ref kf), some (.int p), some (.int s), some (.int (mxA cs * s)), some (.int (mxD cs * s)), u 5, some (.ref ko), some (.int ((([2, 4, 8] : List Int).take i).foldl t s)), u 8]) fun I' into out Q' kQ => ?_
  (repeat (first | (apply ws_of; (· exact qs_cons (by exact q_int) (by exact qs_cons (by exact q_int) (by exact qs_cons (by exact q_int) (by exact qs_nil))))) | refine w_tup ?_))
  refine ⟨by decide, ?_⟩
  refine kQ _ _ (([2, 4, 8] : List Int).map MV.int) (fun u1 u2 u3 u4 => rfl) (into _ _ _ ⟨rfl, fr rfl⟩) ?_ ?_
  · intro i v l h' hI hv R' kR
    have kR := fun l h q => kR l h (into _ l h q)
    obtain ⟨rfl, u, rfl⟩ := out _ _ _ hI
    rw [List.getElem?_map] at hv
    obtain ⟨T, hT, rfl⟩ := Option.map_eq_some_iff.mp hv
    have hT' : 2 ≤ T ∧ T ≤ 8 := (by decide : ∀ T ∈ ([2, 4, 8] : List Int), 2 ≤ T ∧ T ≤ 8) T (List.mem_of_getElem? hT)
    have hts : 1 ≤ T * s := Int.mul_pos (Int.le_trans (by decide) hT'.1) hs.1
    have d1 : c.1 * (T * s) ≠ 0 := Int.ne_of_gt (Int.mul_pos (by (with_reducible exact pos_i (by exact And.left (by assumption)))) (by (with_reducible exact pos_i (by assumption))))
    have d2 : c.2 * (T * s) ≠ 0 := Int.ne_of_gt (Int.mul_pos (by (with_reducible exact pos_i (by exact And.left (And.right (And.right (by assumption)))))) (by (with_reducible exact pos_i (by assumption))))
    have key : (([2, 4, 8] : List Int).take (i + 1)).foldl t s = t ((([2, 4, 8] : List Int).take i).foldl t s) T := by
      rw [List.take_add_one, hT, List.foldl_append]; rfl
    generalize (([2, 4, 8] : List Int).take i).foldl t s = f at key ⊢
    have out : ∀ f' a b, t f T = f' → R' Option.none [some (.ref kf), some (.int p), some (.int s), some (.int (mxA cs * s)), some (.int (mxD cs * s)), a, some (.ref ko), some (.int f'), b] h' := fun f' a b q =>
      kR _ _ ⟨rfl, by rw [key, q]; exact fr rfl⟩
    repeat (first | (apply w_of; (· (apply q_mul; (· exact q_loc (by rfl)); (· exact q_loc (by rfl)); (· (unfold big; lia))))) | (apply w_of; (· exact q_loc (by rfl))) | refine s_assign ?_ | refine s_ite ?_ | refine b_cmp ?_ | refine b_and ?_ | refine a_cons ?_ | refine w_attr ?_ | refine o_mul (.inr (by unfold big; (with_reducible exact Nat.lt_of_le_of_lt (by exact nab_c (by assumption)) (by decide)))) ?_)
    refine a_frame G (fun _ => by rfl) (by rfl) ?_
    (repeat (refine p_int (by rfl) ?_))
    have yes : (T * s ≤ n ∧ (mxA cs * s).fmod (c.1 * (T * s)) = 0 ∧ (mxD cs * s).fmod (c.2 * (T * s)) = 0) → t f T = T * s := fun z => if_pos z
    have no : ¬ (T * s ≤ n ∧ (mxA cs * s).fmod (c.1 * (T * s)) = 0 ∧ (mxD cs * s).fmod (c.2 * (T * s)) = 0) → t f T = f := fun z => if_neg z
    refine ⟨fun z1 => ?_, fun z1 => ?_⟩
    · have z1 : T * s ≤ n := by simpa using z1
      (repeat (first | (apply w_of; (· exact q_loc (by rfl))) | refine w_bin ?_ | refine b_cmp ?_ | refine a_cons ?_ | refine w_attr ?_))
      first | refine pAttr z rfl rfl ?_ | refine pMeth z rfl rfl ?_
      repeat (first | (apply w_of; (· exact q_loc (by rfl))) | (apply w_of; (· exact q_int)) | (refine o_mul ?_ ?_; (· (unfold big; lia))) | (refine o_mod ?_ ?_; (· with_reducible assumption)) | refine p_int (by rfl) ?_ | refine o_mul (.inl (by unfold big; (with_reducible exact Nat.lt_of_le_of_lt (by exact nab_c (by assumption)) (by decide)))) ?_)
      refine ⟨fun z2 => ?_, fun z2 => ?_⟩
      · have z2 : (mxA cs * s).fmod (c.1 * (T * s)) = 0 := by simpa using z2
        (repeat (first | (apply w_of; (· exact q_loc (by rfl))) | refine w_bin ?_ | refine b_cmp ?_ | refine a_cons ?_ | refine w_attr ?_))
        first | refine pAttr z rfl rfl ?_ | refine pMeth z rfl rfl ?_
        repeat (first | (apply w_of; (· exact q_loc (by rfl))) | (apply w_of; (· exact q_int)) | (refine o_mul ?_ ?_; (· (unfold big; lia))) | (refine o_mod ?_ ?_; (· with_reducible assumption)) | refine p_int (by rfl) ?_ | refine o_mul (.inl (by unfold big; (with_reducible exact Nat.lt_of_le_of_lt (by exact nab_c (by assumption)) (by decide)))) ?_)
        refine ⟨fun z3 => ?_, fun z3 => ?_⟩
        · have z3 : (mxD cs * s).fmod (c.2 * (T * s)) = 0 := by simpa using z3
          (repeat (refine a_nil ?_))
          refine ⟨fun u1 => ?_, fun q => by simp at q⟩
          (repeat (first | (apply w_of; (· exact q_loc (by rfl))) | refine s_assign ?_ | refine s_nil ?_))
          exact out _ _ _ (yes ⟨z1, z2, z3⟩)
        · have z3 : ¬ (mxD cs * s).fmod (c.2 * (T * s)) = 0 := by simpa using z3
          refine ⟨fun q => by simp at q, fun u1 => ?_⟩
          (repeat (refine s_nil ?_))
          exact out _ _ _ (no fun q => z3 q.2.2)
      · have z2 : ¬ (mxA cs * s).fmod (c.1 * (T * s)) = 0 := by simpa using z2
        refine ⟨fun q => by simp at q, fun u1 => ?_⟩
        (repeat (refine s_nil ?_))
        exact out _ _ _ (no fun q => z2 q.2.1)
    · have z1 : ¬ T * s ≤ n := by simpa using z1
      refine ⟨fun q => by simp at q, fun u1 => ?_⟩
      (repeat (refine s_nil ?_))
      exact out _ _ _ (no fun q => z1 q.1)
  · intro l h' hI
    obtain ⟨rfl, u, rfl⟩ := out _ _ _ hI
    (repeat (first | (apply w_of; (· exact q_loc (by rfl))) | refine s_ret ?_))
    exact k h' x2

end
/-! LK -/
section
set_option maxRecDepth 4000
set_option linter.unusedVariables false

variable {h : MH} {Q : MV → MH → Prop} {kf : Nat} {W H n : Int} {cs : Cs}

noncomputable def WW (c : ME) (b : List MS) (l : Loc) (h : MH) (R : Option MV → Loc → MH → Prop) : Prop := ∃ o l' h', Ev prg (.W c b l h o l' h') ∧ R o l' h'
theorem ww_step {c : ME} {b : List MS} {l : Loc} {h : MH} {R : Option MV → Loc → MH → Prop} (k : WB l h c fun r h1 => (r = false → R Option.none l h1) ∧ (r = true → WSs l h1 b fun o l2 h2 => (o = Option.none → WW c b l2 h2 R) ∧ (∀ v, o = some v → R o l2 h2))) : WW c b l h R := by
  obtain ⟨r, h1, e1, k1, k2⟩ := k
  cases r
  · exact ⟨_, _, _, .of (.wend e1), k1 rfl⟩
  · obtain ⟨o, l2, h2, e2, q1, q2⟩ := k2 rfl
    cases o with
    | none => obtain ⟨o, l3, h3, e3, q⟩ := q1 rfl; exact ⟨_, _, _, .of (.wgo e1 e2 e3), q⟩
    | some v => exact ⟨_, _, _, .of (.wret e1 e2), q2 v rfl⟩
theorem s_while {c : ME} {b ss : List MS} {l : Loc} {R : Option MV → Loc → MH → Prop} (k : WW c b l h fun o l' h' => (o = Option.none → WSs l' h' ss R) ∧ (∀ r, o = some r → R o l' h')) : WSs l h (.while c b :: ss) R := w_while k

noncomputable def loopF (n A B a d : Int) : Nat → Int → Int
  | 0, x => x
  | k + 1, x => if x * 2 ≤ n ∧ A.fmod (2 * (a * x)) = 0 then (if B.fmod (2 * (d * x)) = 0 then loopF n A B a d k (x * 2) else x) else x

theorem c_side_of {p : Nat} {c : Int × Int} {s : Int} (F : FrameAt h kf W H n cs) (hp : cs[p]? = some c) (hs : 1 ≤ s ∧ s ≤ 8) (k : ∀ h', Ext [] h h' → Q (.int (loopF n (mxA cs * s) (mxD cs * s) c.1 c.2 4 s)) h') : WCall f_side_of [.ref kf, .int p, .int s] h Q := by
  refine callW (by rfl) (by rfl) ?_
  unfold b_side_of
  have hm := mx_pos F
  have hn := F.n8
  have hc := F.pos c (List.mem_of_getElem? hp)
  refine s_assign (i_comp F hp (fun ko id z => ?_) (fun Q' z => w_loc (by rfl) z) (fun Q' z => w_loc (by rfl) z))
  (repeat (first | (apply w_of; (· exact q_loc (by rfl))) | refine s_assign ?_))
  refine s_while ?_
  have key : ∀ (fuel : Nat) (x : Int) (h1 : MH), 1 ≤ x → x ≤ 100 → 8 < x * 2 ^ fuel * 2 → Ext [] h h1 → ∀ R : Option MV → Loc → MH → Prop,
      (∀ h2, Ext [] h h2 → R Option.none [some (.ref kf), some (.int p), some (.int s), some (.ref ko), some (.int (loopF n (mxA cs * s) (mxD cs * s) c.1 c.2 fuel x))] h2) →
      (∀ l' h2, Ext [] h h2 → R (some (.int (loopF n (mxA cs * s) (mxD cs * s) c.1 c.2 fuel x))) l' h2) →
      WW (.and [.cmp .le (.bin .mul (.loc 4) (.int 2)) (.attr (.loc 0) 9), .call 17 [.bin .mul (.meth (.loc 0) 13 []) (.loc 2), .bin .mul (.attr (.loc 3) 1) (.loc 4)]])
        [.ite (.not (.call 17 [.bin .mul (.meth (.loc 0) 14 []) (.loc 2), .bin .mul (.attr (.loc 3) 2) (.loc 4)])) [.ret (.loc 4)] [], .assign 4 (.bin .mul (.loc 4) (.int 2))]
        [some (.ref kf), some (.int p), some (.int s), some (.ref ko), some (.int x)] h1 R := by
    intro fuel
    induction fuel with
    | zero =>
      intro x h1 hx hx2 hf xx R r1 r2
      have G := F.ext xx
      refine ww_step ?_
      (repeat (first | (apply w_of; (· (apply q_mul; (· exact q_loc (by rfl)); (· exact q_int); (· (unfold big; with_reducible exact Or.inr (Nat.lt_of_le_of_lt (by exact Nat.le_refl _) (by decide))))))) | (apply w_of; (· exact q_loc (by rfl))) | refine b_cmp ?_ | refine b_and ?_ | refine a_cons ?_ | refine w_attr ?_))
      refine a_frame G (fun _ => by rfl) (by rfl) ?_
      (repeat (refine p_int (by rfl) ?_))
      refine ⟨fun q => ?_, fun q => ?_⟩
      · exfalso; simp at q hf; lia
      · exact ⟨fun u1 => r1 h1 xx, fun q => by simp at q⟩
    | succ fuel ih =>
      intro x h1 hx hx2 hf xx R r1 r2
      have G := F.ext xx
      refine ww_step ?_
      (repeat (first | (apply w_of; (· (apply q_mul; (· exact q_loc (by rfl)); (· exact q_int); (· (unfold big; with_reducible exact Or.inr (Nat.lt_of_le_of_lt (by exact Nat.le_refl _) (by decide))))))) | (apply w_of; (· exact q_loc (by rfl))) | refine b_cmp ?_ | refine b_and ?_ | refine a_cons ?_ | refine w_attr ?_))
      refine a_frame G (fun _ => by rfl) (by rfl) ?_
      (repeat (refine p_int (by rfl) ?_))
      refine ⟨fun q => ?_, fun q => ?_⟩
      · have q : x * 2 ≤ n := by simpa using q
        (repeat (first | (apply w_of; (· exact q_loc (by rfl))) | refine w_bin ?_ | refine w_call ?_ | refine w_cons ?_ | refine b_call ?_ | refine a_cons ?_ | refine w_meth ?_))
        refine m_frame G (fun _ => by rfl) (by rfl) ?_
        (repeat (apply ws_of; (· exact qs_nil)))
        refine c_most_across G fun h2 x2 => ?_
        repeat (first | (apply w_of; (· exact q_loc (by rfl))) | refine w_bin ?_ | refine w_cons ?_ | (refine o_mul ?_ ?_; (· (unfold big; lia))) | refine w_attr ?_ | refine o_mul (.inr (by unfold big; lia)) ?_)
        first | refine pAttr ((xx.trans x2).get z) rfl rfl ?_ | refine pMeth ((xx.trans x2).get z) rfl rfl ?_
        repeat (first | (apply w_of; (· exact q_loc (by rfl))) | (apply ws_of; (· exact qs_nil)) | (refine o_mul ?_ ?_; (· (unfold big; lia))) | refine o_mul (.inr (by unfold big; lia)) ?_)
        have d1 : c.1 * x ≠ 0 := Int.ne_of_gt (Int.mul_pos (by (with_reducible exact pos_i (by exact And.left (by assumption)))) (by (with_reducible exact pos_i (by assumption))))
        have d2 : c.2 * x ≠ 0 := Int.ne_of_gt (Int.mul_pos (by (with_reducible exact pos_i (by exact And.left (And.right (And.right (by assumption)))))) (by (with_reducible exact pos_i (by assumption))))
        refine c_fits d1 ⟨_, rfl, fun q2 => ?_, fun q2 => ?_⟩
        · have q2 : (mxA cs * s).fmod (2 * (c.1 * x)) = 0 := by simpa using q2
          (repeat (refine a_nil ?_))
          refine ⟨fun q => by simp at q, fun u1 => ?_⟩
          have G2 := G.ext x2
          (repeat (first | (apply w_of; (· exact q_loc (by rfl))) | refine w_bin ?_ | refine w_call ?_ | refine w_cons ?_ | refine s_ite ?_ | refine b_not ?_ | refine b_call ?_ | refine w_meth ?_))
          refine m_frame G2 (fun _ => by rfl) (by rfl) ?_
          (repeat (apply ws_of; (· exact qs_nil)))
          refine c_most_down G2 fun h3 x3 => ?_
          repeat (first | (apply w_of; (· exact q_loc (by rfl))) | refine w_bin ?_ | refine w_cons ?_ | (refine o_mul ?_ ?_; (· (unfold big; lia))) | refine w_attr ?_ | refine o_mul (.inr (by unfold big; lia)) ?_)
          first | refine pAttr ((xx.trans (x2.trans x3)).get z) rfl rfl ?_ | refine pMeth ((xx.trans (x2.trans x3)).get z) rfl rfl ?_
          repeat (first | (apply w_of; (· exact q_loc (by rfl))) | (apply ws_of; (· exact qs_nil)) | (refine o_mul ?_ ?_; (· (unfold big; lia))) | refine o_mul (.inr (by unfold big; lia)) ?_)
          have x13 := xx.trans (x2.trans x3)
          refine c_fits d2 ⟨_, rfl, fun q3 => ?_, fun q3 => ?_⟩
          · have q3 : ¬ (mxD cs * s).fmod (2 * (c.2 * x)) = 0 := by simpa using q3
            (repeat (first | (apply w_of; (· exact q_loc (by rfl))) | refine s_ret ?_))
            refine ⟨fun q => (by cases q), fun v hv => ?_⟩
            unfold loopF at r2
            rw [if_pos ⟨q, q2⟩, if_neg q3] at r2
            exact r2 _ _ x13
          · have q3 : (mxD cs * s).fmod (2 * (c.2 * x)) = 0 := by simpa using q3
            (repeat (first | (apply w_of; (· (apply q_mul; (· exact q_loc (by rfl)); (· exact q_int); (· (unfold big; with_reducible exact Or.inr (Nat.lt_of_le_of_lt (by exact Nat.le_refl _) (by decide))))))) | refine s_assign ?_ | refine s_nil ?_))
            refine ⟨fun u1 => ?_, fun v hv => (by cases hv)⟩
            unfold loopF at r1 r2
            rw [if_pos ⟨q, q2⟩, if_pos q3] at r1 r2
            refine ih (x * 2) h3 (by lia) (by lia) ?_ x13 R r1 r2
            rw [Int.pow_succ] at hf
            have : x * 2 * 2 ^ fuel = x * (2 ^ fuel * 2) := by rw [Int.mul_assoc, Int.mul_comm 2]
            lia
        · have q2 : ¬ (mxA cs * s).fmod (2 * (c.1 * x)) = 0 := by simpa using q2
          refine ⟨fun u1 => ?_, fun q => by simp at q⟩
          unfold loopF at r1
          rw [if_neg fun q => q2 q.2] at r1
          exact r1 _ (xx.trans x2)
      · have q : ¬ x * 2 ≤ n := by simpa using q
        refine ⟨fun u1 => ?_, fun q => by simp at q⟩
        unfold loopF at r1
        rw [if_neg fun z => q z.1] at r1
        exact r1 _ xx
  refine key 4 s h hs.1 (by (with_reducible exact Int.le_trans (by exact And.right (by assumption)) (by decide))) (by lia) (Ext.refl h) _ (fun h2 x2 => ⟨fun u1 => ?_, fun r q => (by cases q)⟩) (fun l' h2 x2 => ⟨fun q => (by cases q), fun r u1 => k h2 x2⟩)
  (repeat (first | (apply w_of; (· exact q_loc (by rfl))) | refine s_ret ?_))
  exact k h2 x2

theorem dvd_fmod {a b : Int} : a.fmod b = 0 ↔ b ∣ a := ⟨Int.dvd_of_fmod_eq_zero, Int.fmod_eq_zero_of_dvd⟩
theorem side_same {A B a d s : Int} (hs : 1 ≤ s) (hn : n ≤ 8) (c : Int × Int) (mx my : Int) : loopF n (mx * s) (my * s) c.1 c.2 4 s = sideL n mx my c s := by
  have up : ∀ (a T : Int) (A : Int), A.fmod (a * (2 * T * s)) = 0 → A.fmod (a * (T * s)) = 0 := fun a T A h => by
    rw [dvd_fmod] at h ⊢
    refine Int.dvd_trans ⟨2, ?_⟩ h
    rw [Int.mul_assoc 2 T s, Int.mul_left_comm, Int.mul_comm]
  let R : Int → Prop := fun T => T * s ≤ n ∧ (mx * s).fmod (c.1 * (T * s)) = 0 ∧ (my * s).fmod (c.2 * (T * s)) = 0
  have step : ∀ (k : Nat) (T T2 : Int), T2 = 2 * T → loopF n (mx * s) (my * s) c.1 c.2 (k + 1) (T * s) = if R T2 then loopF n (mx * s) (my * s) c.1 c.2 k (T2 * s) else T * s := fun k T T2 e => by
    have e1 : T * s * 2 = T2 * s := by rw [e, Int.mul_comm, Int.mul_assoc]
    have e2 : ∀ a : Int, 2 * (a * (T * s)) = a * (T2 * s) := fun a => by rw [e, Int.mul_left_comm, Int.mul_assoc]
    rw [loopF, e1, e2, e2]
    by_cases h1 : T2 * s ≤ n ∧ (mx * s).fmod (c.1 * (T2 * s)) = 0
    · by_cases h2 : (my * s).fmod (c.2 * (T2 * s)) = 0
      · rw [if_pos h1, if_pos h2, if_pos ⟨h1.1, h1.2, h2⟩]
      · rw [if_pos h1, if_neg h2, if_neg fun h => h2 h.2.2]
    · rw [if_neg h1, if_neg fun h => h1 ⟨h.1, h.2.1⟩]
  have dn : ∀ T T2 : Int, T2 = 2 * T → 0 ≤ T * s → R T2 → R T := fun T T2 e h0 h => by
    subst e
    exact ⟨Int.le_trans (by rw [Int.mul_assoc]; omega) h.1, up _ _ _ h.2.1, up _ _ _ h.2.2⟩
  have e0 := step 3 1 2 rfl
  rw [Int.one_mul, step 2 2 4 rfl, step 1 4 8 rfl, step 0 8 16 rfl, if_neg (show ¬ R 16 from fun h => by have := h.1; omega)] at e0
  rw [e0]
  show _ = if R 8 then 8 * s else if R 4 then 4 * s else if R 2 then 2 * s else s
  by_cases r8 : R 8
  · have r4 := dn 4 8 rfl (by omega) r8
    rw [if_pos r8, if_pos (dn 2 4 rfl (by omega) r4), if_pos r4, if_pos r8]
  · rw [if_neg r8, if_neg r8]
    by_cases r4 : R 4
    · rw [if_pos r4, if_pos (dn 2 4 rfl (by omega) r4), if_pos r4]
    · rw [if_neg r4, if_neg r4]

end
/-! LL -/
section
set_option maxRecDepth 4000
set_option linter.unusedVariables false

variable {h : MH} {Q : MV → MH → Prop} {kf : Nat} {W H n : Int} {cs : Cs}

theorem set_set' {h : MH} {k : Nat} {a b : MO} : (h.set k a).set k b = h.set k b := List.set_set ..
theorem c_comp_init {ki : Nat} {a b c d : MV} (e : h[ki]? = some (.inst 0 [])) (k : Q .none (h.set ki (.inst 0 [(0, a), (1, b), (2, c), (3, d)]))) : WCall f_Component_init [.ref ki, a, b, c, d] h Q := by
  refine callW (by rfl) (by rfl) ?_
  unfold b_Component_init
  (repeat (first | (apply w_of; (· exact q_loc (by rfl))) | refine s_setattr ?_))
  refine pSet e (by simp) rfl ?_
  (repeat (first | (apply w_of; (· exact q_loc (by rfl))) | refine s_setattr ?_))
  refine pSet (get_set e) (by simp [putF]) rfl ?_
  rw [set_set']
  (repeat (first | (apply w_of; (· exact q_loc (by rfl))) | refine s_setattr ?_))
  refine pSet (get_set e) (by simp [putF]) rfl ?_
  rw [set_set']
  (repeat (first | (apply w_of; (· exact q_loc (by rfl))) | refine s_setattr ?_))
  refine pSet (get_set e) (by simp [putF]) rfl ?_
  rw [set_set']
  (repeat (refine s_nil ?_))
  exact k
theorem c_frame_init {ki : Nat} {a b c d e' f : MV} (e : h[ki]? = some (.inst 1 [])) (k : Q .none (h.set ki (.inst 1 [(4, a), (5, b), (6, c), (7, d), (8, e'), (9, f)]))) : WCall f_Frame_init [.ref ki, a, b, c, d, e', f] h Q := by
  refine callW (by rfl) (by rfl) ?_
  unfold b_Frame_init
  (repeat (first | (apply w_of; (· exact q_loc (by rfl))) | refine s_setattr ?_))
  refine pSet e (by simp) rfl ?_
  (repeat (first | (apply w_of; (· exact q_loc (by rfl))) | refine s_setattr ?_))
  refine pSet (get_set e) (by simp [putF]) rfl ?_
  rw [set_set']
  (repeat (first | (apply w_of; (· exact q_loc (by rfl))) | refine s_setattr ?_))
  refine pSet (get_set e) (by simp [putF]) rfl ?_
  rw [set_set']
  (repeat (first | (apply w_of; (· exact q_loc (by rfl))) | refine s_setattr ?_))
  refine pSet (get_set e) (by simp [putF]) rfl ?_
  rw [set_set']
  (repeat (first | (apply w_of; (· exact q_loc (by rfl))) | refine s_setattr ?_))
  refine pSet (get_set e) (by simp [putF]) rfl ?_
  rw [set_set']
  (repeat (first | (apply w_of; (· exact q_loc (by rfl))) | refine s_setattr ?_))
  refine pSet (get_set e) (by simp [putF]) rfl ?_
  rw [set_set']
  (repeat (refine s_nil ?_))
  exact k
theorem c_plane_init {ki : Nat} {a b c : MV} (e : h[ki]? = some (.inst 2 [])) (k : Q .none (h.set ki (.inst 2 [(7, a), (6, b), (10, c)]))) : WCall f_Plane_init [.ref ki, a, b, c] h Q := by
  refine callW (by rfl) (by rfl) ?_
  unfold b_Plane_init
  (repeat (first | (apply w_of; (· exact q_loc (by rfl))) | refine s_setattr ?_))
  refine pSet e (by simp) rfl ?_
  (repeat (first | (apply w_of; (· exact q_loc (by rfl))) | refine s_setattr ?_))
  refine pSet (get_set e) (by simp [putF]) rfl ?_
  rw [set_set']
  (repeat (first | (apply w_of; (· exact q_loc (by rfl))) | refine s_setattr ?_))
  refine pSet (get_set e) (by simp [putF]) rfl ?_
  rw [set_set']
  (repeat (refine s_nil ?_))
  exact k

structure SrcW (h : MH) (ks : Nat) (a b : Int) : Prop where
  e : h[ks]? = some (.list [.int a, .int b])
  b0 : 0 ≤ b
  b1 : b < 2147483647
structure SrcAt (h : MH) (ks : Nat) : Prop where
  ex : ∃ a b, SrcW h ks a b
theorem SrcAt.ext {h' : MH} {ks : Nat} (S : SrcAt h ks) (x : Ext [] h h') : SrcAt h' ks := let ⟨a, b, e, z, z'⟩ := S.ex; ⟨a, b, x.get e, z, z'⟩
theorem SrcAt.list {ks : Nat} (S : SrcAt h ks) : ∃ vs : List MV, h[ks]? = some (.list vs) ∧ ∀ k r, vs ≠ .ref k :: r := let ⟨a, b, e, _, _⟩ := S.ex; ⟨_, e, by simp⟩

theorem fmod_rng {a b : Int} (h : 0 < b) : 0 ≤ a.fmod b ∧ a.fmod b < b := ⟨Int.fmod_nonneg_of_pos _ h, Int.fmod_lt_of_pos _ h⟩

theorem c_take {ks : Nat} {top : Int} (S : SrcAt h ks) (h0 : 1 ≤ top) (h1 : top ≤ 1000000) (k : ∀ d h', 0 ≤ d → d < top → SrcAt h' ks → Ext [ks] h h' → h'.length = h.length → Q (.int d) h') : WCall f_law_take [.ref ks, .int top] h Q := by
  refine callW (by rfl) (by rfl) ?_
  unfold b_law_take
  obtain ⟨a, b, e, hb0, hb1⟩ := S.ex
  repeat (first | (apply w_of; (· exact q_loc (by rfl))) | (apply w_of; (· exact q_int)) | refine s_ite ?_ | refine b_cmp ?_ | refine p_int (by rfl) ?_ | refine w_item ?_ | (refine i_list (by assumption) (by decide) (by rfl) (by (simp [lim]; done)) ?_))
  refine ⟨fun q => ?_, fun q => ?_⟩
  · repeat (first | (apply w_of; (· exact q_loc (by rfl))) | (apply w_of; (· exact q_int)) | (apply ws_of; (· exact qs_nil)) | refine w_bin ?_ | refine w_cons ?_ | refine s_assign ?_ | refine w_item ?_ | refine w_bi ?_ | (refine i_list (by assumption) (by decide) (by rfl) (by (simp [lim]; done)) ?_))
    refine pBi .intI ?_
    repeat (first | (apply w_of; (· exact q_loc (by rfl))) | (apply w_of; (· exact q_int)) | refine w_bin ?_ | (refine o_fdiv ?_ ?_ ?_; (· with_reducible exact nz_of (by assumption)); (· lia)) | (refine o_mod ?_ ?_; (· with_reducible exact nz_of (by assumption))) | refine s_setitem ?_ | refine w_item ?_ | (refine i_list (by assumption) (by decide) (by rfl) (by (simp [lim]; done)) ?_))
    first | refine pItem (.list e (by decide) (by simp) (by decide)) ?_ | refine pSetI (.list e (by decide) (by simp) (by (simp [lim]; done))) ?_ | refine pCmp (.list e (by decide) (by simp) (by decide)) ?_
    repeat (first | (apply w_of; (· exact q_loc (by rfl))) | refine s_ret ?_ | fail)
    have hq := fmod_rng (a := a) (b := top) (by (with_reducible exact pos_i (by assumption))); have m1 := hq.1; have m2 := hq.2
    exact k _ _ m1 m2 ⟨_, b, get_set e, hb0, hb1⟩ ((Ext.refl h).set _ (by simp)) (by simp)
  · repeat (first | (apply w_of; (· exact q_loc (by rfl))) | (apply w_of; (· exact q_int)) | (apply ws_of; (· exact qs_nil)) | refine w_bin ?_ | refine w_cons ?_ | refine o_add ?_ | (refine o_mul ?_ ?_; (· (unfold big; with_reducible exact Or.inr (Nat.lt_of_le_of_lt (by exact Nat.le_refl _) (by decide))))) | refine s_setitem ?_ | refine w_item ?_ | refine w_bi ?_ | (refine i_list (by assumption) (by decide) (by rfl) (by (simp [lim]; done)) ?_))
    refine pBi .intI ?_
    repeat (first | (apply w_of; (· exact q_int)) | (apply w_of; (· exact q_loc (by rfl))) | (refine o_mod ?_ ?_; (· decide)) | fail)
    first | refine pItem (.list e (by decide) (by simp) (by decide)) ?_ | refine pSetI (.list e (by decide) (by simp) (by (simp [lim]; done))) ?_ | refine pCmp (.list e (by decide) (by simp) (by decide)) ?_
    have e' := get_set (o := .list [.int a, .int ((b * 39373 + 7).fmod 2147483647)]) e
    have hq := fmod_rng (a := b * 39373 + 7) (b := 2147483647) (by decide); have m1 := hq.1; have m2 := hq.2
    have x : Ext [ks] h (h.set ks (.list [.int a, .int ((b * 39373 + 7).fmod 2147483647)])) := (Ext.refl h).set _ (by simp)
    have hl : (h.set ks (.list [.int a, .int ((b * 39373 + 7).fmod 2147483647)])).length = h.length := by simp
    have S' : SrcAt (h.set ks (.list [.int a, .int ((b * 39373 + 7).fmod 2147483647)])) ks := ⟨a, _, e', m1, m2⟩
    show WSs _ (h.set ks (.list [.int a, .int ((b * 39373 + 7).fmod 2147483647)])) _ _
    generalize (b * 39373 + 7).fmod 2147483647 = b' at *
    generalize h.set ks (.list [.int a, .int b']) = g at *
    repeat (first | (apply w_of; (· exact q_loc (by rfl))) | (apply w_of; (· exact q_int)) | (apply ws_of; (· exact qs_nil)) | refine w_bin ?_ | refine w_cons ?_ | (refine o_mul ?_ ?_; (· (unfold big; lia))) | refine s_ret ?_ | refine w_item ?_ | refine w_bi ?_ | (refine i_list (by assumption) (by decide) (by rfl) (by (simp [lim]; done)) ?_))
    refine pBi .intI ?_
    repeat (first | (apply w_of; (· exact q_int)) | (apply ws_of; (· exact qs_nil)) | (refine o_fdiv ?_ ?_ ?_; (· decide); (· decide)) | (refine o_mod ?_ ?_; (· decide)) | fail)
    refine pBi .intI ?_
    repeat (first | (apply w_of; (· exact q_loc (by rfl))) | (refine o_mod ?_ ?_; (· with_reducible exact nz_of (by assumption))) | fail)
    obtain ⟨m3, m4⟩ := fmod_rng (a := ((b' * b').fmod 2147483629).fdiv 32) (b := top) (by (with_reducible exact pos_i (by assumption)))
    exact k _ _ m3 m4 S' x hl

theorem c_one {ks kt : Nat} {vs : List MV} (S : SrcAt h ks) (e : h[kt]? = some (.list vs)) (hne : kt ≠ ks) (h0 : 1 ≤ vs.length) (h1 : vs.length ≤ 1000) (k : ∀ v h', v ∈ vs → SrcAt h' ks → Ext [ks] h h' → h'.length = h.length → Q v h') : WCall f_law_one [.ref ks, .ref kt] h Q := by
  refine callW (by rfl) (by rfl) ?_
  unfold b_law_one
  (repeat (first | (apply w_of; (· exact q_loc (by rfl))) | (apply ws_of; (· exact qs_cons (by exact q_loc (by rfl)) (by exact qs_nil))) | refine w_call ?_ | refine w_cons ?_ | refine s_ret ?_ | refine w_item ?_ | refine w_bi ?_))
  refine pBi (.lenL e (by unfold lim; (with_reducible exact Nat.le_trans (by assumption) (by decide)))) ?_
  (repeat (apply ws_of; (· exact qs_nil)))
  refine c_take S (by lia) (by lia) fun d h' d0 d1 S' x hl => ?_
  have hlt : d.toNat < vs.length := by lia
  refine i_list (x.get e (by simp; exact hne)) d0 (List.getElem?_eq_getElem hlt) (by unfold lim; (with_reducible exact Nat.le_trans (by assumption) (by decide))) ?_
  exact k _ _ (List.getElem_mem hlt) S' x hl

theorem c_pool {ns : List Int} {i : Nat} (hns : ns.length ≤ 63) (hi : i ≤ 1) (k : ∀ h' ks, h.length ≤ ks → Ext [] h h' → SrcAt h' ks → Q (.ref ks) h') : WCall f_law_pool [.fl ns, .int i] h Q := by
  refine callW (by rfl) (by rfl) ?_
  unfold b_law_pool
  have rest : ∀ (cell : Int), WSs [some (.fl ns), some (.int i), some (.int cell), Option.none, Option.none] h
      [.assign 3 (.bi .max [.bi .int [.loc 2], .bi .int [.bin .sub (.neg (.int 1)) (.loc 2)]]),
    .assign 4 (.bin .mod (.bi .int [.bin .mul (.bin .add (.bin .add (.bin .add (.bin .mod (.bi .int [.loc 3]) (.int 2147483629)) (.bin .mul (.bin .mul (.int 7919) (.loc 1)) (.loc 1))) (.bin .mul (.int 31) (.loc 1))) (.int 17)) (.int 48271)]) (.int 2147483647)),
    .ret (.list [.bin .mul (.loc 3) (.bi .int [.cmp .ge (.loc 3) (.bin .pow (.int 10) (.int 18))]), .loc 4])] (fun o u1 h' => Q (o.getD .none) h') := by
    intro cell
    (repeat (first | (apply ws_of; (· exact qs_cons (by exact q_loc (by rfl)) (by exact qs_nil))) | refine w_cons ?_ | refine s_assign ?_ | refine w_bi ?_))
    refine pBi .intI ?_
    (repeat (first | (apply ws_of; (· exact qs_cons (by (apply q_sub; (· (apply q_neg; (· exact q_int))); (· exact q_loc (by rfl)))) (by exact qs_nil))) | refine w_cons ?_ | refine w_bi ?_))
    refine pBi .intI ?_
    (repeat (apply ws_of; (· exact qs_nil)))
    refine pBi .max2 ?_
    (repeat (first | (apply ws_of; (· exact qs_cons (by exact q_loc (by rfl)) (by exact qs_nil))) | refine w_bin ?_ | refine w_cons ?_ | refine s_assign ?_ | refine w_bi ?_))
    refine pBi .intI ?_
    (repeat (first | (apply w_of; (· exact q_int)) | (apply w_of; (· (apply q_mul; (· (apply q_mul; (· exact q_int); (· exact q_loc (by rfl)); (· (unfold big; with_reducible exact Or.inl (Nat.lt_of_le_of_lt (by exact Nat.le_refl _) (by decide)))))); (· exact q_loc (by rfl)); (· (unfold big; with_reducible exact Or.inl (Nat.lt_of_le_of_lt (by exact nab_mul (by exact Nat.le_refl _) (by exact nab_c (by assumption))) (by decide))))))) | (apply w_of; (· (apply q_mul; (· exact q_int); (· exact q_loc (by rfl)); (· (unfold big; with_reducible exact Or.inl (Nat.lt_of_le_of_lt (by exact Nat.le_refl _) (by decide))))))) | (apply ws_of; (· exact qs_nil)) | refine o_add ?_ | (refine o_mul ?_ ?_; (· (unfold big; with_reducible exact Or.inr (Nat.lt_of_le_of_lt (by exact Nat.le_refl _) (by decide))))) | (refine o_mod ?_ ?_; (· decide))))
    refine pBi .intI ?_
    (repeat (first | (apply w_of; (· exact q_int)) | (apply w_of; (· exact q_loc (by rfl))) | (apply w_of; (· (apply q_pow; (· exact q_int); (· exact q_int); (· decide); (· decide); (· (unfold big; decide))))) | (apply ws_of; (· exact qs_nil)) | refine w_bin ?_ | refine w_cons ?_ | (refine o_mod ?_ ?_; (· decide)) | refine s_ret ?_ | refine w_cmp ?_ | refine p_int (by rfl) ?_ | refine w_list ?_ | refine w_bi ?_))
    refine pBi .intB ?_
    refine o_mul (.inr (by unfold big; split <;> omega)) ?_
    (repeat (apply ws_of; (· exact qs_cons (by exact q_loc (by rfl)) (by exact qs_nil))))
    refine ⟨by (simp [lim]; done), ?_⟩
    obtain ⟨m1, m2⟩ := fmod_rng (a := ((if -1 - cell > cell then -1 - cell else cell).fmod 2147483629 + 7919 * (i : Int) * i + 31 * i + 17) * 48271) (b := 2147483647) (by decide)
    exact k _ _ (Nat.le_refl _) ((Ext.refl h).push _) ⟨_, _, get_last _ _, m1, m2⟩
  (repeat (first | (apply w_of; (· exact q_int)) | (apply w_of; (· exact q_loc (by rfl))) | (apply ws_of; (· exact qs_cons (by exact q_loc (by rfl)) (by exact qs_nil))) | refine s_assign ?_ | refine s_ite ?_ | refine b_cmp ?_ | refine w_bi ?_))
  refine pBi (.lenF (by unfold lim; (with_reducible exact Nat.le_trans (by assumption) (by decide)))) ?_
  (repeat (refine p_int (by rfl) ?_))
  refine ⟨fun q => ?_, fun q => ?_⟩
  · have q : i < ns.length := by simpa using q
    refine s_assign (w_item (w_loc (by rfl) (w_loc (by rfl) ⟨_, .fl (by (exact Int.natCast_nonneg _)) (by rw [Int.toNat_natCast]; exact List.getElem?_eq_getElem q) (by unfold lim; (with_reducible exact Nat.le_trans (by assumption) (by decide))), ?_⟩)))
    exact rest _
  · exact rest 0

end
/-! LM -/
section
set_option maxRecDepth 4000
set_option linter.unusedVariables false

variable {h : MH} {Q : MV → MH → Prop} {kf : Nat} {W H n : Int} {cs : Cs}

theorem Ext.weak {S : List Nat} {a b : MH} (x : Ext [] a b) : Ext S a b := x.sub (by simp)
/-- the components so far -/
noncomputable def CompsAt (h : MH) (ms : List Nat) (cs : Cs) : Prop := ms.length = cs.length ∧ ∀ (i : Nat) k c, ms[i]? = some k → cs[i]? = some c → ∃ id, h[k]? = some (.inst 0 [(0, .int id), (1, .int c.1), (2, .int c.2), (3, .int 0)])
theorem CompsAt.ext {h' : MH} {ms : List Nat} {S : List Nat} (C : CompsAt h ms cs) (x : Ext S h h') (hS : ∀ k ∈ S, ∀ fs, h[k]? ≠ some (.inst 0 fs)) : CompsAt h' ms cs :=
  ⟨C.1, fun i k c z1 z2 => let ⟨id, q⟩ := C.2 i k c z1 z2; ⟨id, x.get q fun hm => hS k hm _ q⟩⟩
theorem CompsAt.add {ms : List Nat} {k : Nat} {c : Int × Int} {id : Int} (C : CompsAt h ms cs) (e : h[k]? = some (.inst 0 [(0, .int id), (1, .int c.1), (2, .int c.2), (3, .int 0)])) : CompsAt h (ms ++ [k]) (cs ++ [c]) := by
  refine ⟨by simp [C.1], fun i k' c' z1 z2 => ?_⟩
  by_cases hi : i < ms.length
  · rw [List.getElem?_append_left hi] at z1
    rw [List.getElem?_append_left (by rw [← C.1]; exact hi)] at z2
    exact C.2 i k' c' z1 z2
  · rw [List.getElem?_append_right (by (with_reducible exact Nat.ge_of_not_lt (by assumption)))] at z1
    rw [List.getElem?_append_right (by rw [← C.1]; (with_reducible exact Nat.ge_of_not_lt (by assumption))), ← C.1] at z2
    generalize i - ms.length = j at z1 z2
    cases j with
    | zero => simp at z1 z2; subst z1; subst z2; exact ⟨id, e⟩
    | succ j => simp at z1

noncomputable def smp : List MV := [.int 1, .int 2, .int 1, .int 4]
theorem smp_at {v : MV} (h : v ∈ smp) : ∃ a : Int, v = .int a ∧ 1 ≤ a ∧ a ≤ 4 := by
  simp [smp] at h
  rcases h with rfl | rfl | rfl | rfl <;> exact ⟨_, rfl, by decide, by decide⟩

theorem c_frame {ks : Nat} (S : SrcAt h ks) (hn : 1 ≤ n ∧ n ≤ 8) (k : ∀ h' kf W H cs, FrameAt h' kf W H n cs → SrcAt h' ks → Ext [ks] h h' → Q (.ref kf) h') : WCall f_law_frame [.ref ks, .int n] h Q := by
  refine callW (by rfl) (by rfl) ?_
  unfold b_law_frame
  obtain ⟨sa, sb, se, _⟩ := S.ex
  have hks := lt_of se
  (repeat (first | (apply ws_of; (· exact qs_nil)) | refine s_assign ?_ | refine w_list ?_))
  refine ⟨by decide, ?_⟩
  refine s_for0 (I := fun i l h' => SrcAt h' ks ∧ Ext [ks] h h' ∧ ∃ p q r ms cs, l = [some (.ref ks), some (.int n), some (.ref h.length), p, q, r] ∧ h'[h.length]? = some (.list (ms.map MV.ref)) ∧ CompsAt h' ms cs ∧ ms.length = i ∧ ∀ c ∈ cs, 1 ≤ c.1 ∧ c.1 ≤ 4 ∧ 1 ≤ c.2 ∧ c.2 ≤ 4) fun I' into out Q' kQ => ?_
  (repeat (first | (apply w_of; (· exact q_int)) | (apply ws_of; (· exact qs_cons (by exact q_loc (by rfl)) (by exact qs_cons (by exact q_int) (by exact qs_nil)))) | refine w_bin ?_ | refine w_call ?_ | refine w_cons ?_ | refine w_bi ?_))
  refine c_take (S.ext ((Ext.refl h).push _)) (by decide) (by decide) fun d g d0 d1 S' x hl => ?_
  (repeat (first | (apply ws_of; (· exact qs_nil)) | refine o_add ?_))
  obtain ⟨m, hm⟩ : ∃ m : Nat, 1 + d = (m : Int) := ⟨(1 + d).toNat, by lia⟩
  refine pBi .range1 (kQ _ _ (ritems 0 m 1) (fun u1 u2 u3 u4 => by rw [hm]; exact items_rng (by lia)) (into _ _ _ ⟨S', ((Ext.refl h).push _).weak.trans x, _, _, _, [], [], rfl, x.get (get_last _ _) (by simp; lia), ⟨rfl, fun i k c z1 z2 => by simp at z1⟩, rfl, fun c hc => by simp at hc⟩) ?_ ?_)
  · intro i v l h' hI hv R' kR
    have kR := fun l h q => kR l h (into _ l h q)
    obtain ⟨S1, x1, p, q, r, ms, cs, rfl, e1, C1, hlen, hpos⟩ := out _ _ _ hI
    obtain ⟨hi, rfl⟩ := ritems_get hv
    have noS : ∀ {g : MH}, SrcAt g ks → ∀ k ∈ [ks], ∀ fs, g[k]? ≠ some (.inst 0 fs) := fun S k hk fs => by
      obtain ⟨a, b, e, _⟩ := S.ex
      rw [List.mem_singleton.mp hk, e]; simp
    have hk1 : h.length < h'.length := lt_of e1
    have hks1 : ks ≠ h.length := by lia
    (repeat (first | (apply w_of; (· exact q_loc (by rfl))) | (apply ws_of; (· exact qs_cons (by exact q_int) (by exact qs_cons (by exact q_int) (by exact qs_cons (by exact q_int) (by exact qs_cons (by exact q_int) (by exact qs_nil)))))) | refine w_call ?_ | refine w_cons ?_ | refine s_assignT ?_ | refine w_list ?_))
    refine ⟨by decide, ?_⟩
    (repeat (apply ws_of; (· exact qs_nil)))
    have xa : Ext [] h' (h' ++ [MO.list smp]) := (Ext.refl h').push _
    refine c_one (vs := smp) (S1.ext xa) (get_last _ _) (by lia) (by simp [smp]) (by simp [smp]) fun va h2 hva S2 x2 l2 => ?_
    obtain ⟨a, rfl, a0, a1⟩ := smp_at hva
    (repeat (first | (apply w_of; (· exact q_loc (by rfl))) | (apply ws_of; (· exact qs_cons (by exact q_int) (by exact qs_cons (by exact q_int) (by exact qs_cons (by exact q_int) (by exact qs_cons (by exact q_int) (by exact qs_nil)))))) | refine w_call ?_ | refine w_cons ?_ | refine w_list ?_))
    refine ⟨by decide, ?_⟩
    (repeat (apply ws_of; (· exact qs_nil)))
    have xb : Ext [] h2 (h2 ++ [MO.list smp]) := (Ext.refl h2).push _
    have hl2 : h2.length = h'.length + 1 := by rw [l2]; simp
    refine c_one (vs := smp) (S2.ext xb) (get_last _ _) (by lia) (by simp [smp]) (by simp [smp]) fun vb h3 hvb S3 x3 l3 => ?_
    obtain ⟨b, rfl, b0, b1⟩ := smp_at hvb
    (repeat (apply ws_of; (· exact qs_nil)))
    refine ⟨rfl, ?_⟩
    (repeat (first | (apply w_of; (· exact q_loc (by rfl))) | refine s_expr ?_ | refine w_app ?_))
    have e3 : h3[h.length]? = some (.list (ms.map MV.ref)) := x3.get (xb.get (x2.get (xa.get e1) (by simp; lia))) (by simp; lia)
    have C3 : CompsAt h3 ms cs := (((C1.ext xa (by simp)).ext x2 (noS (S1.ext xa))).ext xb (by simp)).ext x3 (noS (S2.ext xb))
    have hl3 : h3.length = h2.length + 1 := by rw [l3]; simp
    refine w_new (by rfl) ?_
    (repeat (apply ws_of; (· exact qs_cons (by (apply q_add; (· exact q_loc (by rfl)); (· exact q_int))) (by exact qs_cons (by exact q_loc (by rfl)) (by exact qs_cons (by exact q_loc (by rfl)) (by exact qs_cons (by exact q_int) (by exact qs_nil)))))))
    refine c_comp_init (get_last _ _) ⟨rfl, ?_⟩
    rw [set_push]
    skip
    have xc : ∀ o, Ext [] h3 (h3 ++ [o]) := fun o => (Ext.refl h3).push o
    refine pApp e3 (get_push e3) (by simp [lim]; lia) ⟨rfl, ?_⟩
    (repeat (refine s_nil ?_))
    have xd : Ext [h.length] h3 ((h3 ++ [MO.inst 0 [(0, .int ((i : Int) + 1)), (1, .int a), (2, .int b), (3, .int 0)]]).set h.length (.list (ms.map MV.ref ++ [.ref h3.length]))) := (xc _).weak.set _ (by simp)
    refine kR _ _ ⟨?_, ?_, _, _, _, ms ++ [h3.length], cs ++ [(a, b)], rfl, ?_, ?_, by simp [hlen], ?_⟩
    · obtain ⟨u, v, e, z, z'⟩ := S3.ex
      exact ⟨u, v, xd.get e (by simp; (with_reducible assumption)), z, z'⟩
    · have y1 : Ext [ks] h h3 := (((x1.trans xa.weak).trans x2).trans xb.weak).trans x3
      refine Ext.set_new (y1.push _) _ (Nat.le_refl _)
    · rw [get_set (get_push e3)]; simp
    · refine CompsAt.add (C3.ext xd fun k hk fs => ?_) (id := (i : Int) + 1) ?_
      · rw [List.mem_singleton.mp hk, e3]; simp
      · rw [List.getElem?_set_ne (by lia)]; exact get_last _ _
    · intro c hc
      rcases List.mem_append.mp hc with hc | hc
      · exact hpos c hc
      · rw [List.mem_singleton.mp hc]; exact ⟨a0, a1, b0, b1⟩
  · intro l h' hI
    obtain ⟨S1, x1, p, q, r, ms, cs, rfl, e1, C1, hlen, hpos⟩ := out _ _ _ hI
    rw [ritems_len] at hlen
    have noS : ∀ {g : MH}, SrcAt g ks → ∀ k ∈ [ks], ∀ fs, g[k]? ≠ some (.inst 0 fs) := fun S k hk fs => by
      obtain ⟨a, b, e, _⟩ := S.ex
      rw [List.mem_singleton.mp hk, e]; simp
    (repeat (refine s_ret ?_))
    refine w_new (by rfl) ?_
    (repeat (first | (apply w_of; (· exact q_str)) | (apply w_of; (· exact q_int)) | (apply ws_of; (· exact qs_cons (by exact q_loc (by rfl)) (by exact qs_cons (by exact q_int) (by exact qs_nil)))) | refine w_bin ?_ | refine w_call ?_ | refine w_cons ?_))
    refine c_take S1 (by decide) (by decide) fun d2 h2 d20 d21 S2 x2 l2 => ?_
    (repeat (first | (apply w_of; (· exact q_int)) | (apply ws_of; (· exact qs_cons (by exact q_loc (by rfl)) (by exact qs_cons (by exact q_int) (by exact qs_nil)))) | refine w_bin ?_ | refine w_call ?_ | refine w_cons ?_ | refine o_add ?_))
    refine c_take S2 (by decide) (by decide) fun d3 h3 d30 d31 S3 x3 l3 => ?_
    (repeat (first | (apply ws_of; (· exact qs_cons (by exact q_loc (by rfl)) (by exact qs_cons (by exact q_loc (by rfl)) (by exact qs_nil)))) | refine o_add ?_))
    refine c_frame_init (get_last _ _) ⟨rfl, ?_⟩
    rw [set_push]
    skip
    have xc : ∀ o, Ext [] h3 (h3 ++ [o]) := fun o => (Ext.refl h3).push o
    have e3 : h3[h.length]? = some (.list (ms.map MV.ref)) := x3.get (x2.get e1 (by simp; lia)) (by simp; lia)
    have C3 : CompsAt h3 ms cs := (C1.ext x2 (noS S1)).ext x3 (noS S2)
    refine k _ h3.length (1 + d3) (1 + d2) cs ⟨⟨h.length, ms, get_last _ _, get_push e3, C3.1, (C3.ext (xc _) (by simp)).2⟩, ?_, ?_, hpos, by lia, by lia, hn⟩ (S3.ext (xc _)) ((((x1.trans x2).trans x3)).push _)
    · intro q
      have := C1.1
      rw [q] at this; simp at this
      have h1m : m = 0 := by rw [← hlen, this]; rfl
      lia
    · rw [← C1.1]; lia

end
/-! LN -/
section
set_option maxRecDepth 4000
set_option linter.unusedVariables false

variable {h : MH} {Q : MV → MH → Prop}

/-- a plane, its rows, what its cells hold -/
structure PlaneAt (h : MH) (kp kr : Nat) (rows : List Nat) (PW PH : Nat) (g : Nat → Nat → Int) : Prop where
  pl : h[kp]? = some (.inst 2 [(7, .int PW), (6, .int PH), (10, .ref kr)])
  rl : h[kr]? = some (.list (rows.map MV.ref))
  len : rows.length = PH
  nd : rows.Nodup
  nr : kr ∉ rows
  row : ∀ (y : Nat) r, rows[y]? = some r → h[r]? = some (.list ((List.range PW).map fun x => .int (g x y)))
theorem PlaneAt.ext {h' : MH} {kp kr PW PH : Nat} {rows : List Nat} {g : Nat → Nat → Int} (P : PlaneAt h kp kr rows PW PH g) (x : Ext [] h h') : PlaneAt h' kp kr rows PW PH g :=
  ⟨x.get P.pl, x.get P.rl, P.len, P.nd, P.nr, fun y r e => x.get (P.row y r e)⟩
theorem PlaneAt.congr {kp kr PW PH : Nat} {rows : List Nat} {g g' : Nat → Nat → Int} (P : PlaneAt h kp kr rows PW PH g) (e : ∀ x y, x < PW → y < PH → g x y = g' x y) : PlaneAt h kp kr rows PW PH g' :=
  ⟨P.pl, P.rl, P.len, P.nd, P.nr, fun y r z => by
    rw [P.row y r z]
    refine congrArg (fun l => some (MO.list l)) (map_range_eq fun x hx => ?_)
    rw [e x y hx (by rw [← P.len]; exact (List.getElem?_eq_some_iff.mp z).1)]⟩
theorem nodup_at {l : List Nat} (hn : l.Nodup) {i j : Nat} {x : Nat} (hi : l[i]? = some x) (hj : l[j]? = some x) : i = j := by
  obtain ⟨h1, e1⟩ := List.getElem?_eq_some_iff.mp hi
  obtain ⟨h2, e2⟩ := List.getElem?_eq_some_iff.mp hj
  have hp := List.pairwise_iff_getElem.mp hn
  rcases Nat.lt_trichotomy i j with h | h | h
  · exact absurd (e1.trans e2.symm) (hp i j h1 h2 h)
  · exact h
  · exact absurd (e2.trans e1.symm) (hp j i h2 h1 h)
theorem set_cell {PW X : Nat} {f : Nat → Int} {v : Int} : ((List.range PW).map fun x => MV.int (f x)).set X (.int v) = (List.range PW).map fun x => MV.int (if x = X then v else f x) := by
  apply List.ext_getElem?
  intro i
  by_cases hi : i = X
  · subst hi
    by_cases hlt : i < PW
    · rw [List.getElem?_set_self (by simpa using hlt)]; simp [hlt]
    · rw [List.getElem?_eq_none (by simp; (with_reducible exact Nat.ge_of_not_lt (by assumption))), List.getElem?_eq_none (by simp; (with_reducible exact Nat.ge_of_not_lt (by assumption)))]
  · rw [List.getElem?_set_ne (Ne.symm hi), List.getElem?_map, List.getElem?_map]
    by_cases hlt : i < PW <;> simp [hlt, hi]
theorem PlaneAt.set {kp kr PW PH X Y r : Nat} {rows : List Nat} {g : Nat → Nat → Int} {v : Int} (P : PlaneAt h kp kr rows PW PH g) (hr : rows[Y]? = some r) :
    PlaneAt (h.set r (.list (((List.range PW).map fun x => MV.int (g x Y)).set X (.int v)))) kp kr rows PW PH (fun x y => if x = X ∧ y = Y then v else g x y) := by
  have hm := List.mem_of_getElem? hr
  have e := P.row Y r hr
  refine ⟨get_set_ne (ne_of e P.pl (by simp)) P.pl, get_set_ne (fun q => P.nr (q ▸ hm)) P.rl, P.len, P.nd, P.nr, fun y r' hr' => ?_⟩
  by_cases hy : y = Y
  · subst hy
    rw [hr] at hr'; cases hr'
    rw [get_set e, set_cell]
    refine congrArg (fun l => some (MO.list l)) (map_range_eq fun x hx => ?_)
    simp
  · have hne : r ≠ r' := fun q => hy (nodup_at P.nd hr' (q ▸ hr))
    rw [get_set_ne hne (P.row y r' hr')]
    refine congrArg (fun l => some (MO.list l)) (map_range_eq fun x hx => ?_)
    simp [hy]

theorem min_nat {s p : Nat} {a : Int} (e : a = (p : Int)) : (if a < (s : Int) then a else (s : Int)) = ((min s p : Nat) : Int) := by
  subst e; split <;> lia

theorem minlt {x X s P : Nat} (h : x < P) : x < X + min s (P - X) ↔ x < X + s := by omega
theorem ltS {y Y j : Nat} : y < Y + (j + 1) ↔ y < Y + j ∨ y = Y + j := Nat.lt_succ_iff_lt_or_eq
theorem ite_or {p q r : Prop} [Decidable p] [Decidable q] [Decidable r] {v g : Int} (h : r ↔ p ∨ q) : (if q then v else if p then v else g) = if r then v else g := by
  by_cases hq : q
  · rw [if_pos hq, if_pos (h.mpr (.inr hq))]
  · by_cases hp : p
    · rw [if_neg hq, if_pos hp, if_pos (h.mpr (.inl hp))]
    · rw [if_neg hq, if_neg hp, if_neg fun z => (h.mp z).elim hp hq]
theorem ite_iff {p r : Prop} [Decidable p] [Decidable r] {v g : Int} (h : r ↔ p) : (if p then v else g) = if r then v else g := by
  by_cases hp : p
  · rw [if_pos hp, if_pos (h.mpr hp)]
  · rw [if_neg hp, if_neg fun z => hp (h.mp z)]
theorem rc0 {a : Prop} {Y y : Nat} : ¬ (a ∧ (Y ≤ y ∧ y < Y + 0)) := fun z => absurd z.2.2 (Nat.not_lt.mpr z.2.1)
theorem rc1 {a : Prop} {b : Prop} {X x : Nat} : a ∨ (b ∧ X ≤ x ∧ x < X + 0) ↔ a := ⟨fun z => z.elim id fun z => absurd z.2.2 (Nat.not_lt.mpr z.2.1), .inl⟩
theorem rc2 {a : Prop} {X x i : Nat} {b : Prop} : a ∨ (b ∧ X ≤ x ∧ x < X + (i + 1)) ↔ (a ∨ (b ∧ X ≤ x ∧ x < X + i)) ∨ (x = X + i ∧ b) :=
  ⟨fun z => z.elim (fun z => .inl (.inl z)) fun z => (ltS.mp z.2.2).elim (fun w => .inl (.inr ⟨z.1, z.2.1, w⟩)) fun w => .inr ⟨w, z.1⟩,
    fun z => z.elim (fun z => z.elim .inl fun z => .inr ⟨z.1, z.2.1, Nat.lt_succ_of_lt z.2.2⟩) fun z => .inr ⟨z.2, z.1 ▸ Nat.le_add_right .., z.1 ▸ Nat.lt_succ_self _⟩⟩
theorem rc3 {X x s P Y y j : Nat} (hx : x < P) : ((X ≤ x ∧ x < X + s) ∧ (Y ≤ y ∧ y < Y + (j + 1))) ↔ (((X ≤ x ∧ x < X + s) ∧ (Y ≤ y ∧ y < Y + j)) ∨ (y = Y + j ∧ X ≤ x ∧ x < X + min s (P - X))) :=
  ⟨fun z => (ltS.mp z.2.2).elim (fun w => .inl ⟨z.1, z.2.1, w⟩) fun w => .inr ⟨w, z.1.1, (minlt hx).mpr z.1.2⟩,
    fun z => z.elim (fun z => ⟨z.1, z.2.1, Nat.lt_succ_of_lt z.2.2⟩) fun z => ⟨⟨z.2.1, (minlt hx).mp z.2.2⟩, z.1 ▸ Nat.le_add_right .., z.1 ▸ Nat.lt_succ_self _⟩⟩
theorem rc4 {a : Prop} {Y y s P : Nat} (hy : y < P) : (a ∧ (Y ≤ y ∧ y < Y + s)) ↔ (a ∧ (Y ≤ y ∧ y < Y + min s (P - Y))) :=
  ⟨fun z => ⟨z.1, z.2.1, (minlt hy).mpr z.2.2⟩, fun z => ⟨z.1, z.2.1, (minlt hy).mp z.2.2⟩⟩

theorem c_put_block {kp kr PW PH X Y s kb : Nat} {rows : List Nat} {g : Nat → Nat → Int} {v : Int} (P : PlaneAt h kp kr rows PW PH g) (hb : h[kb]? = some (.list (List.replicate (s * s) (.int v)))) (hkb : kb ∉ rows)
    (hX : X * s ≤ PW) (hY : Y * s ≤ PH) (hs : 1 ≤ s ∧ s ≤ 8) (hPW : PW ≤ 1000) (hPH : PH ≤ 1000)
    (k : ∀ h', Ext rows h h' → PlaneAt h' kp kr rows PW PH (fun x y => if (X * s ≤ x ∧ x < X * s + s) ∧ (Y * s ≤ y ∧ y < Y * s + s) then clampI (v + 128) 255 else g x y) → Q .none h') :
    WCall f_put_block [.ref kp, .int X, .int Y, .ref kb, .int s, .int 128, .int 255] h Q := by
  refine callW (by rfl) (by rfl) ?_
  unfold b_put_block
  have eX : ((X * s : Nat) : Int) = (X : Int) * s := by push_cast; rfl
  have eY : ((Y * s : Nat) : Int) = (Y : Int) * s := by push_cast; rfl
  (repeat (first | (apply w_of; (· exact q_loc (by rfl))) | refine w_bin ?_ | refine w_cons ?_ | refine s_assign ?_ | refine w_attr ?_ | refine w_bi ?_))
  first | refine pAttr P.pl rfl rfl ?_ | refine pMeth P.pl rfl rfl ?_
  repeat (first | (apply w_of; (· (apply q_mul; (· exact q_loc (by rfl)); (· exact q_loc (by rfl)); (· (unfold big; with_reducible exact Or.inr (Nat.lt_of_le_of_lt (by exact nab_c (by exact And.right (by assumption))) (by decide))))))) | (apply ws_of; (· exact qs_nil)) | refine o_sub ?_ | refine o_mul (.inr (by unfold big; (with_reducible exact Nat.lt_of_le_of_lt (by exact nab_c (by assumption)) (by decide)))) ?_)
  refine pBi .min2 ?_
  rw [min_nat (p := PW - X * s) (by rw [← eX]; lia)]
  refine s_for0 (I := fun j l h' => (∃ u : Nat → Option MV, l = [some (.ref kp), some (.int X), some (.int Y), some (.ref kb), some (.int s), some (.int 128), some (.int 255), some (.int ((min s (PW - X * s) : Nat) : Int)), u 8, u 9, u 10]) ∧ Ext rows h h' ∧
    PlaneAt h' kp kr rows PW PH (fun x y => if (X * s ≤ x ∧ x < X * s + s) ∧ (Y * s ≤ y ∧ y < Y * s + j) then clampI (v + 128) 255 else g x y)) fun I' into out Q' kQ => ?_
  (repeat (first | (apply w_of; (· exact q_loc (by rfl))) | refine w_bin ?_ | refine w_cons ?_ | refine w_attr ?_ | refine w_bi ?_))
  first | refine pAttr P.pl rfl rfl ?_ | refine pMeth P.pl rfl rfl ?_
  repeat (first | (apply w_of; (· (apply q_mul; (· exact q_loc (by rfl)); (· exact q_loc (by rfl)); (· (unfold big; with_reducible exact Or.inr (Nat.lt_of_le_of_lt (by exact nab_c (by exact And.right (by assumption))) (by decide))))))) | (apply ws_of; (· exact qs_nil)) | refine o_sub ?_ | refine o_mul (.inr (by unfold big; (with_reducible exact Nat.lt_of_le_of_lt (by exact nab_c (by assumption)) (by decide)))) ?_)
  refine pBi .min2 ?_
  rw [min_nat (p := PH - Y * s) (by rw [← eY]; lia)]
  (repeat (apply ws_of; (· exact qs_nil)))
  refine pBi .range1 (kQ _ _ (ritems 0 (min s (PH - Y * s) : Nat) 1) (fun u1 u2 u3 u4 => items_rng (by omega)) (into _ _ _ ⟨(fr rfl), Ext.refl h, P.congr fun x y u1 u2 => (if_neg rc0).symm⟩) ?_ ?_)
  · intro j w l h1 hI hw R' kR
    have kR := fun l h q => kR l h (into _ l h q)
    obtain ⟨⟨u, rfl⟩, x1, P1⟩ := out _ _ _ hI
    obtain ⟨hj, rfl⟩ := ritems_get hw
    have hlt : Y * s + j < rows.length := by rw [P.len]; lia
    have hr : rows[Y * s + j]? = some rows[Y * s + j] := List.getElem?_eq_getElem hlt
    generalize rows[Y * s + j] = r at hr
    (repeat (first | (apply w_of; (· exact q_loc (by rfl))) | refine s_assign ?_ | refine w_item ?_ | refine w_attr ?_))
    first | refine pAttr P1.pl rfl rfl ?_ | refine pMeth P1.pl rfl rfl ?_
    repeat (first | (apply w_of; (· (apply q_add; (· (apply q_mul; (· exact q_loc (by rfl)); (· exact q_loc (by rfl)); (· (unfold big; with_reducible exact Or.inr (Nat.lt_of_le_of_lt (by exact nab_c (by exact And.right (by assumption))) (by decide)))))); (· exact q_loc (by rfl))))) | refine o_mul (.inr (by unfold big; (with_reducible exact Nat.lt_of_le_of_lt (by exact nab_c (by assumption)) (by decide)))) ?_)
    refine i_list P1.rl (by rw [← eY]; lia) (by rw [show ((Y : Int) * s + j).toNat = Y * s + j by rw [← eY]; (exact rfl), List.getElem?_map, hr]; rfl) (by rw [List.length_map, P.len]; unfold lim; (with_reducible exact Nat.le_trans (by assumption) (by decide))) ?_
    refine s_for0 (I := fun i l h' => (∃ c, l = [some (.ref kp), some (.int X), some (.int Y), some (.ref kb), some (.int s), some (.int 128), some (.int 255), some (.int ((min s (PW - X * s) : Nat) : Int)), some (.int j), some (.ref r), c]) ∧ Ext rows h h' ∧
      PlaneAt h' kp kr rows PW PH (fun x y => if ((X * s ≤ x ∧ x < X * s + s) ∧ (Y * s ≤ y ∧ y < Y * s + j)) ∨ (y = Y * s + j ∧ X * s ≤ x ∧ x < X * s + i) then clampI (v + 128) 255 else g x y)) fun I' into out Q' kQ => ?_
    (repeat (first | (apply ws_of; (· exact qs_cons (by exact q_loc (by rfl)) (by exact qs_nil))) | refine w_bi ?_))
    refine pBi .range1 (kQ _ _ (ritems 0 (min s (PW - X * s) : Nat) 1) (fun u1 u2 u3 u4 => items_rng (by omega)) (into _ _ _ ⟨⟨_, rfl⟩, x1, P1.congr fun x y u1 u2 => ite_iff rc1⟩) ?_ ?_)
    · intro i w l h2 hI hw R' kR
      have kR := fun l h q => kR l h (into _ l h q)
      obtain ⟨⟨c, rfl⟩, x2, P2⟩ := out _ _ _ hI
      obtain ⟨hi, rfl⟩ := ritems_get hw
      have m1 : j * s + i < s * s := by
        have := Nat.mul_le_mul_right s (show j + 1 ≤ s by lia)
        rw [Nat.add_mul] at this; omega
      have m2 : ((j * s : Nat) : Int) = (j : Int) * s := by push_cast; rfl
      have hss : s * s ≤ 8 * 8 := Nat.mul_le_mul hs.2 hs.2
      repeat (first | (apply w_of; (· exact q_loc (by rfl))) | (apply w_of; (· (apply q_add; (· (apply q_mul; (· exact q_loc (by rfl)); (· exact q_loc (by rfl)); (· (unfold big; with_reducible exact Or.inr (Nat.lt_of_le_of_lt (by exact nab_c (by exact And.right (by assumption))) (by decide)))))); (· exact q_loc (by rfl))))) | refine w_bin ?_ | refine w_call ?_ | refine w_cons ?_ | refine s_setitem ?_ | refine w_item ?_ | refine o_mul (.inr (by unfold big; (with_reducible exact Nat.lt_of_le_of_lt (by exact nab_c (by assumption)) (by decide)))) ?_)
      refine i_list (x2 _ _ hb hkb) (by rw [← m2]; lia) (by rw [show ((j : Int) * s + i).toNat = j * s + i by rw [← m2]; (exact rfl), List.getElem?_replicate, if_pos m1]) (by rw [List.length_replicate]; unfold lim; (with_reducible exact Nat.le_trans (by assumption) (by decide))) ?_
      (repeat (first | (apply w_of; (· exact q_loc (by rfl))) | (apply ws_of; (· exact qs_cons (by exact q_loc (by rfl)) (by exact qs_nil))) | refine o_add ?_))
      refine c_clamped ?_
      repeat (first | (apply w_of; (· exact q_loc (by rfl))) | (apply w_of; (· (apply q_add; (· (apply q_mul; (· exact q_loc (by rfl)); (· exact q_loc (by rfl)); (· (unfold big; with_reducible exact Or.inr (Nat.lt_of_le_of_lt (by exact nab_c (by exact And.right (by assumption))) (by decide)))))); (· exact q_loc (by rfl))))) | refine o_mul (.inr (by unfold big; (with_reducible exact Nat.lt_of_le_of_lt (by exact nab_c (by assumption)) (by decide)))) ?_)
      have er := P2.row _ _ hr
      have eIX : ((X : Int) * s + i).toNat = X * s + i := by rw [← eX]; (exact rfl)
      first | refine pItem (.list er (by rw [← eX]; lia) (by rw [eIX]; simp; lia) (by simp [lim]; lia)) ?_ | refine pSetI (.list er (by rw [← eX]; lia) (by rw [eIX]; simp; lia) (by simp [lim]; (with_reducible exact Nat.le_trans (by assumption) (by decide)))) ?_ | refine pCmp (.list er (by rw [← eX]; lia) (by rw [eIX]; simp; lia) (by simp [lim]; lia)) ?_
      rw [eIX]
      (repeat (refine s_nil ?_))
      refine kR _ _ ⟨⟨_, rfl⟩, x2.set _ (List.mem_of_getElem? hr), (P2.set hr).congr fun x y u1 u2 => ite_or rc2⟩
    · intro l h2 hI
      obtain ⟨⟨c, rfl⟩, x2, P2⟩ := out _ _ _ hI
      rw [ritems_len] at P2
      (repeat (refine s_nil ?_))
      refine kR _ _ ⟨(fr rfl), x2, P2.congr fun x y hx hy => ite_iff (rc3 hx)⟩
  · intro l h1 hI
    obtain ⟨⟨u, rfl⟩, x1, P1⟩ := out _ _ _ hI
    rw [ritems_len] at P1
    (repeat (refine s_nil ?_))
    exact k h1 x1 (P1.congr fun x y hx hy => ite_iff (rc4 hy))

end
/-! LO -/
section
set_option maxRecDepth 4000
set_option linter.unusedVariables false

variable {h : MH} {Q : MV → MH → Prop}

/-- what is older than b, and what is no list, stands -/
noncomputable def Old (b : Nat) (h h' : MH) : Prop := ∀ k o, h[k]? = some o → (k < b ∨ ∀ vs, o ≠ .list vs) → h'[k]? = some o
theorem Old.trans {b : Nat} {x y z : MH} (p : Old b x y) (q : Old b y z) : Old b x z := fun k o e c => q k o (p k o e c) c
theorem Ext.old {b : Nat} {x y : MH} (p : Ext [] x y) : Old b x y := fun k o e u1 => p.get e
theorem Old.refl {b : Nat} (x : MH) : Old b x x := fun u1 u2 e u3 => e

structure RowW (h : MH) (nn A : Nat) (cell : Nat → Nat → Option Int) (rows : List Nat) (y r : Nat) (cells : List MV) : Prop where
  f1 : h[r]? = some (.list cells)
  f2 : cells.length = A
  f3 : ∀ x, x < A → (cell x y = none → cells[x]? = some .none) ∧ ∀ v, cell x y = some v → ∃ q, cells[x]? = some (.ref q) ∧ q ∉ rows ∧ h[q]? = some (.list (DC v nn))
structure GridW (h : MH) (b kg nn p0 A D : Nat) (cell : Nat → Nat → Option Int) (kp : Nat) (ps : List Nat) (kr : Nat) (rows : List Nat) : Prop where
  e1 : h[kg]? = some (.inst 7 [(11, .int nn), (12, .ref kp)])
  e2 : h[kp]? = some (.list (ps.map MV.ref))
  e3 : ps[p0]? = some kr
  e4 : h[kr]? = some (.list (rows.map MV.ref))
  e5 : rows.length = D
  e6 : rows.Nodup
  e7 : ∀ r ∈ rows, b ≤ r ∧ r ≠ kp ∧ r ≠ kr
  e8 : ps.length ≤ 10
  e9 : ∀ (y : Nat) r, rows[y]? = some r → ∃ cells, RowW h nn A cell rows y r cells
structure GridAt (h : MH) (b kg nn p0 A D : Nat) (cell : Nat → Nat → Option Int) : Prop where
  ex : ∃ (kp : Nat) (ps : List Nat) (kr : Nat) (rows : List Nat), GridW h b kg nn p0 A D cell kp ps kr rows
  a1 : 1 ≤ A ∧ A ≤ 1000
  d1 : D ≤ 1000
  n1 : 3 ≤ nn ∧ nn ≤ 64

theorem GridAt.ext {h' : MH} {b kg nn p0 A D : Nat} {cell : Nat → Nat → Option Int} (G : GridAt h b kg nn p0 A D cell) (x : Ext [] h h') : GridAt h' b kg nn p0 A D cell := by
  refine ⟨?_, G.a1, G.d1, G.n1⟩
  obtain ⟨kp, ps, kr, rows, e1, e2, e3, e4, e5, e6, e7, e8, e9⟩ := G.ex
  refine ⟨kp, ps, kr, rows, x.get e1, x.get e2, e3, x.get e4, e5, e6, e7, e8, fun y r hr => ?_⟩
  obtain ⟨cells, f1, f2, f3⟩ := e9 y r hr
  exact ⟨cells, x.get f1, f2, fun z hz => ⟨(f3 z hz).1, fun v hv => let ⟨q, g1, g2, g3⟩ := (f3 z hz).2 v hv; ⟨q, g1, g2, x.get g3⟩⟩⟩
theorem GridAt.src {h' : MH} {b kg nn p0 A D ks : Nat} {cell : Nat → Nat → Option Int} (G : GridAt h b kg nn p0 A D cell) (x : Ext [ks] h h') (S : SrcAt h ks) (hks : ks < b) : GridAt h' b kg nn p0 A D cell := by
  obtain ⟨sa, sb, se, _⟩ := S.ex
  refine ⟨?_, G.a1, G.d1, G.n1⟩
  have hn := G.n1
  obtain ⟨kp, ps, kr, rows, e1, e2, e3, e4, e5, e6, e7, e8, e9⟩ := G.ex
  have ne : ∀ {k : Nat} {o : MO}, h[k]? = some o → o ≠ .list [.int sa, .int sb] → h'[k]? = some o := fun e n => x.get e (by simp; exact ne_of e se n)
  refine ⟨kp, ps, kr, rows, ne e1 (by simp), ne e2 ?_, e3, ne e4 ?_, e5, e6, e7, e8, fun y r hr => ?_⟩
  · cases ps with
    | nil => simp at e3
    | cons a r => simp
  · cases rows with
    | nil => simp
    | cons a r => simp
  · obtain ⟨cells, f1, f2, f3⟩ := e9 y r hr
    have hr' := e7 r (List.mem_of_getElem? hr)
    refine ⟨cells, x.get f1 (by simp; lia), f2, fun z hz => ⟨(f3 z hz).1, fun v hv => ?_⟩⟩
    obtain ⟨q, g1, g2, g3⟩ := (f3 z hz).2 v hv
    refine ⟨q, g1, g2, ne g3 fun z => ?_⟩
    have := congrArg (fun o => match o with | MO.list vs => vs.length | _ => 0) z
    simp [DC_len v (show 0 < nn by (with_reducible exact pos_of (by exact And.left (by assumption)) (by decide)))] at this
    lia
/-- an old world: the grid does not care for what is newer and no part of it -/
theorem GridAt.congr {b kg nn p0 A D : Nat} {cell cell' : Nat → Nat → Option Int} (G : GridAt h b kg nn p0 A D cell) (e : ∀ x y, x < A → y < D → cell x y = cell' x y) : GridAt h b kg nn p0 A D cell' := by
  refine ⟨?_, G.a1, G.d1, G.n1⟩
  obtain ⟨kp, ps, kr, rows, e1, e2, e3, e4, e5, e6, e7, e8, e9⟩ := G.ex
  refine ⟨kp, ps, kr, rows, e1, e2, e3, e4, e5, e6, e7, e8, fun y r hr => ?_⟩
  obtain ⟨cells, f1, f2, f3⟩ := e9 y r hr
  have hy : y < D := by rw [← e5]; exact (List.getElem?_eq_some_iff.mp hr).1
  exact ⟨cells, f1, f2, fun z hz => by rw [← e z y hz hy]; exact f3 z hz⟩

theorem c_grid_put {b kg nn p0 A D X Y kw : Nat} {v : Int} {cell : Nat → Nat → Option Int} (G : GridAt h b kg nn p0 A D cell) (hw : h[kw]? = some (.list (DC v nn))) (hX : X < A) (hY : Y < D)
    (k : ∀ h', Old b h h' → GridAt h' b kg nn p0 A D (fun x y => if x = X ∧ y = Y then some v else cell x y) → Q .none h') : WCall f_Grid_put [.ref kg, .int p0, .int X, .int Y, .ref kw] h Q := by
  refine callW (by rfl) (by rfl) ?_
  unfold b_Grid_put
  obtain ⟨kp, ps, kr, rows, e1, e2, e3, e4, e5, e6, e7, e8, e9⟩ := G.ex
  have ha := G.a1
  have hd := G.d1
  have hn := G.n1
  have hDl := DC_len v (show 0 < nn by (with_reducible exact pos_of (by exact And.left (by assumption)) (by decide)))
  have hlt : Y < rows.length := by lia
  have hr : rows[Y]? = some rows[Y] := List.getElem?_eq_getElem hlt
  generalize rows[Y] = r at hr
  obtain ⟨cells, f1, f2, f3⟩ := e9 Y r hr
  have hrm := e7 r (List.mem_of_getElem? hr)
  (repeat (first | (apply ws_of; (· exact qs_cons (by exact q_loc (by rfl)) (by exact qs_nil))) | refine s_setitem ?_ | refine w_bi ?_))
  refine pBi (.list hw (by rw [hDl]; unfold lim; (with_reducible exact Nat.le_trans (by exact And.right (by assumption)) (by decide)))) ?_
  have x0 : Ext [] h (h ++ [MO.list (DC v nn)]) := (Ext.refl h).push _
  (repeat (first | (apply w_of; (· exact q_loc (by rfl))) | refine w_item ?_ | refine w_attr ?_))
  first | refine pAttr (x0.get e1) rfl rfl ?_ | refine pMeth (x0.get e1) rfl rfl ?_
  (repeat (apply w_of; (· exact q_loc (by rfl))))
  refine i_list (x0.get e2) (by (exact Int.natCast_nonneg _)) (by rw [Int.toNat_natCast, List.getElem?_map, e3]; rfl) (by rw [List.length_map]; unfold lim; (with_reducible exact Nat.le_trans (by assumption) (by decide))) ?_
  (repeat (apply w_of; (· exact q_loc (by rfl))))
  refine i_list (x0.get e4) (by (exact Int.natCast_nonneg _)) (by rw [Int.toNat_natCast, List.getElem?_map, hr]; rfl) (by rw [List.length_map]; unfold lim; lia) ?_
  (repeat (apply w_of; (· exact q_loc (by rfl))))
  first | refine pItem (.list (x0.get f1) (by lia) (by rw [Int.toNat_natCast]; lia) (by unfold lim; lia)) ?_ | refine pSetI (.list (x0.get f1) (by (exact Int.natCast_nonneg _)) (by rw [Int.toNat_natCast]; lia) (by unfold lim; lia)) ?_ | refine pCmp (.list (x0.get f1) (by lia) (by rw [Int.toNat_natCast]; lia) (by unfold lim; lia)) ?_
  rw [Int.toNat_natCast]
  (repeat (refine s_nil ?_))
  have hlr := lt_of f1
  refine k _ (fun k' o e c => ?_) ⟨⟨kp, ps, kr, rows, get_set_ne (ne_of f1 e1 (by simp)) (x0.get e1), get_set_ne hrm.2.1 (x0.get e2), e3, get_set_ne hrm.2.2 (x0.get e4), e5, e6, e7, e8, fun y r' hr' => ?_⟩, G.a1, G.d1, G.n1⟩
  · have : r ≠ k' := fun q => by
      subst q
      rcases c with c | c
      · lia
      · rw [f1] at e; exact c _ (Option.some.inj e).symm
    exact get_set_ne this (x0.get e)
  · by_cases hy : y = Y
    · subst hy
      rw [hr] at hr'; cases hr'
      refine ⟨_, get_set (x0.get f1), by simp [f2], fun x hx => ?_⟩
      by_cases hxX : x = X
      · subst hxX
        refine ⟨fun q => by simp at q, fun w hw' => ?_⟩
        simp at hw'; subst hw'
        refine ⟨h.length, by rw [List.getElem?_set_self (by lia)], fun hm => ?_, get_set_ne (by lia) (get_last _ _)⟩
        obtain ⟨i, hi⟩ := List.getElem?_of_mem hm
        obtain ⟨_, z, _⟩ := e9 i _ hi
        have := lt_of z; lia
      · have hc : (if x = X ∧ y = y then some v else cell x y) = cell x y := if_neg fun q => hxX q.1
        rw [hc, List.getElem?_set_ne (Ne.symm hxX)]
        refine ⟨(f3 x hx).1, fun w hw' => ?_⟩
        obtain ⟨q, g1, g2, g3⟩ := (f3 x hx).2 w hw'
        exact ⟨q, g1, g2, get_set_ne (fun z => g2 (z ▸ List.mem_of_getElem? hr)) (x0.get g3)⟩
    · have hne : r ≠ r' := fun q => hy (nodup_at e6 hr' (q ▸ hr))
      obtain ⟨cells', f1', f2', f3'⟩ := e9 y r' hr'
      refine ⟨cells', get_set_ne hne (x0.get f1'), f2', fun x hx => ?_⟩
      have hc : (if x = X ∧ y = Y then some v else cell x y) = cell x y := if_neg fun q => hy q.2
      rw [hc]
      refine ⟨(f3' x hx).1, fun w hw' => ?_⟩
      obtain ⟨q, g1, g2, g3⟩ := (f3' x hx).2 w hw'
      exact ⟨q, g1, g2, get_set_ne (fun z => g2 (z ▸ List.mem_of_getElem? hr)) (x0.get g3)⟩

theorem c_grid_get {b kg nn p0 A D X Y : Nat} {v : Int} {cell : Nat → Nat → Option Int} (G : GridAt h b kg nn p0 A D cell) (hX : X < A) (hY : Y < D) (hc : cell X Y = some v)
    (k : ∀ q, h[q]? = some (.list (DC v nn)) → Q (.ref q) h) : WCall f_Grid_get [.ref kg, .int p0, .int X, .int Y] h Q := by
  refine callW (by rfl) (by rfl) ?_
  unfold b_Grid_get
  obtain ⟨kp, ps, kr, rows, e1, e2, e3, e4, e5, e6, e7, e8, e9⟩ := G.ex
  have ha := G.a1
  have hd := G.d1
  have hlt : Y < rows.length := by lia
  have hr : rows[Y]? = some rows[Y] := List.getElem?_eq_getElem hlt
  generalize rows[Y] = r at hr
  obtain ⟨cells, f1, f2, f3⟩ := e9 Y r hr
  obtain ⟨q, g1, g2, g3⟩ := (f3 X hX).2 v hc
  (repeat (first | (apply w_of; (· exact q_loc (by rfl))) | refine s_assign ?_ | refine w_item ?_ | refine w_attr ?_))
  first | refine pAttr e1 rfl rfl ?_ | refine pMeth e1 rfl rfl ?_
  (repeat (apply w_of; (· exact q_loc (by rfl))))
  refine i_list e2 (by (exact Int.natCast_nonneg _)) (by rw [Int.toNat_natCast, List.getElem?_map, e3]; rfl) (by rw [List.length_map]; unfold lim; (with_reducible exact Nat.le_trans (by assumption) (by decide))) ?_
  (repeat (apply w_of; (· exact q_loc (by rfl))))
  refine i_list e4 (by (exact Int.natCast_nonneg _)) (by rw [Int.toNat_natCast, List.getElem?_map, hr]; rfl) (by rw [List.length_map]; unfold lim; lia) ?_
  (repeat (apply w_of; (· exact q_loc (by rfl))))
  refine i_list f1 (by (exact Int.natCast_nonneg _)) (by rw [Int.toNat_natCast, g1]) (by unfold lim; lia) ?_
  (repeat (first | (apply w_of; (· exact q_loc (by rfl))) | (apply w_of; (· exact q_none)) | refine s_ret ?_ | refine b_cmp ?_ | refine w_ite ?_))
  refine p_isRef ⟨fun z => by simp at z, fun u1 => ?_⟩
  (repeat (apply w_of; (· exact q_loc (by rfl))))
  exact k q g3

end
/-! LP -/
section
set_option maxRecDepth 4000
set_option maxHeartbeats 1000000
set_option linter.unusedVariables false

variable {h : MH} {Q : MV → MH → Prop} {kf : Nat} {W H n : Int} {cs : Cs}

theorem FrameAt.extg {h' : MH} {k0 : Nat} {fs : List (Nat × MV)} (F : FrameAt h kf W H n cs) (x : Ext [k0] h h') (e : h[k0]? = some (.inst 7 fs)) : FrameAt h' kf W H n cs := by
  refine ⟨?_, F.ne, F.few, F.pos, F.w, F.hh, F.n8⟩
  obtain ⟨kc, ks, a, b, c, d⟩ := F.ex
  refine ⟨kc, ks, x.get a (by simp; exact ne_of a e (by simp)), x.get b (by simp; exact ne_of b e (by simp)), c, fun i k z z1 z2 => ?_⟩
  obtain ⟨id, q⟩ := d i k z z1 z2
  exact ⟨id, x.get q (by simp; exact ne_of q e (by simp))⟩

/-- rows that are made one after the other -/
theorem w_rows {l : Loc} {elt src : ME} {caps : List Nat} {D A : Nat} {x : MV} (hD : D ≤ 1000) (hsrc : ∀ Q', Q' (.rng 0 D 1) h → WE l h src Q')
    (he : ∀ v (h' : MH) (Q' : MV → MH → Prop), Q' (.ref (h'.length + 1)) (h' ++ [.list [x]] ++ [.list (List.replicate A x)]) → WE (some v :: caps.map (getL l)) h' elt Q')
    (k : ∀ (h' : MH) (rs : List Nat), Ext [] h h' → rs.length = D → rs.Nodup → (∀ r ∈ rs, h.length ≤ r ∧ h'[r]? = some (.list (List.replicate A x))) → Q (.ref h'.length) (h' ++ [.list (rs.map MV.ref)])) : WE l h (.comp elt src caps) Q := by
  refine w_comp (I := fun i ws h' => Ext [] h h' ∧ ∃ rs : List Nat, ws = rs.map MV.ref ∧ rs.length = i ∧ rs.Nodup ∧ ∀ r ∈ rs, h.length ≤ r ∧ h'[r]? = some (.list (List.replicate A x))) (hsrc _ ⟨ritems 0 D 1, fun u1 u2 u3 u4 => items_rng (by (with_reducible exact Nat.le_trans (by assumption) (by decide))), ⟨Ext.refl h, [], rfl, rfl, .nil, by simp⟩, fun i v ws h' z hv => ?_, fun ws h' z => ?_⟩)
  · obtain ⟨x1, rs, rfl, e1, e2, e3⟩ := z
    refine he v h' _ ⟨(x1.push _).push _, rs ++ [h'.length + 1], by simp, by simp [e1], ?_, fun r hr => ?_⟩
    · rw [List.nodup_append]
      refine ⟨e2, by simp, fun a ha b hb q => ?_⟩
      have := lt_of (e3 a ha).2
      simp at hb; lia
    · rcases List.mem_append.mp hr with hr | hr
      · exact ⟨(e3 r hr).1, get_push (get_push (e3 r hr).2)⟩
      · rw [List.mem_singleton.mp hr]
        have := x1.len
        refine ⟨by lia, ?_⟩
        have := get_last (h' ++ [MO.list [x]]) (.list (List.replicate A x))
        simpa using this
  · obtain ⟨x1, rs, rfl, e1, e2, e3⟩ := z
    rw [ritems_len] at e1
    exact ⟨by simp [lim]; lia, k h' rs x1 e1 e2 e3⟩

theorem c_grid_init {kg p0 N A D : Nat} {c : Int × Int} (hN : 2 ≤ N) (F : FrameAt h kf W H N cs) (hp : cs[p0]? = some c) (eg : h[kg]? = some (.inst 7 [])) (hA : pt W ((N : Int) * mxA cs) * c.1 = (A : Int)) (hD : pt H ((N : Int) * mxD cs) * c.2 = (D : Int)) (hA1 : 1 ≤ A)
    (k : ∀ h', Ext [kg] h h' → GridAt h' h.length kg (N * N) p0 A D (fun u1 u2 => none) → Q .none h') : WCall f_Grid_init [.ref kg, .ref kf] h Q := by
  refine callW (by rfl) (by rfl) ?_
  unfold b_Grid_init
  have hn8 := F.n8
  have hm := mx_pos F
  have hmA : 1 ≤ mxA cs := hm.1
  have hmD : 1 ≤ mxD cs := hm.2.2.1
  have hw := F.w
  have hh := F.hh
  have few := F.few
  have hlt0 := lt_of eg
  have hlp := (List.getElem?_eq_some_iff.mp hp).1
  (repeat (first | (apply w_of; (· exact q_loc (by rfl))) | refine w_bin ?_ | refine s_setattr ?_ | refine w_attr ?_))
  refine a_frame F (fun _ => by rfl) (by rfl) ?_
  (repeat (first | (apply w_of; (· exact q_loc (by rfl))) | refine w_attr ?_))
  refine a_frame F (fun _ => by rfl) (by rfl) ?_
  repeat (first | (apply w_of; (· exact q_loc (by rfl))) | (refine o_mul ?_ ?_; (· (unfold big; lia))) | refine o_mul (.inr (by unfold big; (with_reducible exact Nat.lt_of_le_of_lt (by exact nab_c (by assumption)) (by decide)))) ?_)
  refine pSet eg (by simp) rfl ?_
  have x1 : Ext [kg] h (h.set kg (.inst 7 (putF 11 (.int ((N : Int) * N)) []))) := (Ext.refl h).set _ (by simp)
  have eg1 := get_set (o := MO.inst 7 (putF 11 (.int ((N : Int) * N)) [])) eg
  have hl1 : (h.set kg (.inst 7 (putF 11 (.int ((N : Int) * N)) []))).length = h.length := by simp
  generalize h.set kg (.inst 7 (putF 11 (.int ((N : Int) * N)) [])) = h1 at x1 eg1 hl1
  (repeat (first | (apply ws_of; (· exact qs_nil)) | refine s_setattr ?_ | refine w_list ?_))
  refine ⟨by decide, ?_⟩
  (repeat (apply w_of; (· exact q_loc (by rfl))))
  refine pSet (get_push eg1) (by simp [putF]) rfl ?_
  have hnn : ((N * N : Nat) : Int) = (N : Int) * N := by push_cast; rfl
  have hput : putF 12 (.ref h1.length) (putF 11 (.int ((N : Int) * N)) []) = [(11, .int ((N * N : Nat) : Int)), (12, .ref h1.length)] := by rw [hnn]; rfl
  rw [hput]
  have x2 : Ext [kg] h ((h1 ++ [MO.list []]).set kg (.inst 7 [(11, .int ((N * N : Nat) : Int)), (12, .ref h1.length)])) := (x1.push _).set _ (by simp)
  have eg2 : ((h1 ++ [MO.list []]).set kg (.inst 7 [(11, .int ((N * N : Nat) : Int)), (12, .ref h1.length)]))[kg]? = _ := get_set (get_push eg1)
  have ep2 : ((h1 ++ [MO.list []]).set kg (.inst 7 [(11, .int ((N * N : Nat) : Int)), (12, .ref h1.length)]))[h1.length]? = some (.list []) := get_set_ne (by lia) (get_last _ _)
  generalize (h1 ++ [MO.list []]).set kg (.inst 7 [(11, .int ((N * N : Nat) : Int)), (12, .ref h1.length)]) = h2 at x2 eg2 ep2
  have F2 := F.extg x2 eg
  obtain ⟨kc, kcs, f1, f2, f3, f4⟩ := F2.ex
  refine s_for0 (I := fun i l h' => (∃ u : Nat → Option MV, l = [some (.ref kg), some (.ref kf), u 2, u 3, u 4]) ∧ Ext [kg] h h' ∧ h'[kg]? = some (.inst 7 [(11, .int ((N * N : Nat) : Int)), (12, .ref h.length)]) ∧ ∃ ps : List Nat, h'[h.length]? = some (.list (ps.map MV.ref)) ∧ ps.length = i ∧ (p0 < i → ∃ (kr : Nat) (rows : List Nat), ps[p0]? = some kr ∧ h.length < kr ∧ h'[kr]? = some (.list (rows.map MV.ref)) ∧ rows.length = D ∧ rows.Nodup ∧
    ∀ r ∈ rows, h.length < r ∧ r ≠ kr ∧ h'[r]? = some (.list (List.replicate A .none)))) fun I' into out Q' kQ => ?_
  (repeat (first | (apply w_of; (· exact q_loc (by rfl))) | refine w_cons ?_ | refine w_attr ?_ | refine w_bi ?_))
  first | refine pAttr f1 rfl rfl ?_ | refine pMeth f1 rfl rfl ?_
  (repeat (apply ws_of; (· exact qs_nil)))
  refine pBi (.lenL f2 (by simp [lim]; lia)) ?_
  (repeat (apply ws_of; (· exact qs_nil)))
  refine pBi .range1 (kQ _ _ (ritems 0 (kcs.map MV.ref).length 1) (fun u1 u2 u3 u4 => items_rng (by simp; lia)) (into _ _ _ ⟨(fr rfl), x2, by rw [hl1] at eg2; exact eg2, [], by rw [← hl1]; exact ep2, rfl, fun q => by lia⟩) ?_ ?_)
  · intro i v l h3 hI hv R' kR
    have kR := fun l h q => kR l h (into _ l h q)
    obtain ⟨⟨u, rfl⟩, x3, eg3, ps, ep3, hlen, hp3⟩ := out _ _ _ hI
    obtain ⟨hi, rfl⟩ := ritems_get hv
    have hi' : i < cs.length := by simp at hi; lia
    have hci : cs[i]? = some cs[i] := List.getElem?_eq_getElem hi'
    have F3 := F.extg x3 eg
    have hcp := F.pos _ (List.mem_of_getElem? hci)
    (repeat (first | (apply w_of; (· exact q_loc (by rfl))) | refine s_unpack ?_ | refine w_meth ?_))
    refine m_frame F3 (fun _ => by rfl) (by rfl) ?_
    (repeat (apply ws_of; (· exact qs_cons (by exact q_loc (by rfl)) (by exact qs_nil))))
    refine c_padded F3 hci fun h4 x4 => ?_
    refine pUnp rfl (fun u1 u2 u3 => by simp) rfl ?_
    have mp : 1 ≤ (N : Int) * mxA cs ∧ 1 ≤ (N : Int) * mxD cs := ⟨Int.mul_pos (by (with_reducible exact pos_i (by exact And.left (by assumption)))) (by (with_reducible exact pos_i (by assumption))), Int.mul_pos (by (with_reducible exact pos_i (by exact And.left (by assumption)))) (by (with_reducible exact pos_i (by assumption)))⟩
    obtain ⟨b1, b2⟩ := pt_le (a := W) (b := (N : Int) * mxA cs) (by (with_reducible exact nn_i (by exact And.left (by assumption)))) mp.1
    obtain ⟨b3, b4⟩ := pt_le (a := H) (b := (N : Int) * mxD cs) (by (with_reducible exact nn_i (by exact And.left (by assumption)))) mp.2
    have bnd : ∀ P c : Int, 0 ≤ P → P ≤ 20 → 1 ≤ c → c ≤ 4 → 0 ≤ P * c ∧ P * c ≤ 80 := fun P c q1 q2 q3 q4 => ⟨Int.mul_nonneg q1 (by (with_reducible exact nn_i (by assumption))), by have := Int.mul_le_mul q2 q4 (by (with_reducible exact nn_i (by assumption))) (by decide); (with_reducible exact Int.le_trans (by assumption) (by decide))⟩
    obtain ⟨bA0, bA1⟩ := bnd _ _ b1 (by lia) hcp.1 hcp.2.1
    obtain ⟨bD0, bD1⟩ := bnd _ _ b3 (by lia) hcp.2.2.1 hcp.2.2.2
    have hAi : ∃ A' : Nat, pt W ((N : Int) * mxA cs) * cs[i].1 = (A' : Int) := ⟨(pt W ((N : Int) * mxA cs) * cs[i].1).toNat, by lia⟩
    have hDi : ∃ D' : Nat, pt H ((N : Int) * mxD cs) * cs[i].2 = (D' : Int) := ⟨(pt H ((N : Int) * mxD cs) * cs[i].2).toNat, by lia⟩
    obtain ⟨A', hA'⟩ := hAi
    obtain ⟨D', hD'⟩ := hDi
    have hAb : A' ≤ 80 := by lia
    have hDb : D' ≤ 80 := by lia
    rw [hA', hD']
    (repeat (first | (apply w_of; (· exact q_loc (by rfl))) | refine s_expr ?_ | refine w_attr ?_ | refine w_app ?_))
    first | refine pAttr (x4.get eg3) rfl rfl ?_ | refine pMeth (x4.get eg3) rfl rfl ?_
    refine w_rows (D := D') (A := A') (x := .none) (by (with_reducible exact Nat.le_trans (by assumption) (by decide))) (fun Q' z => ?_) (fun v h' Q' z => ?_) (fun h5 rs x5 r1 r2 r3 => ?_)
    · (repeat (first | (apply ws_of; (· exact qs_cons (by exact q_loc (by rfl)) (by exact qs_nil))) | refine w_bi ?_))
      exact pBi .range1 z
    · (repeat (first | (apply ws_of; (· exact qs_cons (by exact q_none) (by exact qs_nil))) | refine w_bin ?_ | refine w_list ?_))
      refine ⟨by decide, ?_⟩
      (repeat (apply w_of; (· exact q_loc (by rfl))))
      refine o_mulL (get_last _ _) (by (exact Int.natCast_nonneg _)) (by unfold lim; lia) ?_
      simpa using z
    · have ep5 := x5.get (x4.get ep3)
      have hl3 := lt_of ep3
      have hl5 := lt_of ep5
      have hl45 := x5.len
      have hl34 := x4.len
      refine pApp (x4.get ep3) (get_push ep5) (by simp [lim]; lia) ⟨rfl, ?_⟩
      (repeat (refine s_nil ?_))
      have keep : ∀ {k : Nat} {o : MO}, h3[k]? = some o → k ≠ h.length → ((h5 ++ [MO.list (rs.map MV.ref)]).set h.length (.list (ps.map MV.ref ++ [.ref h5.length])))[k]? = some o := fun e ne => get_set_ne (Ne.symm ne) (get_push (x5.get (x4.get e)))
      refine kR _ _ ⟨(fr rfl), ?_, keep eg3 (by lia), ps ++ [h5.length], ?_, by simp [hlen], fun q => ?_⟩
      · have y : Ext [kg] h h5 := (x3.trans x4.weak).trans x5.weak
        exact (y.push _).set_new _ (Nat.le_refl _)
      · rw [get_set (get_push ep5)]; simp
      · by_cases hpi : p0 < i
        · obtain ⟨kr, rows, g1, g0, g2, g3, g4, g5⟩ := hp3 hpi
          exact ⟨kr, rows, by rw [List.getElem?_append_left (by lia)]; exact g1, g0, keep g2 (by lia), g3, g4, fun r hr => ⟨(g5 r hr).1, (g5 r hr).2.1, keep (g5 r hr).2.2 (by have := (g5 r hr).1; lia)⟩⟩
        · have hpi' : i = p0 := by lia
          subst hpi'
          have hc : cs[i] = c := by rw [hci] at hp; exact Option.some.inj hp
          rw [hc] at hA' hD'
          have eA : A' = A := by lia
          have eD : D' = D := by lia
          subst eA eD
          refine ⟨h5.length, rs, by rw [List.getElem?_append_right (by lia), hlen]; simp, by (with_reducible assumption), get_set_ne (by lia) (get_last _ _), r1, r2, fun r hr => ?_⟩
          have q1 := (r3 r hr).1
          have q2 := lt_of (r3 r hr).2
          exact ⟨by lia, by lia, get_set_ne (by lia) (get_push (r3 r hr).2)⟩
  · intro l h3 hI
    obtain ⟨⟨u, rfl⟩, x3, eg3, ps, ep3, hlen, hp3⟩ := out _ _ _ hI
    rw [ritems_len] at hlen hp3
    (repeat (refine s_nil ?_))
    obtain ⟨kr, rows, g1, g0, g2, g3, g4, g5⟩ := hp3 (by simp; lia)
    have hc := F.pos c (List.mem_of_getElem? hp)
    have mp : 1 ≤ (N : Int) * mxA cs ∧ 1 ≤ (N : Int) * mxD cs := ⟨Int.mul_pos (by (with_reducible exact pos_i (by exact And.left (by assumption)))) (by (with_reducible exact pos_i (by assumption))), Int.mul_pos (by (with_reducible exact pos_i (by exact And.left (by assumption)))) (by (with_reducible exact pos_i (by assumption)))⟩
    obtain ⟨b1, b2⟩ := pt_le (a := W) (b := (N : Int) * mxA cs) (by (with_reducible exact nn_i (by exact And.left (by assumption)))) mp.1
    obtain ⟨b3, b4⟩ := pt_le (a := H) (b := (N : Int) * mxD cs) (by (with_reducible exact nn_i (by exact And.left (by assumption)))) mp.2
    have bnd : ∀ P c : Int, 0 ≤ P → P ≤ 20 → 1 ≤ c → c ≤ 4 → 0 ≤ P * c ∧ P * c ≤ 80 := fun P c q1 q2 q3 q4 => ⟨Int.mul_nonneg q1 (by (with_reducible exact nn_i (by assumption))), by have := Int.mul_le_mul q2 q4 (by (with_reducible exact nn_i (by assumption))) (by decide); (with_reducible exact Int.le_trans (by assumption) (by decide))⟩
    obtain ⟨bA0, bA1⟩ := bnd _ _ b1 (by lia) hc.1 hc.2.1
    obtain ⟨bD0, bD1⟩ := bnd _ _ b3 (by lia) hc.2.2.1 hc.2.2.2
    have n4 : 2 * 2 ≤ N * N := Nat.mul_le_mul hN hN
    have n64 : N * N ≤ 8 * 8 := Nat.mul_le_mul (by lia) (by lia)
    refine k h3 x3 ⟨⟨h.length, ps, kr, rows, eg3, ep3, g1, g2, g3, g4, fun r hr => ⟨Nat.le_of_lt (g5 r hr).1, by have := (g5 r hr).1; lia, (g5 r hr).2.1⟩, by rw [hlen]; simp; lia, fun y r hr => ?_⟩, ⟨hA1, by lia⟩, by lia, by lia⟩
    refine ⟨_, (g5 r (List.mem_of_getElem? hr)).2.2, by simp, fun x hx => ⟨fun u1 => by rw [List.getElem?_replicate, if_pos hx], fun v hv => by simp at hv⟩⟩

end
/-! LQ -/
section
set_option maxRecDepth 4000
set_option linter.unusedVariables false

variable {h : MH} {Q : MV → MH → Prop} {kf : Nat} {W H n : Int} {cs : Cs}

theorem c_blank {PW PH : Nat} (h1 : PW ≤ 1000) (h2 : PH ≤ 1000) (k : ∀ (h' : MH) (kp kr : Nat) (rows : List Nat), Ext [] h h' → (∀ r ∈ rows, h.length ≤ r) → PlaneAt h' kp kr rows PW PH (fun u1 u2 => 0) → Q (.ref kp) h') :
    WCall f_blank [.int PW, .int PH, .int 0] h Q := by
  refine callW (by rfl) (by rfl) ?_
  unfold b_blank
  refine s_ret (w_new (by rfl) ?_)
  (repeat (first | (apply w_of; (· exact q_loc (by rfl))) | refine w_cons ?_))
  refine w_rows (D := PH) (A := PW) (x := .int 0) (by (with_reducible assumption)) (fun Q' z => ?_) (fun v h' Q' z => ?_) (fun h5 rs x5 r1 r2 r3 => ?_)
  · (repeat (first | (apply ws_of; (· exact qs_cons (by exact q_loc (by rfl)) (by exact qs_nil))) | refine w_bi ?_))
    exact pBi .range1 z
  · (repeat (first | (apply ws_of; (· exact qs_cons (by exact q_loc (by rfl)) (by exact qs_nil))) | refine w_bin ?_ | refine w_list ?_))
    refine ⟨by decide, ?_⟩
    (repeat (apply w_of; (· exact q_loc (by rfl))))
    refine o_mulL (get_last _ _) (by (exact Int.natCast_nonneg _)) (by unfold lim; lia) ?_
    simpa using z
  · (repeat (apply ws_of; (· exact qs_nil)))
    refine c_plane_init (get_last _ _) ⟨rfl, ?_⟩
    rw [set_push]
    refine k _ _ h5.length rs ((x5.push _).push _) (fun r hr => (r3 r hr).1) ⟨get_last _ _, get_push (get_last _ _), r1, r2, fun hm => ?_, fun y r hr => ?_⟩
    · have := lt_of (r3 _ hm).2; lia
    · rw [get_push (get_push (r3 r (List.mem_of_getElem? hr)).2), repl_map]

noncomputable def tabL (dv : Int) (m : Nat) : List MV := .int dv :: List.replicate (m - 1) (.int 1)
theorem tab_get {dv : Int} {m i : Nat} (h : i < m) : (tabL dv m)[i]? = some (.int (if i = 0 then dv else 1)) := by
  unfold tabL
  cases i with
  | zero => rfl
  | succ i => rw [List.getElem?_cons_succ, List.getElem?_replicate, if_pos (by lia)]; simp
theorem tab_len {dv : Int} {m : Nat} (h : 0 < m) : (tabL dv m).length = m := by unfold tabL; simp; lia

theorem c_dequant {kq m : Nat} {f dv : Int} (hm : 1 ≤ m ∧ m ≤ 64) (e : h[kq]? = some (.list (DC f m))) (hf : f.natAbs ≤ 1000) (k : Q (.ref h.length) (h ++ [.list (DC (f * dv) m)])) : WCall f_dequantise [.ref kq, .tup (tabL dv m)] h Q := by
  refine callW (by rfl) (by rfl) ?_
  unfold b_dequantise
  have hl := DC_len f (show 0 < m by (with_reducible exact pos_of (by exact And.left (by assumption)) (by decide)))
  have hl2 := tab_len (dv := dv) (show 0 < m by (with_reducible exact pos_of (by exact And.left (by assumption)) (by decide)))
  (repeat (refine s_ret ?_))
  refine w_map (f := fun v => match v with | .int i => .int (if i = 0 then f * dv else 0) | _ => .none) fun Q' kQ => ?_
  (repeat (first | (apply ws_of; (· exact qs_cons (by exact q_loc (by rfl)) (by exact qs_nil))) | refine w_cons ?_ | refine w_bi ?_))
  refine pBi (.lenL e (by rw [hl]; unfold lim; (with_reducible exact Nat.le_trans (by exact And.right (by assumption)) (by decide)))) ?_
  rw [hl]
  (repeat (apply ws_of; (· exact qs_nil)))
  refine pBi .range1 (kQ _ _ (ritems 0 m 1) (items_rng (by (with_reducible exact Nat.le_trans (by exact And.right (by assumption)) (by decide)))) (by rw [ritems_len]; unfold lim; (with_reducible exact Nat.le_trans (by exact And.right (by assumption)) (by decide))) ?_ ?_)
  · intro v hv P' kP
    obtain ⟨i, hi⟩ := List.getElem?_of_mem hv
    obtain ⟨h1, rfl⟩ := ritems_get hi
    (repeat (first | (apply w_of; (· exact q_loc (by rfl))) | refine w_bin ?_ | refine w_item ?_))
    refine i_list e (by (exact Int.natCast_nonneg _)) (by rw [Int.toNat_natCast]; exact DC_get f h1) (by rw [hl]; unfold lim; (with_reducible exact Nat.le_trans (by exact And.right (by assumption)) (by decide))) ?_
    (repeat (first | (apply w_of; (· exact q_loc (by rfl))) | refine w_item ?_))
    refine i_tup (by (exact Int.natCast_nonneg _)) (by rw [Int.toNat_natCast]; exact tab_get h1) (by rw [hl2]; unfold lim; (with_reducible exact Nat.le_trans (by exact And.right (by assumption)) (by decide))) ?_
    refine o_mul (.inl ?_) ?_
    · unfold big; split <;> (first | decide | with_reducible exact Nat.lt_of_le_of_lt (by assumption) (by decide))
    · have e0 : (if i = 0 then f else 0) * (if i = 0 then dv else 1) = (if (i : Int) = 0 then f * dv else 0) := by
        by_cases h0 : i = 0
        · subst h0; rfl
        · rw [if_neg h0, if_neg (fun q : (i : Int) = 0 => h0 (Int.ofNat.inj q)), Int.zero_mul]
      rw [e0]; exact kP
  · have : (ritems 0 m 1).map (fun v => match v with | .int i => MV.int (if i = 0 then f * dv else 0) | _ => .none) = DC (f * dv) m := by
      apply List.ext_getElem?
      intro i
      by_cases hi : i < m
      · rw [DC_get _ hi, List.getElem?_map]
        have hlt : i < (ritems 0 m 1).length := by rw [ritems_len]; exact hi
        have z := List.getElem?_eq_getElem hlt
        have hq := ritems_get z; have z2 := hq.2
        rw [z, z2]
        by_cases h0 : i = 0 <;> simp [h0]
      · rw [List.getElem?_eq_none (by rw [List.length_map, ritems_len]; (with_reducible exact Nat.ge_of_not_lt (by assumption))), List.getElem?_eq_none (by rw [DC_len _ (by (with_reducible exact pos_of (by exact And.left (by assumption)) (by decide)))]; (with_reducible exact Nat.ge_of_not_lt (by assumption)))]
    rw [this]
    exact k

theorem Ext.rows {a b c : MH} {rows : List Nat} (x : Ext [] a b) (y : Ext rows b c) (hr : ∀ r ∈ rows, a.length ≤ r) : Ext [] a c := fun k o e u1 => y k o (x.get e) fun hm => by have := hr k hm; have := lt_of e; lia

noncomputable def cellV (F : Nat → Nat → Int) (s N : Nat) (dv : Int) (x y : Nat) : Int := clampI ((F (x / s) (y / s) * dv + N / 2).fdiv N + 128) 255

theorem c_scaled_plane {b kg p0 N A D X Y PW PH s : Nat} {c : Int × Int} {dv : Int} {cell : Nat → Nat → Option Int} {F : Nat → Nat → Int} (FA : FrameAt h kf W H N cs) (hp : cs[p0]? = some c) (G : GridAt h b kg (N * N) p0 A D cell)
    (hN : N ∈ sides) (hs : s ∈ sides) (hsN : s ≤ N) (hN2 : 2 ≤ N) (hX : pt (pt (W * c.1) (mxA cs)) N = (X : Int)) (hY : pt (pt (H * c.2) (mxD cs)) N = (Y : Int)) (hXA : X ≤ A) (hYD : Y ≤ D)
    (hPW : pt (pt (W * c.1) (mxA cs) * s) N = (PW : Int)) (hPH : pt (pt (H * c.2) (mxD cs) * s) N = (PH : Int)) (hw1 : PW ≤ X * s) (hw2 : ∀ x < X, x * s ≤ PW) (hh1 : PH ≤ Y * s) (hh2 : ∀ y < Y, y * s ≤ PH)
    (hc : ∀ x y, x < X → y < Y → cell x y = some (F x y) ∧ (F x y).natAbs ≤ 200) (hdv : dv.natAbs ≤ 1000) (bX : X ≤ 100) (bY : Y ≤ 100)
    (k : ∀ (h' : MH) (kp kr : Nat) (rows : List Nat), Ext [] h h' → PlaneAt h' kp kr rows PW PH (cellV F s N dv) → Q (.ref kp) h') :
    WCall f_scaled_plane [.ref kf, .ref kg, .int p0, .tup (tabL dv (N * N)), .int s] h Q := by
  refine callW (by rfl) (by rfl) ?_
  unfold b_scaled_plane
  have hn8 := FA.n8
  have hps := side_pos hs
  have hpN := side_pos hN
  have hm := mx_pos FA
  have hmA : 1 ≤ mxA cs := hm.1
  have hmD : 1 ≤ mxD cs := hm.2.2.1
  have bP : PW ≤ 800 ∧ PH ≤ 800 := ⟨Nat.le_trans hw1 (Nat.le_trans (Nat.mul_le_mul bX hps.2.1) (by decide)), Nat.le_trans hh1 (Nat.le_trans (Nat.mul_le_mul bY hps.2.1) (by decide))⟩
  (repeat (first | (apply w_of; (· exact q_loc (by rfl))) | refine s_unpack ?_ | refine w_meth ?_))
  refine m_frame FA (fun _ => by rfl) (by rfl) ?_
  (repeat (apply ws_of; (· exact qs_cons (by exact q_loc (by rfl)) (by exact qs_nil))))
  refine c_plane_size FA hp fun h1 x1 => ?_
  refine pUnp rfl (fun u1 u2 u3 => by simp) rfl ?_
  (repeat (first | (apply w_of; (· exact q_loc (by rfl))) | refine s_unpack ?_ | refine w_meth ?_))
  refine m_frame (FA.ext x1) (fun _ => by rfl) (by rfl) ?_
  (repeat (apply ws_of; (· exact qs_cons (by exact q_loc (by rfl)) (by exact qs_nil))))
  refine c_blocks (FA.ext x1) hp fun h2 x2 => ?_
  rw [hX, hY]
  refine pUnp rfl (fun u1 u2 u3 => by simp) rfl ?_
  have x12 := x1.trans x2
  (repeat (first | (apply w_of; (· exact q_int)) | (apply w_of; (· exact q_loc (by rfl))) | refine w_bin ?_ | refine w_cons ?_ | refine s_assignT ?_ | refine w_attr ?_))
  refine a_frame (FA.ext x12) (fun _ => by rfl) (by rfl) ?_
  (repeat (first | (apply w_of; (· exact q_int)) | (apply w_of; (· exact q_loc (by rfl))) | refine w_bin ?_ | refine w_cons ?_ | refine o_sub ?_ | (refine o_shl ?_ ?_ ?_ ?_; (· decide); (· decide); (· (unfold big; decide))) | refine w_attr ?_))
  refine a_frame (FA.ext x12) (fun _ => by rfl) (by rfl) ?_
  (repeat (first | (apply w_of; (· exact q_int)) | (apply ws_of; (· exact qs_nil)) | refine o_sub ?_ | (refine o_shl ?_ ?_ ?_ ?_; (· decide); (· decide); (· (unfold big; decide)))))
  refine ⟨rfl, ?_⟩
  repeat (first | (apply w_of; (· (apply q_mul; (· exact q_loc (by rfl)); (· exact q_loc (by rfl)); (· (unfold big; lia))))) | (apply w_of; (· exact q_loc (by rfl))) | refine w_call ?_ | refine w_cons ?_ | refine s_assign ?_ | refine w_attr ?_ | refine o_mul (.inr (by unfold big; (with_reducible exact Nat.lt_of_le_of_lt (by assumption) (by decide)))) ?_)
  refine a_frame (FA.ext x12) (fun _ => by rfl) (by rfl) ?_
  (repeat (apply ws_of; (· exact qs_nil)))
  refine c_parts (by (with_reducible exact nz_of (by exact And.left (by assumption)))) (by (with_reducible exact Nat.lt_of_le_of_lt (by exact nab_c (by exact And.left (And.right (by assumption)))) (by decide))) ?_
  repeat (first | (apply w_of; (· (apply q_mul; (· exact q_loc (by rfl)); (· exact q_loc (by rfl)); (· (unfold big; lia))))) | (apply w_of; (· exact q_loc (by rfl))) | refine w_call ?_ | refine w_cons ?_ | refine w_attr ?_ | refine o_mul (.inr (by unfold big; (with_reducible exact Nat.lt_of_le_of_lt (by assumption) (by decide)))) ?_)
  refine a_frame (FA.ext x12) (fun _ => by rfl) (by rfl) ?_
  (repeat (apply ws_of; (· exact qs_nil)))
  refine c_parts (by (with_reducible exact nz_of (by exact And.left (by assumption)))) (by (with_reducible exact Nat.lt_of_le_of_lt (by exact nab_c (by exact And.left (And.right (by assumption)))) (by decide))) ?_
  (repeat (apply ws_of; (· exact qs_cons (by exact q_int) (by exact qs_nil))))
  have hPW' : (pt (W * c.1) (mxA cs) * s + N - 1).fdiv N = (PW : Int) := hPW
  have hPH' : (pt (H * c.2) (mxD cs) * s + N - 1).fdiv N = (PH : Int) := hPH
  rw [hPW', hPH']
  refine c_blank (by lia) (by lia) fun h3 kp kr rows x3 hrows P3 => ?_
  have x03 := x12.trans x3
  have hrows0 : ∀ r ∈ rows, h.length ≤ r := fun r hr => by have := hrows r hr; have := x12.len; (with_reducible exact Nat.le_trans (by assumption) (by assumption))
  refine s_for0 (I := fun j l h' => (∃ u : Nat → Option MV, l = [some (.ref kf), some (.ref kg), some (.int p0), some (.tup (tabL dv (N * N))), some (.int s), some (.ref kp), u 6, some (.int (pt (W * c.1) (mxA cs))), some (.int (pt (H * c.2) (mxD cs))), some (.int X), some (.int Y), some (.int 128), some (.int 255), u 13, u 14]) ∧ Ext [] h h' ∧
    PlaneAt h' kp kr rows PW PH (fun x y => if y < j * s then cellV F s N dv x y else 0)) fun I' into out Q' kQ => ?_
  (repeat (first | (apply ws_of; (· exact qs_cons (by exact q_loc (by rfl)) (by exact qs_nil))) | refine w_bi ?_))
  refine pBi .range1 (kQ _ _ (ritems 0 Y 1) (fun u1 u2 u3 u4 => items_rng (by (with_reducible exact Nat.le_trans (by assumption) (by decide)))) (into _ _ _ ⟨(fr rfl), x03, P3.congr fun x y u1 u2 => by rw [if_neg (by lia)]⟩) ?_ ?_)
  · intro j w l h4 hI hw R' kR
    have kR := fun l h q => kR l h (into _ l h q)
    obtain ⟨⟨u, rfl⟩, x4, P4⟩ := out _ _ _ hI
    obtain ⟨hj, rfl⟩ := ritems_get hw
    refine s_for0 (I := fun i l h' => (∃ u : Nat → Option MV, l = [some (.ref kf), some (.ref kg), some (.int p0), some (.tup (tabL dv (N * N))), some (.int s), some (.ref kp), some (.int j), some (.int (pt (W * c.1) (mxA cs))), some (.int (pt (H * c.2) (mxD cs))), some (.int X), some (.int Y), some (.int 128), some (.int 255), u 13, u 14]) ∧ Ext [] h h' ∧
      PlaneAt h' kp kr rows PW PH (fun x y => if y < j * s ∨ (y < j * s + s ∧ x < i * s) then cellV F s N dv x y else 0)) fun I' into out Q' kQ => ?_
    (repeat (first | (apply ws_of; (· exact qs_cons (by exact q_loc (by rfl)) (by exact qs_nil))) | refine w_bi ?_))
    refine pBi .range1 (kQ _ _ (ritems 0 X 1) (fun u1 u2 u3 u4 => items_rng (by (with_reducible exact Nat.le_trans (by assumption) (by decide)))) (into _ _ _ ⟨(fr rfl), x4, P4.congr fun x y u1 u2 => ?_⟩) ?_ ?_)
    · by_cases q : y < j * s
      · rw [if_pos q, if_pos (.inl q)]
      · rw [if_neg q, if_neg (by lia)]
    · intro i w l h5 hI hw R' kR
      have kR := fun l h q => kR l h (into _ l h q)
      obtain ⟨⟨u, rfl⟩, x5, P5⟩ := out _ _ _ hI
      obtain ⟨hi, rfl⟩ := ritems_get hw
      obtain ⟨hc1, hc2⟩ := hc i j hi hj
      have G5 := G.ext x5
      have F5 := FA.ext x5
      obtain ⟨gp, _, _, _, ge, _⟩ := G5.ex
      (repeat (first | (apply w_of; (· exact q_loc (by rfl))) | refine w_call ?_ | refine w_cons ?_ | refine s_assign ?_ | refine w_meth ?_))
      first | refine pAttr ge rfl rfl ?_ | refine pMeth ge rfl rfl ?_
      (repeat (apply ws_of; (· exact qs_cons (by exact q_loc (by rfl)) (by exact qs_cons (by exact q_loc (by rfl)) (by exact qs_cons (by exact q_loc (by rfl)) (by exact qs_nil))))))
      refine c_grid_get G5 (by (with_reducible exact Nat.lt_of_lt_of_le (by assumption) (by assumption))) (by (with_reducible exact Nat.lt_of_lt_of_le (by assumption) (by assumption))) hc1 fun q eq => ?_
      (repeat (apply ws_of; (· exact qs_cons (by exact q_loc (by rfl)) (by exact qs_nil))))
      refine c_dequant ⟨by (with_reducible exact And.left (And.right (And.right (by assumption)))), by (with_reducible exact And.right (And.right (And.right (by assumption))))⟩ eq (by (with_reducible exact Nat.le_trans (by assumption) (by decide))) ?_
      have x6 : Ext [] h5 (h5 ++ [MO.list (DC (F i j * dv) (N * N))]) := (Ext.refl h5).push _
      have el := get_last h5 (MO.list (DC (F i j * dv) (N * N)))
      generalize h5 ++ [MO.list (DC (F i j * dv) (N * N))] = h6 at x6 el
      (repeat (first | (apply w_of; (· exact q_loc (by rfl))) | refine w_call ?_ | refine w_cons ?_ | refine s_expr ?_ | refine w_attr ?_))
      refine a_frame (F5.ext x6) (fun _ => by rfl) (by rfl) ?_
      (repeat (apply ws_of; (· exact qs_cons (by exact q_loc (by rfl)) (by exact qs_nil))))
      have hv : (F i j * dv).natAbs < 2 ^ 30 := by
        rw [Int.natAbs_mul]
        have := Nat.mul_le_mul hc2 hdv
        (with_reducible exact Nat.lt_of_le_of_lt (by assumption) (by decide))
      refine c_scaled hN hs hsN hN2 el hv fun h7 kb n7 x7 e7 => ?_
      (repeat (apply ws_of; (· exact qs_cons (by exact q_loc (by rfl)) (by exact qs_cons (by exact q_loc (by rfl)) (by exact qs_cons (by exact q_loc (by rfl)) (by exact qs_nil))))))
      have P7 := (P5.ext x6).ext x7
      have hkb : kb ∉ rows := fun hm => by
        obtain ⟨y, hy⟩ := List.getElem?_of_mem hm
        have := lt_of ((P5.ext x6).row y _ hy)
        lia
      refine c_put_block P7 e7 hkb (hw2 i hi) (hh2 j hj) ⟨by (with_reducible exact And.left (by assumption)), by (with_reducible exact And.left (And.right (by assumption)))⟩ (by lia) (by lia) fun h8 x8 P8 => ⟨rfl, ?_⟩
      (repeat (refine s_nil ?_))
      have x07 := (x5.trans x6).trans x7
      refine kR _ _ ⟨(fr rfl), x07.rows x8 hrows0, P8.congr fun x y hx hy => ?_⟩
      have a1 : (i + 1) * s = i * s + s := Nat.succ_mul i s
      by_cases q : (i * s ≤ x ∧ x < i * s + s) ∧ (j * s ≤ y ∧ y < j * s + s)
      · rw [if_pos q, if_pos (by lia)]
        unfold cellV
        have d1 : x / s = i := by
          apply Nat.div_eq_of_lt_le
          · lia
          · rw [Nat.succ_mul]; lia
        have d2 : y / s = j := by
          apply Nat.div_eq_of_lt_le
          · (with_reducible exact And.left (And.right (by assumption)))
          · rw [Nat.succ_mul]; (with_reducible exact And.right (And.right (by assumption)))
        rw [d1, d2]
      · rw [if_neg q]
        by_cases q2 : y < j * s ∨ (y < j * s + s ∧ x < i * s)
        · rw [if_pos q2, if_pos (by lia)]
        · rw [if_neg q2, if_neg (by lia)]
    · intro l h5 hI
      obtain ⟨⟨u, rfl⟩, x5, P5⟩ := out _ _ _ hI
      rw [ritems_len] at P5
      (repeat (refine s_nil ?_))
      refine kR _ _ ⟨(fr rfl), x5, P5.congr fun x y hx hy => ?_⟩
      have a1 : (j + 1) * s = j * s + s := Nat.succ_mul j s
      by_cases q : y < (j + 1) * s
      · rw [if_pos q, if_pos (by lia)]
      · rw [if_neg q, if_neg (by lia)]
  · intro l h4 hI
    obtain ⟨⟨u, rfl⟩, x4, P4⟩ := out _ _ _ hI
    rw [ritems_len] at P4
    (repeat (first | (apply w_of; (· exact q_loc (by rfl))) | refine s_ret ?_))
    exact k h4 kp kr rows x4 (P4.congr fun x y hx hy => by rw [if_pos (by (with_reducible exact Nat.lt_of_lt_of_le (by assumption) (by assumption)))])

end
/-! LR -/
section
set_option maxRecDepth 4000
set_option linter.unusedVariables false

variable {h : MH} {Q : MV → MH → Prop} {kf : Nat} {W H n : Int} {cs : Cs}

theorem side2 {N : Nat} (hN : N ∈ sides) (h2 : 2 ≤ N) : N = 2 ∨ N = 4 ∨ N = 8 := by
  rcases side_cases hN with rfl | rfl | rfl | rfl <;> (first | decide | lia)
theorem over_pt {a : Int} {N : Nat} (hN : N ∈ sides) (h2 : 2 ≤ N) : -((-a).fdiv N) = pt a N := by
  unfold pt
  rw [Int.fdiv_eq_ediv_of_nonneg _ (Int.natCast_nonneg N), Int.fdiv_eq_ediv_of_nonneg _ (Int.natCast_nonneg N)]
  rcases side2 hN h2 with rfl | rfl | rfl <;> lia
theorem pt_iff {a b y : Int} (hb : 0 < b) : pt a b ≤ y ↔ a ≤ y * b := by
  unfold pt
  rw [Int.fdiv_eq_ediv_of_nonneg _ (Int.le_of_lt hb), ← Int.lt_add_one_iff, Int.ediv_lt_iff_lt_mul hb, Int.add_mul, Int.one_mul]
  omega
theorem pt_mul {a b : Int} (hb : 0 < b) : a ≤ pt a b * b := (pt_iff hb).mp (Int.le_refl _)
theorem pt_one {a b : Int} (hb : 0 < b) (ha : 1 ≤ a) : 1 ≤ pt a b := Int.not_lt.mp fun h => by
  have := (pt_iff (y := 0) hb).mp (Int.lt_add_one_iff.mp h)
  rw [Int.zero_mul] at this; exact absurd (Int.le_trans ha this) (by decide)
/-- the padded side is no less than the blocks -/
theorem pad_ge {W a mx : Int} {N : Nat} (hN : N ∈ sides) (h2 : 2 ≤ N) (hW : 1 ≤ W) (ha : 1 ≤ a) (hb : a ≤ mx) (hm : mx ≤ 4) : pt (pt (W * a) mx) N ≤ pt W (N * mx) * a ∧ 1 ≤ pt W (N * mx) * a := by
  have n0 : (0 : Int) < N := Int.ofNat_lt.mpr (Nat.lt_of_lt_of_le (by decide) h2)
  have m0 : 0 < mx := Int.le_trans ha hb
  refine ⟨(pt_iff n0).mpr ((pt_iff m0).mpr ?_), Int.mul_pos (pt_one (Int.mul_pos n0 m0) hW) ha⟩
  rw [Int.mul_assoc, Int.mul_assoc, Int.mul_comm a, ← Int.mul_assoc]
  exact Int.mul_le_mul_of_nonneg_right (pt_mul (Int.mul_pos n0 m0)) (Int.le_of_lt ha)
theorem wide_rng {W a mx : Int} (hW : 1 ≤ W ∧ W ≤ 20) (ha : 1 ≤ a) (hb : a ≤ mx) (hm : mx ≤ 4) : 1 ≤ pt (W * a) mx ∧ pt (W * a) mx ≤ 20 := by
  have m0 : 0 < mx := Int.le_trans ha hb
  refine ⟨pt_one m0 (Int.mul_pos hW.1 ha), (pt_iff m0).mpr (Int.le_trans (Int.mul_le_mul_of_nonneg_right hW.2 (Int.le_of_lt ha)) (Int.mul_le_mul_of_nonneg_left hb (by decide)))⟩
theorem plane_rng {w : Int} {N s X PW : Nat} (hN : N ∈ sides) (h2 : 2 ≤ N) (hs : s ∈ sides) (hsN : s ≤ N) (hw : 1 ≤ w ∧ w ≤ 20) (hX : pt w N = (X : Int)) (hP : pt (w * s) N = (PW : Int)) : PW ≤ X * s ∧ (∀ x < X, x * s ≤ PW) ∧ X ≤ 10 ∧ PW ≤ 80 := by
  have n0 : (0 : Int) < N := Int.ofNat_lt.mpr (Nat.lt_of_lt_of_le (by decide) h2)
  have s0 : (0 : Int) ≤ s := Int.natCast_nonneg s
  have e1 : w ≤ (X : Int) * N := hX ▸ pt_mul n0
  have e2 : w * s ≤ (PW : Int) * N := hP ▸ pt_mul n0
  refine ⟨Int.ofNat_le.mp ?_, fun x hx => Nat.not_lt.mp fun h => ?_, Int.ofNat_le.mp ?_, Int.ofNat_le.mp ?_⟩
  · rw [← hP, Int.natCast_mul]
    refine (pt_iff n0).mpr ?_
    rw [Int.mul_assoc, Int.mul_comm (s : Int), ← Int.mul_assoc]
    exact Int.mul_le_mul_of_nonneg_right e1 s0
  · have h3 : ¬ pt w N ≤ (x : Int) := fun q => by rw [hX] at q; exact absurd (Int.ofNat_le.mp q) (Nat.not_le.mpr hx)
    rw [pt_iff n0] at h3
    have h4 : (PW : Int) * N < ((x * s : Nat) : Int) * N := Int.mul_lt_mul_of_pos_right (Int.ofNat_lt.mpr h) n0
    have h5 : (x : Int) * N * s ≤ w * s := Int.mul_le_mul_of_nonneg_right (Int.le_of_lt (Int.not_le.mp h3)) s0
    rw [Int.natCast_mul, Int.mul_assoc, Int.mul_comm (s : Int), ← Int.mul_assoc] at h4
    exact absurd (Int.lt_of_lt_of_le h4 (Int.le_trans h5 e2)) (Int.lt_irrefl _)
  · rw [← hX]
    refine (pt_iff n0).mpr (Int.le_trans hw.2 ?_)
    exact Int.mul_le_mul_of_nonneg_left (a := 2) (Int.ofNat_le.mpr h2) (by decide : (0 : Int) ≤ 10)
  · rw [← hP]
    refine (pt_iff n0).mpr (Int.le_trans (Int.mul_le_mul_of_nonneg_right hw.2 s0) ?_)
    exact Int.mul_le_mul (by decide) (Int.ofNat_le.mpr hsN) s0 (by decide)

theorem clamp_mono {a b m : Int} (h : a ≤ b) (hm : 0 ≤ m) : clampI a m ≤ clampI b m := by
  unfold clampI
  repeat' split
  all_goals (first | decide | with_reducible assumption | lia)
/-- the law's bounds hold -/
theorem law_low {v : Int} {N : Nat} (hN : N ∈ sides) (h2 : 2 ≤ N) : clampI (-((9 * (N : Int) - 16 * v).fdiv (16 * N)) + 128) 255 ≤ clampI ((v + N / 2).fdiv N + 128) 255 := by
  refine clamp_mono ?_ (by decide)
  rw [Int.fdiv_eq_ediv_of_nonneg _ (Int.natCast_nonneg N), Int.fdiv_eq_ediv_of_nonneg _ (show 0 ≤ 16 * (N : Int) by lia)]
  rcases side2 hN h2 with rfl | rfl | rfl <;> lia
theorem law_high {v : Int} {N : Nat} (hN : N ∈ sides) (h2 : 2 ≤ N) : clampI ((v + N / 2).fdiv N + 128) 255 ≤ clampI ((16 * v + 9 * (N : Int)).fdiv (16 * N) + 128) 255 := by
  refine clamp_mono ?_ (by decide)
  rw [Int.fdiv_eq_ediv_of_nonneg _ (Int.natCast_nonneg N), Int.fdiv_eq_ediv_of_nonneg _ (show 0 ≤ 16 * (N : Int) by lia)]
  rcases side2 hN h2 with rfl | rfl | rfl <;> lia

/-- the middle of three -/
noncomputable def sort3 (m : Int) : List Int := if m < 0 then [m, 0, 255] else if 255 < m then [0, 255, m] else [0, m, 255]
theorem sort3_ok (m : Int) : (sort3 m).Perm [0, m, 255] ∧ (sort3 m).Pairwise (· ≤ ·) ∧ (sort3 m)[1]? = some (clampI m 255) := by
  unfold sort3 clampI
  split
  · rename_i h
    refine ⟨.swap .., by simp; lia, rfl⟩
  · rename_i h
    split
    · rename_i h'
      exact ⟨.cons _ (.swap ..), by simp; lia, rfl⟩
    · rename_i h'
      exact ⟨.refl _, by simp; lia, rfl⟩

theorem putD_get {k : Int × Int} {v : MV} : ∀ {es : List ((Int × Int) × MV)}, (putD k v es).lookup k = some v
  | [] => by simp [putD]
  | e :: r => by
    unfold putD
    split
    · simp
    · rename_i h
      have hb : (k == e.1) = false := by simp; exact fun q => h q.symm
      have hq := e; have e1 := hq.1; have e2 := hq.2
      rw [List.lookup_cons, hb]
      exact putD_get
theorem putD_ne {k k' : Int × Int} {v : MV} (hne : k' ≠ k) : ∀ {es : List ((Int × Int) × MV)}, (putD k v es).lookup k' = es.lookup k'
  | [] => by
    have hb : (k' == k) = false := by simpa using hne
    simp [putD, List.lookup_cons, hb]
  | e :: r => by
    unfold putD
    obtain ⟨e1, e2⟩ := e
    split
    · rename_i h
      have h : e1 = k := h
      subst h
      have hb : (k' == e1) = false := by simpa using hne
      rw [List.lookup_cons, List.lookup_cons, hb]
    · rw [List.lookup_cons, List.lookup_cons]
      split
      · rfl
      · exact putD_ne hne
theorem putD_len {k : Int × Int} {v : MV} : ∀ {es : List ((Int × Int) × MV)}, (putD k v es).length ≤ es.length + 1
  | [] => by simp [putD]
  | e :: r => by
    unfold putD
    split
    · simp
    · have := putD_len (k := k) (v := v) (es := r)
      simp; (with_reducible assumption)

/-- old things, but the source -/
noncomputable def Rl (b ks : Nat) (h h' : MH) : Prop := ∀ k o, h[k]? = some o → k ≠ ks → (k < b ∨ ∀ vs, o ≠ .list vs) → h'[k]? = some o
theorem Rl.trans {b ks : Nat} {x y z : MH} (p : Rl b ks x y) (q : Rl b ks y z) : Rl b ks x z := fun k o e n c => q k o (p k o e n c) n c
theorem Ext.rl {b ks : Nat} {x y : MH} (p : Ext [ks] x y) : Rl b ks x y := fun k o e n u1 => p.get e (by simpa using n)
theorem Ext.rl0 {b ks : Nat} {x y : MH} (p : Ext [] x y) : Rl b ks x y := fun k o e u1 u2 => p.get e
theorem Old.rl {b ks : Nat} {x y : MH} (p : Old b x y) : Rl b ks x y := fun k o e u1 c => p k o e c
theorem FrameAt.rl {h' : MH} {b ks : Nat} (F : FrameAt h kf W H n cs) (x : Rl b ks h h') (S : SrcAt h ks) (hb : h.length ≤ b) : FrameAt h' kf W H n cs := by
  obtain ⟨vs, e, hv⟩ := S.list
  have g : ∀ {k : Nat} {o : MO}, h[k]? = some o → o ≠ .list vs → h'[k]? = some o := fun z ne => x _ _ z (ne_of z e ne) (.inl (Nat.lt_of_lt_of_le (lt_of z) hb))
  refine ⟨?_, F.ne, F.few, F.pos, F.w, F.hh, F.n8⟩
  obtain ⟨kc, cks, a, d, c, f⟩ := F.ex
  refine ⟨kc, cks, g a (by simp), g d ?_, c, fun i k z z1 z2 => let ⟨id, q⟩ := f i k z z1 z2; ⟨id, g q (by simp)⟩⟩
  have hc := F.ne
  intro q
  cases cks with
  | nil => simp at c; exact hc (List.length_eq_zero_iff.mp c.symm)
  | cons k ks => simp at q; exact hv _ _ q.symm
theorem SrcAt.old {h' : MH} {b ks : Nat} (S : SrcAt h ks) (x : Old b h h') (hk : ks < b) : SrcAt h' ks := let ⟨a, c, e, z, z'⟩ := S.ex; ⟨a, c, x _ _ e (.inl hk), z, z'⟩
theorem GridAt.dict {b kg nn p0 A D kd : Nat} {es : List ((Int × Int) × MV)} {o : MO} {cell : Nat → Nat → Option Int} (G : GridAt h b kg nn p0 A D cell) (e : h[kd]? = some (.dict es)) : GridAt (h.set kd o) b kg nn p0 A D cell := by
  have g : ∀ {k : Nat} {p : MO}, h[k]? = some p → p ≠ .dict es → (h.set kd o)[k]? = some p := fun z ne => get_set_ne (ne_of e z (Ne.symm ne)) z
  refine ⟨?_, G.a1, G.d1, G.n1⟩
  obtain ⟨kp, ps, kr, rows, e1, e2, e3, e4, e5, e6, e7, e8, e9⟩ := G.ex
  refine ⟨kp, ps, kr, rows, g e1 (by simp), g e2 (by simp), e3, g e4 (by simp), e5, e6, e7, e8, fun y r hr => ?_⟩
  obtain ⟨cells, f1, f2, f3⟩ := e9 y r hr
  exact ⟨cells, g f1 (by simp), f2, fun z hz => ⟨(f3 z hz).1, fun v hv => let ⟨q, g1, g2, g3⟩ := (f3 z hz).2 v hv; ⟨q, g1, g2, g g3 (by simp)⟩⟩⟩
theorem SrcAt.dict {ks kd : Nat} {es : List ((Int × Int) × MV)} {o : MO} (S : SrcAt h ks) (e : h[kd]? = some (.dict es)) : SrcAt (h.set kd o) ks := let ⟨a, c, z, w, w'⟩ := S.ex; ⟨a, c, get_set_ne (ne_of e z (by simp)) z, w, w'⟩

end
/-! LS -/
section
set_option maxRecDepth 4000
set_option linter.unusedVariables false

variable {h : MH} {Q : MV → MH → Prop} {kf : Nat} {W H : Int} {cs : Cs}

/-- the grid and the first coefficients, as far as they are laid -/
structure FillW (h : MH) (b kg kd N p0 A D : Nat) (P : Nat → Nat → Prop) (cnt : Nat) (cell : Nat → Nat → Option Int) (es : List ((Int × Int) × MV)) : Prop where
  g : GridAt h b kg (N * N) p0 A D cell
  ed : h[kd]? = some (.dict es)
  len : es.length ≤ cnt
  at_ : ∀ x y : Nat, P x y → ∃ v, cell x y = some v ∧ es.lookup ((x : Int), (y : Int)) = some (.int v) ∧ v.natAbs ≤ 200
structure Fill (h0 h : MH) (b ks kg kd N p0 A D : Nat) (P : Nat → Nat → Prop) (cnt : Nat) : Prop where
  src : SrcAt h ks
  rl : Rl b ks h0 h
  ex : ∃ (cell : Nat → Nat → Option Int) (es : List ((Int × Int) × MV)), FillW h b kg kd N p0 A D P cnt cell es
theorem Fill.congr {h0 h : MH} {b ks kg kd N p0 A D cnt cnt' : Nat} {P P' : Nat → Nat → Prop} (F : Fill h0 h b ks kg kd N p0 A D P cnt) (e : ∀ x y, P' x y → P x y) (hc : cnt ≤ cnt') : Fill h0 h b ks kg kd N p0 A D P' cnt' :=
  ⟨F.src, F.rl, let ⟨cell, es, a, b, c, d⟩ := F.ex; ⟨cell, es, a, b, by (with_reducible exact Nat.le_trans (by assumption) (by assumption)), fun x y z => d x y (e x y z)⟩⟩

noncomputable def fillBody : List MS := [.setitem (.loc 10) (.tup [.loc 13, .loc 5]) (.call 35 [.loc 0, .list [.int 0, .int 200, .neg (.int 200), .bin .sub (.call 21 [.loc 0, .int 99]) (.int 49)]]),
    .expr (.meth (.loc 9) 23 [.loc 2, .loc 13, .loc 5, .bin .add (.list [.item (.loc 10) (.tup [.loc 13, .loc 5])]) (.bin .mul (.list [.int 0]) (.bin .sub (.bin .mul (.loc 8) (.loc 8)) (.int 1)))])]

theorem fill_step {h0 : MH} {b ks kg kd N p0 A D cnt i j : Nat} {P : Nat → Nat → Prop} {l : Loc} {R : Option MV → Loc → MH → Prop} (F : Fill h0 h b ks kg kd N p0 A D P cnt) (hks : ks < b) (hkd : h0.length ≤ kd) (hi : i < A) (hj : j < D) (hcnt : cnt ≤ 10000) (hN : 2 ≤ N ∧ N ≤ 8)
    (l0 : getL l 0 = some (.ref ks)) (l2 : getL l 2 = some (.int p0)) (l5 : getL l 5 = some (.int j)) (l8 : getL l 8 = some (.int N)) (l9 : getL l 9 = some (.ref kg)) (l10 : getL l 10 = some (.ref kd)) (l13 : getL l 13 = some (.int i))
    (k : ∀ h', Fill h0 h' b ks kg kd N p0 A D (fun x y => P x y ∨ (x = i ∧ y = j)) (cnt + 1) → R Option.none l h') : WSs l h fillBody R := by
  obtain ⟨cell, es, G, ed, elen, hP⟩ := F.ex
  obtain ⟨sa, sb, se, _⟩ := F.src.ex
  have hlt := lt_of se
  have hnn : ((N * N : Nat) : Int) = (N : Int) * N := by push_cast; rfl
  have n4 : 2 * 2 ≤ N * N := Nat.mul_le_mul hN.1 hN.1
  have n64 : N * N ≤ 8 * 8 := Nat.mul_le_mul hN.2 hN.2
  unfold fillBody
  refine s_setitem (w_call (w_cons (w_loc l0 ?_)))
  (repeat (first | (apply w_of; (· exact q_int)) | (apply w_of; (· (apply q_neg; (· exact q_int)))) | refine w_bin ?_ | refine w_call ?_ | refine w_cons ?_ | refine w_list ?_))
  refine w_loc l0 ?_
  (repeat (apply ws_of; (· exact qs_cons (by exact q_int) (by exact qs_nil))))
  refine c_take F.src (by decide) (by decide) fun d h1 d0 d1 S1 x1 hl1 => ?_
  (repeat (first | (apply w_of; (· exact q_int)) | (apply ws_of; (· exact qs_nil)) | refine o_sub ?_))
  refine ⟨by (simp [lim]; done), ?_⟩
  (repeat (apply ws_of; (· exact qs_nil)))
  have xa : Ext [] h1 (h1 ++ [MO.list [.int 0, .int 200, .int (-200), .int (d - 49)]]) := (Ext.refl h1).push _
  refine c_one (S1.ext xa) (get_last _ _) (by lia) (by simp) (by simp) fun v h2 hv S2 x2 hl2 => ?_
  obtain ⟨u, rfl, hu⟩ : ∃ u : Int, v = .int u ∧ u.natAbs ≤ 200 := by
    simp at hv
    rcases hv with rfl | rfl | rfl | rfl <;> exact ⟨_, rfl, by (first | decide | lia)⟩
  have G2 : GridAt h2 b kg (N * N) p0 A D cell := ((G.src x1 F.src hks).ext xa).src x2 (S1.ext xa) hks
  have kdne : kd ∉ [ks] := by simp; exact ne_of ed se (by simp)
  have ed2 : h2[kd]? = some (.dict es) := x2.get (xa.get (x1.get ed kdne)) kdne
  have rl2 : Rl b ks h0 h2 := ((F.rl.trans x1.rl).trans xa.rl0).trans x2.rl
  refine w_loc l10 (w_tup (w_cons (w_loc l13 (w_cons (w_loc l5 (w_nil ⟨by (simp [lim]; done), ?_⟩))))))
  first | refine pItem (.dict ed2 (by unfold lim; lia)) ?_ | refine pSetI (.dict ed2 (by unfold lim; lia)) ?_ | refine pCmp (.dict ed2 (by unfold lim; lia)) ?_
  have ed3 := get_set (o := MO.dict (putD ((i : Int), (j : Int)) (.int u) es)) ed2
  have G3 : GridAt (h2.set kd (.dict (putD ((i : Int), (j : Int)) (.int u) es))) b kg (N * N) p0 A D cell := G2.dict ed2
  have S3 : SrcAt (h2.set kd (.dict (putD ((i : Int), (j : Int)) (.int u) es))) ks := S2.dict ed2
  have rl3 : Rl b ks h0 (h2.set kd (.dict (putD ((i : Int), (j : Int)) (.int u) es))) := fun k o e n c => get_set_ne (by have := lt_of e; lia) (rl2 k o e n c)
  generalize h2.set kd (.dict (putD ((i : Int), (j : Int)) (.int u) es)) = h3 at ed3 G3 S3 rl3
  obtain ⟨gp, _, _, _, ge, _⟩ := G3.ex
  refine s_expr (w_meth (w_loc l9 ⟨_, _, _, _, rfl, ge, rfl, rfl, ?_⟩))
  refine w_cons (w_loc l2 (w_cons (w_loc l13 (w_cons (w_loc l5 (w_cons (w_bin (w_list (w_cons (w_item (w_loc l10 (w_tup (w_cons (w_loc l13 (w_cons (w_loc l5 (w_nil ⟨by (simp [lim]; done), ?_⟩)))))))))))))))))
  first | refine pItem (.dict ed3 putD_get) (w_nil ⟨by (simp [lim]; done), ?_⟩) | refine pSetI (.dict ed3 putD_get) (w_nil ⟨by decide, ?_⟩) | refine pCmp (.dict ed3 putD_get) (w_nil ⟨by decide, ?_⟩)
  refine w_bin (w_list (w_cons (w_int (w_nil ⟨by decide, ?_⟩))))
  refine w_bin (w_bin (w_loc l8 (w_loc l8 (o_mul (.inr (by unfold big; (with_reducible exact Nat.lt_of_le_of_lt (by exact nab_c (by exact And.right (by assumption))) (by decide)))) (w_int (o_sub ?_))))))
  have hz : ((N : Int) * N - 1).toNat = N * N - 1 := by rw [← hnn]; lia
  refine o_mulL (get_last _ _) (by rw [← hnn]; lia) (by unfold lim; rw [← hnn]; lia) ?_
  rw [hz]
  refine o_addL (get_push (get_push (get_last _ _))) (get_last _ _) (by simp [lim]; lia) ?_
  have xb : Ext [] h3 (h3 ++ [MO.list [.int u]] ++ [MO.list [.int 0]] ++ [MO.list (List.replicate (N * N - 1) (.int 0))] ++ [MO.list ([.int u] ++ List.replicate (N * N - 1) (.int 0))]) := ((((Ext.refl h3).push _).push _).push _).push _
  have el := get_last (h3 ++ [MO.list [.int u]] ++ [MO.list [.int 0]] ++ [MO.list (List.replicate (N * N - 1) (.int 0))]) (MO.list ([.int u] ++ List.replicate (N * N - 1) (.int 0)))
  refine w_nil ?_
  refine c_grid_put (G3.ext xb) el hi hj fun h4 o4 G4 => ⟨rfl, s_nil (k h4 ⟨(S3.ext xb).old o4 hks, (rl3.trans xb.rl0).trans o4.rl, _, _, G4, o4 _ _ (xb.get ed3) (.inr (by simp)), ?_, fun x y z => ?_⟩)⟩
  · have := putD_len (k := ((i : Int), (j : Int))) (v := .int u) (es := es)
    lia
  · by_cases q : x = i ∧ y = j
    · obtain ⟨rfl, rfl⟩ := q
      exact ⟨u, by simp, putD_get, hu⟩
    · rcases z with z | z
      · obtain ⟨v, z1, z2, z3⟩ := hP x y z
        refine ⟨v, by rw [if_neg q]; exact z1, ?_, z3⟩
        rw [putD_ne fun e => q (by simp at e; lia)]
        exact z2
      · exact absurd z q

end
/-! LT -/
section
set_option maxRecDepth 4000
set_option linter.unusedVariables false

variable {h : MH} {Q : MV → MH → Prop} {kf : Nat} {W H : Int} {cs : Cs}

noncomputable def checkBody : List MS := [.assign 14 (.bin .mul (.bin .mul (.int 16) (.item (.loc 10) (.tup [.bin .fdiv (.loc 13) (.loc 3), .bin .fdiv (.loc 5) (.loc 3)]))) (.loc 4)),
    .assign 15 (.item (.bi .sorted [.list [.int 0, .bin .add (.neg (.bin .fdiv (.bin .sub (.bin .mul (.int 9) (.loc 8)) (.loc 14)) (.bin .mul (.int 16) (.loc 8)))) (.int 128), .int 255]]) (.int 1)),
    .assign 16 (.item (.bi .sorted [.list [.int 0, .bin .add (.bin .fdiv (.bin .add (.loc 14) (.bin .mul (.int 9) (.loc 8))) (.bin .mul (.int 16) (.loc 8))) (.int 128), .int 255]]) (.int 1)),
    .ite (.not (.cmp2 .le .le (.loc 15) (.item (.item (.attr (.loc 7) 10) (.loc 5)) (.loc 13)) (.loc 16))) [.ret (.bool false)] []]

theorem fdiv_nat (x s : Nat) : (x : Int).fdiv s = ((x / s : Nat) : Int) := by
  rw [Int.fdiv_eq_ediv_of_nonneg _ (Int.natCast_nonneg s)]; exact (Int.natCast_ediv x s).symm

theorem check_step {kp kr kd N s PW PH i j : Nat} {rows : List Nat} {es : List ((Int × Int) × MV)} {F : Nat → Nat → Int} {dv : Int} {a0 a1 a2 a6 a9 a11 a12 a14 a15 a16 : Option MV} {R : Option MV → Loc → MH → Prop}
    (P : PlaneAt h kp kr rows PW PH (cellV F s N dv)) (ed : h[kd]? = some (.dict es)) (hN : N ∈ sides) (h2 : 2 ≤ N) (hs : 1 ≤ s ∧ s ≤ 8) (hi : i < PW) (hj : j < PH) (bPW : PW ≤ 1000) (bPH : PH ≤ 1000)
    (hf : es.lookup (((i / s : Nat) : Int), ((j / s : Nat) : Int)) = some (.int (F (i / s) (j / s)))) (hfb : (F (i / s) (j / s)).natAbs ≤ 200) (hdv : dv.natAbs ≤ 1000)
    (k : ∀ b14 b15 b16 h', Ext [] h h' → R Option.none [a0, a1, a2, some (.int s), some (.int dv), some (.int j), a6, some (.ref kp), some (.int N), a9, some (.ref kd), a11, a12, some (.int i), b14, b15, b16] h') :
    WSs [a0, a1, a2, some (.int s), some (.int dv), some (.int j), a6, some (.ref kp), some (.int N), a9, some (.ref kd), a11, a12, some (.int i), a14, a15, a16] h checkBody R := by
  unfold checkBody
  have hpN := side_pos hN
  (repeat (first | (apply w_of; (· exact q_int)) | (apply w_of; (· exact q_loc (by rfl))) | (apply ws_of; (· exact qs_cons (by (apply q_fdiv; (· exact q_loc (by rfl)); (· exact q_loc (by rfl)); (· with_reducible exact nzc (by exact And.left (by assumption))); (· with_reducible exact Nat.lt_of_le_of_lt (by exact nab_c (by exact And.right (by assumption))) (by decide)))) (by exact qs_cons (by (apply q_fdiv; (· exact q_loc (by rfl)); (· exact q_loc (by rfl)); (· with_reducible exact nzc (by exact And.left (by assumption))); (· with_reducible exact Nat.lt_of_le_of_lt (by exact nab_c (by exact And.right (by assumption))) (by decide)))) (by exact qs_nil)))) | refine w_bin ?_ | refine s_assign ?_ | refine w_tup ?_ | refine w_item ?_))
  refine ⟨by (simp [lim]; done), ?_⟩
  rw [fdiv_nat, fdiv_nat]
  first | refine pItem (.dict ed hf) ?_ | refine pSetI (.dict ed hf) ?_ | refine pCmp (.dict ed hf) ?_
  refine o_mul (.inl (by unfold big; decide)) ?_
  refine w_loc (by rfl) (o_mul (.inr (by unfold big; (with_reducible exact Nat.lt_of_le_of_lt (by assumption) (by decide)))) ?_)
  have hw : (16 * F (i / s) (j / s) * dv) = 16 * (F (i / s) (j / s) * dv) := Int.mul_assoc ..
  rw [hw]
  have hlow := law_low (v := F (i / s) (j / s) * dv) hN h2
  have hhigh := law_high (v := F (i / s) (j / s) * dv) hN h2
  have hfdv : (F (i / s) (j / s) * dv).natAbs ≤ 200000 := by
    rw [Int.natAbs_mul]
    exact Nat.le_trans (Nat.mul_le_mul hfb hdv) (by decide)
  have hcell : cellV F s N dv i j = clampI ((F (i / s) (j / s) * dv + N / 2).fdiv N + 128) 255 := rfl
  generalize F (i / s) (j / s) * dv = v at *
  repeat (first | (apply ws_of; (· exact qs_cons (by exact q_int) (by exact qs_cons (by (apply q_add; (· (apply q_neg; (· (apply q_fdiv; (· (apply q_sub; (· (apply q_mul; (· exact q_int); (· exact q_loc (by rfl)); (· (unfold big; with_reducible exact Or.inl (Nat.lt_of_le_of_lt (by exact Nat.le_refl _) (by decide)))))); (· exact q_loc (by rfl)))); (· (apply q_mul; (· exact q_int); (· exact q_loc (by rfl)); (· (unfold big; with_reducible exact Or.inl (Nat.lt_of_le_of_lt (by exact Nat.le_refl _) (by decide)))))); (· lia); (· with_reducible exact Nat.lt_of_le_of_lt (by exact nab_mul (by exact Nat.le_refl _) (by exact nab_c (by exact And.left (And.right (by assumption))))) (by decide)))))); (· exact q_int))) (by exact qs_cons (by exact q_int) (by exact qs_nil))))) | refine w_cons ?_ | refine s_assign ?_ | refine w_list ?_ | refine w_item ?_ | refine w_bi ?_ | refine o_mul (.inr (by unfold big; (with_reducible exact Nat.lt_of_le_of_lt (by assumption) (by decide)))) ?_ | refine o_mul (.inl (by unfold big; (with_reducible exact Nat.lt_of_le_of_lt (by assumption) (by decide)))) ?_)
  refine ⟨by (simp [lim]; done), ?_⟩
  have hq := sort3_ok (-(9 * (N : Int) - 16 * v).fdiv (16 * N) + 128); have s1 := hq.1; have s2 := hq.2.1; have s3 := hq.2.2
  refine w_nil ⟨_, _, .sorted (is := [0, -(9 * (N : Int) - 16 * v).fdiv (16 * N) + 128, 255]) (get_last _ _) (by simp) s1 s2, ?_⟩
  have hl3 : ∀ m, (sort3 m).length = 3 := fun m => by unfold sort3; split; rfl; split <;> rfl
  have x1 : Ext [] h (h ++ [MO.list ([0, -(9 * (N : Int) - 16 * v).fdiv (16 * N) + 128, 255].map MV.int)] ++ [MO.list ((sort3 (-(9 * (N : Int) - 16 * v).fdiv (16 * N) + 128)).map MV.int)]) := ((Ext.refl h).push _).push _
  (repeat (apply w_of; (· exact q_int)))
  refine i_list (get_last _ _) (by decide) (by show ((sort3 _).map MV.int)[1]? = _; rw [List.getElem?_map, s3]; rfl) (by rw [List.length_map, hl3]; decide) ?_
  have x1' : Ext [] h (h ++ [MO.list [MV.int 0, MV.int (-(9 * (N : Int) - 16 * v).fdiv (16 * N) + 128), MV.int 255]] ++ [MO.list ((sort3 (-(9 * (N : Int) - 16 * v).fdiv (16 * N) + 128)).map MV.int)]) := x1
  generalize h ++ [MO.list [MV.int 0, MV.int (-(9 * (N : Int) - 16 * v).fdiv (16 * N) + 128), MV.int 255]] ++ [MO.list ((sort3 (-(9 * (N : Int) - 16 * v).fdiv (16 * N) + 128)).map MV.int)] = h1 at x1'
  clear x1
  repeat (first | (apply ws_of; (· exact qs_cons (by exact q_int) (by exact qs_cons (by (apply q_add; (· (apply q_fdiv; (· (apply q_add; (· exact q_loc (by rfl)); (· (apply q_mul; (· exact q_int); (· exact q_loc (by rfl)); (· (unfold big; with_reducible exact Or.inl (Nat.lt_of_le_of_lt (by exact Nat.le_refl _) (by decide)))))))); (· (apply q_mul; (· exact q_int); (· exact q_loc (by rfl)); (· (unfold big; with_reducible exact Or.inl (Nat.lt_of_le_of_lt (by exact Nat.le_refl _) (by decide)))))); (· lia); (· with_reducible exact Nat.lt_of_le_of_lt (by exact nab_mul (by exact Nat.le_refl _) (by exact nab_c (by exact And.left (And.right (by assumption))))) (by decide)))); (· exact q_int))) (by exact qs_cons (by exact q_int) (by exact qs_nil))))) | refine w_cons ?_ | refine s_assign ?_ | refine w_list ?_ | refine w_item ?_ | refine w_bi ?_ | refine o_mul (.inr (by unfold big; (with_reducible exact Nat.lt_of_le_of_lt (by assumption) (by decide)))) ?_ | refine o_mul (.inl (by unfold big; (with_reducible exact Nat.lt_of_le_of_lt (by assumption) (by decide)))) ?_)
  refine ⟨by (simp [lim]; done), ?_⟩
  have hq := sort3_ok ((16 * v + 9 * (N : Int)).fdiv (16 * N) + 128); have t1 := hq.1; have t2 := hq.2.1; have t3 := hq.2.2
  refine w_nil ⟨_, _, .sorted (is := [0, (16 * v + 9 * (N : Int)).fdiv (16 * N) + 128, 255]) (get_last _ _) (by simp) t1 t2, ?_⟩
  (repeat (apply w_of; (· exact q_int)))
  refine i_list (get_last _ _) (by decide) (by show ((sort3 _).map MV.int)[1]? = _; rw [List.getElem?_map, t3]; rfl) (by rw [List.length_map, hl3]; decide) ?_
  have x2 : Ext [] h (h1 ++ [MO.list [MV.int 0, MV.int ((16 * v + 9 * (N : Int)).fdiv (16 * N) + 128), MV.int 255]] ++ [MO.list ((sort3 ((16 * v + 9 * (N : Int)).fdiv (16 * N) + 128)).map MV.int)]) := (x1'.push _).push _
  generalize h1 ++ [MO.list [MV.int 0, MV.int ((16 * v + 9 * (N : Int)).fdiv (16 * N) + 128), MV.int 255]] ++ [MO.list ((sort3 ((16 * v + 9 * (N : Int)).fdiv (16 * N) + 128)).map MV.int)] = h2' at x2
  have P2 := P.ext x2
  have hlt : j < rows.length := by rw [P.len]; exact hj
  have hr : rows[j]? = some rows[j] := List.getElem?_eq_getElem hlt
  generalize rows[j] = r at hr
  (repeat (first | (apply w_of; (· exact q_loc (by rfl))) | refine s_ite ?_ | refine b_not ?_ | refine b_cmp2 ?_ | refine w_item ?_ | refine w_attr ?_))
  first | refine pAttr P2.pl rfl rfl ?_ | refine pMeth P2.pl rfl rfl ?_
  (repeat (apply w_of; (· exact q_loc (by rfl))))
  refine i_list P2.rl (by (exact Int.natCast_nonneg _)) (by rw [Int.toNat_natCast, List.getElem?_map, hr]; rfl) (by rw [List.length_map, P2.len]; unfold lim; (with_reducible exact Nat.le_trans (by assumption) (by decide))) ?_
  (repeat (apply w_of; (· exact q_loc (by rfl))))
  refine i_list (P2.row j r hr) (by (exact Int.natCast_nonneg _)) (by rw [Int.toNat_natCast]; exact get_map hi) (by simp [lim]; (with_reducible exact Nat.le_trans (by assumption) (by decide))) ?_
  rw [hcell]
  (repeat (refine p_int (by rfl) ?_))
  refine ⟨fun u1 => ?_, fun q => ?_⟩
  · (repeat (first | (apply w_of; (· exact q_loc (by rfl))) | refine p_int (by rfl) ?_))
    refine ⟨fun q => ?_, fun u1 => ?_⟩
    · exfalso; simp at q; lia
    · (repeat (refine s_nil ?_))
      exact k _ _ _ _ x2
  · exfalso; simp at q; lia

end
/-! LU -/
section
set_option maxRecDepth 4000
set_option linter.unusedVariables false
set_option maxHeartbeats 4000000

variable {h : MH} {Q : MV → MH → Prop} {kf : Nat} {W H : Int} {cs : Cs}

theorem c_right {ks p0 N s : Nat} {c : Int × Int} (S : SrcAt h ks) (FA : FrameAt h kf W H N cs) (hp : cs[p0]? = some c) (hN : N ∈ sides) (h2 : 2 ≤ N) (hs : s ∈ sides) (hsN : s ≤ N)
    (k : ∀ h', Q (.bool true) h') : WCall f_law_plane_right [.ref ks, .ref kf, .int p0, .int s] h Q := by
  refine callW (by rfl) (by rfl) ?_
  unfold b_law_plane_right
  have hps := side_pos hs
  have hpN := side_pos hN
  have hm := mx_pos FA
  have hmA : 1 ≤ mxA cs := hm.1
  have hmD : 1 ≤ mxD cs := hm.2.2.1
  have hW := FA.w
  have hH := FA.hh
  have hcp := FA.pos c (List.mem_of_getElem? hp)
  obtain ⟨m1, m2⟩ := mxL_ok (xs := cs.map (·.1)) (by simp [FA.ne]) fun a ha => by obtain ⟨c, hc, rfl⟩ := List.mem_map.mp ha; have := FA.pos c hc; (with_reducible exact pos_i (by exact And.left (by assumption)))
  obtain ⟨m3, m4⟩ := mxL_ok (xs := cs.map (·.2)) (by simp [FA.ne]) fun a ha => by obtain ⟨c, hc, rfl⟩ := List.mem_map.mp ha; have := FA.pos c hc; (with_reducible exact pos_i (by exact And.left (And.right (And.right (by assumption)))))
  have ca : c.1 ≤ mxA cs := m2 _ (List.mem_map.mpr ⟨c, List.mem_of_getElem? hp, rfl⟩)
  have cd : c.2 ≤ mxD cs := m4 _ (List.mem_map.mpr ⟨c, List.mem_of_getElem? hp, rfl⟩)
  have wr : 1 ≤ pt (W * c.1) (mxA cs) ∧ pt (W * c.1) (mxA cs) ≤ 20 := wide_rng hW hcp.1 ca hm.2.1
  have hr : 1 ≤ pt (H * c.2) (mxD cs) ∧ pt (H * c.2) (mxD cs) ≤ 20 := wide_rng hH hcp.2.2.1 cd hm.2.2.2
  obtain ⟨gA, gA1⟩ := pad_ge hN h2 hW.1 hcp.1 ca hm.2.1
  obtain ⟨gD, gD1⟩ := pad_ge hN h2 hH.1 hcp.2.2.1 cd hm.2.2.2
  have gA : pt (pt (W * c.1) (mxA cs)) N ≤ pt W (N * mxA cs) * c.1 := gA
  have gD : pt (pt (H * c.2) (mxD cs)) N ≤ pt H (N * mxD cs) * c.2 := gD
  have gA1 : 1 ≤ pt W (N * mxA cs) * c.1 := gA1
  have gD1 : 1 ≤ pt H (N * mxD cs) * c.2 := gD1
  generalize hwide : pt (W * c.1) (mxA cs) = wide at *
  generalize hhigh : pt (H * c.2) (mxD cs) = high at *
  obtain ⟨A, hA⟩ : ∃ A : Nat, pt W (N * mxA cs) * c.1 = (A : Int) := ⟨(pt W (N * mxA cs) * c.1).toNat, by lia⟩
  obtain ⟨D, hD⟩ : ∃ D : Nat, pt H (N * mxD cs) * c.2 = (D : Int) := ⟨(pt H (N * mxD cs) * c.2).toNat, by lia⟩
  have hX0 := (pt_le (a := wide) (b := (N : Int)) (by (with_reducible exact nn_i (by exact And.left (by assumption)))) (by lia)).1
  have hY0 := (pt_le (a := high) (b := (N : Int)) (by (with_reducible exact nn_i (by exact And.left (by assumption)))) (by lia)).1
  obtain ⟨X, hX⟩ : ∃ X : Nat, pt wide N = (X : Int) := ⟨(pt wide N).toNat, by lia⟩
  obtain ⟨Y, hY⟩ : ∃ Y : Nat, pt high N = (Y : Int) := ⟨(pt high N).toNat, by lia⟩
  have ws0 : 0 ≤ wide * s := Int.mul_nonneg (by (with_reducible exact nn_i (by exact And.left (by assumption)))) (by (exact Int.natCast_nonneg _))
  have hs0 : 0 ≤ high * s := Int.mul_nonneg (by (with_reducible exact nn_i (by exact And.left (by assumption)))) (by (exact Int.natCast_nonneg _))
  have hP0 := (pt_le (a := wide * s) (b := (N : Int)) ws0 (by lia)).1
  have hQ0 := (pt_le (a := high * s) (b := (N : Int)) hs0 (by lia)).1
  obtain ⟨PW, hPW⟩ : ∃ PW : Nat, pt (wide * s) N = (PW : Int) := ⟨(pt (wide * s) N).toNat, by lia⟩
  obtain ⟨PH, hPH⟩ : ∃ PH : Nat, pt (high * s) N = (PH : Int) := ⟨(pt (high * s) N).toNat, by lia⟩
  obtain ⟨pw1, pw2, pw3, pw4⟩ := plane_rng hN h2 hs hsN wr hX hPW
  obtain ⟨ph1, ph2, ph3, ph4⟩ := plane_rng hN h2 hs hsN hr hY hPH
  have hXA : X ≤ A := by lia
  have hYD : Y ≤ D := by lia
  obtain ⟨sa, sb, se, _⟩ := S.ex
  have hks := lt_of se
  -- the grid, the dict
  (repeat (first | (apply w_of; (· exact q_loc (by rfl))) | refine w_cons ?_ | refine s_assignT ?_ | refine w_attr ?_))
  refine a_frame FA (fun _ => by rfl) (by rfl) ?_
  refine w_cons (w_new (by rfl) ?_)
  (repeat (apply ws_of; (· exact qs_cons (by exact q_loc (by rfl)) (by exact qs_nil))))
  have eg := get_last h (MO.inst 7 [])
  have hb : (h ++ [MO.inst 7 []]).length = h.length + 1 := by simp
  refine c_grid_init (N := N) h2 (FA.ext ((Ext.refl h).push _)) hp eg hA hD (by lia) fun h1 x1 G1 => ⟨rfl, ?_⟩
  rw [hb] at G1
  have x01 : Ext [] h h1 := fun kk o e u1 => x1 kk o (((Ext.refl (S := []) h).push (MO.inst 7 [])).get e) (by simp; have := lt_of e; lia)
  (repeat (first | (apply ws_of; (· exact qs_nil)) | refine w_cons ?_ | refine w_dict0 ?_))
  refine ⟨rfl, ?_⟩
  have x02 : Ext [] h (h1 ++ [MO.dict []]) := x01.push _
  have G2 := G1.ext ((Ext.refl h1).push (MO.dict []))
  have ed2 := get_last h1 (MO.dict [])
  have hkd := x01.len
  generalize hkde : h1.length = kd at *
  generalize h1 ++ [MO.dict []] = h2' at x02 G2 ed2
  have F2 := FA.ext x02
  repeat (first | (apply w_of; (· exact q_int)) | (apply ws_of; (· exact qs_cons (by exact q_loc (by rfl)) (by exact qs_cons (by (apply q_mul; (· exact q_int); (· exact q_loc (by rfl)); (· (unfold big; with_reducible exact Or.inl (Nat.lt_of_le_of_lt (by exact Nat.le_refl _) (by decide)))))) (by exact qs_nil)))) | refine w_bin ?_ | refine w_call ?_ | refine s_assign ?_ | refine o_mul (.inr (by unfold big; lia)) ?_)
  refine c_take (S.ext x02) (by lia) (by lia) fun d h3 d0 d1 S3 x3 hl3 => ?_
  (repeat (first | (apply w_of; (· exact q_loc (by rfl))) | refine o_add ?_ | refine s_unpack ?_ | refine w_meth ?_))
  have kdne : kd ∉ [ks] := by simp; exact ne_of ed2 (x02.get se) (by simp)
  obtain ⟨svs, sve, svn⟩ := (S.ext x02).list
  have F3 := F2.ext1 x3 sve svn
  refine m_frame F3 (fun _ => by rfl) (by rfl) ?_
  (repeat (apply ws_of; (· exact qs_cons (by exact q_loc (by rfl)) (by exact qs_nil))))
  refine c_plane_size F3 hp fun h4 x4 => ?_
  refine pUnp rfl (fun u1 u2 u3 => by simp) rfl ?_
  rw [hwide, hhigh]
  have fill0 : Fill h h4 (h.length + 1) ks h.length kd N p0 A D (fun u1 u2 => False) 0 := ⟨S3.ext x4, (x02.rl0.trans x3.rl).trans x4.rl0, _, [], (G2.src x3 (S.ext x02) (by lia)).ext x4, x4.get (x3.get ed2 kdne), Nat.le_refl _, fun u1 u2 z => z.elim⟩
  refine s_for0 (I := fun j l h' => (∃ u : Nat → Option MV, l = [some (.ref ks), some (.ref kf), some (.int p0), some (.int s), some (.int (1 + d)), u 5, u 6, u 7, some (.int N), some (.ref h.length), some (.ref kd), some (.int wide), some (.int high), u 13, u 14, u 15, u 16]) ∧
    Fill h h' (h.length + 1) ks h.length kd N p0 A D (fun x y => y < j ∧ x < X) (j * X)) fun I' into out Q' kQ => ?_
  (repeat (first | (apply ws_of; (· exact qs_cons (by exact q_loc (by rfl)) (by exact qs_cons (by exact q_loc (by rfl)) (by exact qs_nil)))) | refine w_call ?_ | refine w_cons ?_ | refine w_bi ?_))
  refine c_over (by (with_reducible exact nzc (by exact And.left (by assumption)))) (by (with_reducible exact Nat.lt_of_le_of_lt (by exact nab_c (by exact And.left (And.right (by assumption)))) (by decide))) ?_
  rw [over_pt hN h2, hY]
  (repeat (apply ws_of; (· exact qs_nil)))
  refine pBi .range1 (kQ _ _ (ritems 0 Y 1) (fun u1 u2 u3 u4 => items_rng (by lia)) (into _ _ _ ⟨(fr rfl), fill0.congr (fun x y z => by lia) (by (exact Nat.zero_le _))⟩) ?_ ?_)
  · intro j w l h5 hI hw R' kR
    have kR := fun l h q => kR l h (into _ l h q)
    obtain ⟨⟨u, rfl⟩, fill⟩ := out _ _ _ hI
    obtain ⟨hj, rfl⟩ := ritems_get hw
    have jX : j * X ≤ 10 * 10 := Nat.mul_le_mul (by (with_reducible exact Nat.le_trans (by exact Nat.le_of_lt (by assumption)) (by assumption))) (by (with_reducible assumption))
    refine s_for0 (I := fun i l h' => (∃ u : Nat → Option MV, l = [some (.ref ks), some (.ref kf), some (.int p0), some (.int s), some (.int (1 + d)), some (.int j), u 6, u 7, some (.int N), some (.ref h.length), some (.ref kd), some (.int wide), some (.int high), u 13, u 14, u 15, u 16]) ∧
      Fill h h' (h.length + 1) ks h.length kd N p0 A D (fun x y => (y < j ∧ x < X) ∨ (y = j ∧ x < i)) (j * X + i)) fun I' into out Q' kQ => ?_
    (repeat (first | (apply ws_of; (· exact qs_cons (by exact q_loc (by rfl)) (by exact qs_cons (by exact q_loc (by rfl)) (by exact qs_nil)))) | refine w_call ?_ | refine w_cons ?_ | refine w_bi ?_))
    refine c_over (by (with_reducible exact nzc (by exact And.left (by assumption)))) (by (with_reducible exact Nat.lt_of_le_of_lt (by exact nab_c (by exact And.left (And.right (by assumption)))) (by decide))) ?_
    rw [over_pt hN h2, hX]
    (repeat (apply ws_of; (· exact qs_nil)))
    refine pBi .range1 (kQ _ _ (ritems 0 X 1) (fun u1 u2 u3 u4 => items_rng (by lia)) (into _ _ _ ⟨(fr rfl), fill.congr (fun x y z => by lia) (by lia)⟩) ?_ ?_)
    · intro i w l h6 hI hw R' kR
      have kR := fun l h q => kR l h (into _ l h q)
      obtain ⟨⟨u, rfl⟩, fill⟩ := out _ _ _ hI
      obtain ⟨hi, rfl⟩ := ritems_get hw
      refine fill_step fill (by lia) (by (with_reducible assumption)) (show i < A by (with_reducible exact Nat.lt_of_lt_of_le (by assumption) (by assumption))) (show j < D by (with_reducible exact Nat.lt_of_lt_of_le (by assumption) (by assumption))) (by lia) ⟨h2, by (with_reducible exact And.left (And.right (by assumption)))⟩ (by rfl) (by rfl) (by rfl) (by rfl) (by rfl) (by rfl) (by rfl) fun h7 fill' => kR _ _ ⟨(fr rfl), fill'.congr (fun x y z => by lia) (by lia)⟩
    · intro l h6 hI
      obtain ⟨⟨u, rfl⟩, fill⟩ := out _ _ _ hI
      rw [ritems_len] at fill
      (repeat (refine s_nil ?_))
      exact kR _ _ ⟨(fr rfl), fill.congr (fun x y z => by lia) (by rw [Nat.add_mul]; lia)⟩
  · intro l h5 hI
    obtain ⟨⟨u, rfl⟩, fill⟩ := out _ _ _ hI
    rw [ritems_len] at fill
    obtain ⟨cell, es, G5, ed5, _, hP5⟩ := fill.ex
    have F5 := FA.rl fill.rl S (by lia)
    have n4 : 2 * 2 ≤ N * N := Nat.mul_le_mul h2 h2
    have n64 : N * N ≤ 8 * 8 := Nat.mul_le_mul (by (with_reducible exact And.left (And.right (by assumption)))) (by (with_reducible exact And.left (And.right (by assumption))))
    have hnn : ((N * N : Nat) : Int) = (N : Int) * N := by push_cast; rfl
    (repeat (first | (apply ws_of; (· exact qs_cons (by exact q_loc (by rfl)) (by exact qs_nil))) | refine w_bin ?_ | refine s_assign ?_ | refine w_tup ?_))
    refine ⟨by (simp [lim]; done), ?_⟩
    (repeat (first | (apply ws_of; (· exact qs_cons (by exact q_int) (by exact qs_nil))) | refine w_bin ?_ | refine w_tup ?_))
    refine ⟨by decide, ?_⟩
    repeat (first | (apply w_of; (· (apply q_sub; (· (apply q_mul; (· exact q_loc (by rfl)); (· exact q_loc (by rfl)); (· (unfold big; with_reducible exact Or.inl (Nat.lt_of_le_of_lt (by exact nab_c (by exact And.left (And.right (by assumption)))) (by decide)))))); (· exact q_int)))) | refine o_mul (.inr (by unfold big; (with_reducible exact Nat.lt_of_le_of_lt (by exact nab_c (by assumption)) (by decide)))) ?_)
    have hz : ((N : Int) * N - 1).toNat = N * N - 1 := by rw [← hnn]; lia
    refine o_mulT (by rw [← hnn]; lia) (by unfold lim; rw [← hnn]; lia) ?_
    rw [hz]
    refine o_addT (by simp) (by simp; lia) (by simp [lim]; lia) ?_
    have htab : [MV.int (1 + d)] ++ List.replicate (N * N - 1) (MV.int 1) = tabL (1 + d) (N * N) := rfl
    rw [htab]
    (repeat (first | (apply ws_of; (· exact qs_cons (by exact q_loc (by rfl)) (by exact qs_cons (by exact q_loc (by rfl)) (by exact qs_cons (by exact q_loc (by rfl)) (by exact qs_cons (by exact q_loc (by rfl)) (by exact qs_cons (by exact q_loc (by rfl)) (by exact qs_nil))))))) | refine w_call ?_ | refine s_assign ?_))
    have hc : ∀ x y, x < X → y < Y → cell x y = some ((fun x y => (cell x y).getD 0) x y) ∧ ((fun x y => (cell x y).getD 0) x y : Int).natAbs ≤ 200 := fun x y hx hy => by
      obtain ⟨v, z1, z2, z3⟩ := hP5 x y ⟨hy, hx⟩
      simp only [z1, Option.getD_some]
      exact ⟨trivial, z3⟩
    refine c_scaled_plane F5 hp G5 hN hs hsN h2 (by rw [hwide]; exact hX) (by rw [hhigh]; exact hY) hXA hYD (by rw [hwide]; exact hPW) (by rw [hhigh]; exact hPH) pw1 pw2 ph1 ph2 hc (by lia) (by lia) (by lia) fun h6 kp kr rows x6 P6 => ?_
    have ed6 := x6.get ed5
    (repeat (first | (apply w_of; (· exact q_loc (by rfl))) | refine w_cons ?_ | refine s_ite ?_ | refine b_cmp ?_ | refine w_tup ?_ | refine w_attr ?_))
    first | refine pAttr P6.pl rfl rfl ?_ | refine pMeth P6.pl rfl rfl ?_
    (repeat (first | (apply w_of; (· exact q_loc (by rfl))) | refine w_cons ?_ | refine w_attr ?_))
    first | refine pAttr P6.pl rfl rfl ?_ | refine pMeth P6.pl rfl rfl ?_
    (repeat (apply ws_of; (· exact qs_nil)))
    refine ⟨by (simp [lim]; done), ?_⟩
    repeat (first | (apply ws_of; (· exact qs_cons (by (apply q_mul; (· exact q_loc (by rfl)); (· exact q_loc (by rfl)); (· (unfold big; lia)))) (by exact qs_cons (by exact q_loc (by rfl)) (by exact qs_nil)))) | refine w_call ?_ | refine w_cons ?_ | refine w_tup ?_ | refine o_mul (.inr (by unfold big; (with_reducible exact Nat.lt_of_le_of_lt (by exact nab_c (by assumption)) (by decide)))) ?_)
    refine c_over (by (with_reducible exact nzc (by exact And.left (by assumption)))) (by (with_reducible exact Nat.lt_of_le_of_lt (by exact nab_c (by exact And.left (And.right (by assumption)))) (by decide))) ?_
    rw [over_pt hN h2, hPW]
    repeat (first | (apply ws_of; (· exact qs_cons (by (apply q_mul; (· exact q_loc (by rfl)); (· exact q_loc (by rfl)); (· (unfold big; lia)))) (by exact qs_cons (by exact q_loc (by rfl)) (by exact qs_nil)))) | refine w_call ?_ | refine w_cons ?_ | refine o_mul (.inr (by unfold big; (with_reducible exact Nat.lt_of_le_of_lt (by exact nab_c (by assumption)) (by decide)))) ?_)
    refine c_over (by (with_reducible exact nzc (by exact And.left (by assumption)))) (by (with_reducible exact Nat.lt_of_le_of_lt (by exact nab_c (by exact And.left (And.right (by assumption)))) (by decide))) ?_
    rw [over_pt hN h2, hPH]
    (repeat (apply ws_of; (· exact qs_nil)))
    refine ⟨by (simp [lim]; done), ?_⟩
    refine pCmp (.neT (xs := [(PW : Int), (PH : Int)]) (ys := [(PW : Int), (PH : Int)]) rfl) ⟨fun q => by simp at q, fun u1 => ?_⟩
    skip
    refine s_for0 (I := fun j l h' => (∃ u : Nat → Option MV, l = [u 0, u 1, u 2, some (.int s), some (.int (1 + d)), u 5, u 6, some (.ref kp), some (.int N), u 9, some (.ref kd), u 11, u 12, u 13, u 14, u 15, u 16]) ∧ Ext [] h6 h') fun I' into out Q' kQ => ?_
    (repeat (first | (apply w_of; (· exact q_loc (by rfl))) | refine w_cons ?_ | refine w_attr ?_ | refine w_bi ?_))
    first | refine pAttr P6.pl rfl rfl ?_ | refine pMeth P6.pl rfl rfl ?_
    (repeat (apply ws_of; (· exact qs_nil)))
    refine pBi .range1 (kQ _ _ (ritems 0 PH 1) (fun u1 u2 u3 u4 => items_rng (by (with_reducible exact Nat.le_trans (by assumption) (by decide)))) (into _ _ _ ⟨(fr rfl), Ext.refl h6⟩) ?_ ?_)
    · intro j w l h7 hI hw R' kR
      have kR := fun l h q => kR l h (into _ l h q)
      obtain ⟨⟨u, rfl⟩, x7⟩ := out _ _ _ hI
      obtain ⟨hj, rfl⟩ := ritems_get hw
      refine s_for0 (I := fun i l h' => (∃ u : Nat → Option MV, l = [u 0, u 1, u 2, some (.int s), some (.int (1 + d)), some (.int j), u 6, some (.ref kp), some (.int N), u 9, some (.ref kd), u 11, u 12, u 13, u 14, u 15, u 16]) ∧ Ext [] h6 h') fun I' into out Q' kQ => ?_
      (repeat (first | (apply w_of; (· exact q_loc (by rfl))) | refine w_cons ?_ | refine w_attr ?_ | refine w_bi ?_))
      first | refine pAttr ((P6.ext x7).pl) rfl rfl ?_ | refine pMeth ((P6.ext x7).pl) rfl rfl ?_
      (repeat (apply ws_of; (· exact qs_nil)))
      refine pBi .range1 (kQ _ _ (ritems 0 PW 1) (fun u1 u2 u3 u4 => items_rng (by (with_reducible exact Nat.le_trans (by assumption) (by decide)))) (into _ _ _ ⟨(fr rfl), x7⟩) ?_ ?_)
      · intro i w l h8 hI hw R' kR
        have kR := fun l h q => kR l h (into _ l h q)
        obtain ⟨⟨u, rfl⟩, x8⟩ := out _ _ _ hI
        obtain ⟨hi, rfl⟩ := ritems_get hw
        have hi2 : i / s < X := Nat.div_lt_of_lt_mul (by rw [Nat.mul_comm]; (with_reducible exact Nat.lt_of_lt_of_le (by assumption) (by assumption)))
        have hj2 : j / s < Y := Nat.div_lt_of_lt_mul (by rw [Nat.mul_comm]; (with_reducible exact Nat.lt_of_lt_of_le (by assumption) (by assumption)))
        obtain ⟨v, z1, z2, z3⟩ := hP5 _ _ ⟨hj2, hi2⟩
        refine check_step (P6.ext x8) (x8.get ed6) hN h2 ⟨by (with_reducible exact And.left (by assumption)), by (with_reducible exact And.left (And.right (by assumption)))⟩ hi hj (by (with_reducible exact Nat.le_trans (by assumption) (by decide))) (by (with_reducible exact Nat.le_trans (by assumption) (by decide))) (by simp only [z1, Option.getD_some]; exact z2) (by simp only [z1, Option.getD_some]; exact z3) (by lia) fun b14 b15 b16 h9 x9 => kR _ _ ⟨(fr rfl), x8.trans x9⟩
      · intro l h8 hI
        obtain ⟨⟨u, rfl⟩, x8⟩ := out _ _ _ hI
        (repeat (refine s_nil ?_))
        exact kR _ _ ⟨(fr rfl), x8⟩
    · intro l h7 hI
      obtain ⟨⟨u, rfl⟩, x7⟩ := out _ _ _ hI
      have P7 := P6.ext x7
      (repeat (first | refine s_ret ?_ | refine w_cmp ?_))
      refine w_map (f := fun u1 => .int PW) fun Q' kQ => ?_
      (repeat (first | (apply w_of; (· exact q_loc (by rfl))) | refine w_attr ?_))
      first | refine pAttr P7.pl rfl rfl ?_ | refine pMeth P7.pl rfl rfl ?_
      refine kQ _ _ (rows.map MV.ref) (by simp only [items, P7.rl]) (by rw [List.length_map, P7.len]; unfold lim; (with_reducible exact Nat.le_trans (by assumption) (by decide))) ?_ ?_
      · intro v hv P' kP
        obtain ⟨r, hr, rfl⟩ := List.mem_map.mp hv
        obtain ⟨yy, hyy⟩ := List.getElem?_of_mem hr
        (repeat (first | (apply ws_of; (· exact qs_cons (by exact q_loc (by rfl)) (by exact qs_nil))) | refine w_bi ?_))
        refine pBi (.lenL (P7.row yy r hyy) (by simp [lim]; (with_reducible exact Nat.le_trans (by assumption) (by decide)))) ?_
        rw [List.length_map, List.length_range]; exact kP
      · have x8 : Ext [] h7 (h7 ++ [MO.list ((rows.map MV.ref).map fun u1 => MV.int PW)]) := (Ext.refl h7).push _
        have el := get_last h7 (MO.list ((rows.map MV.ref).map fun u1 => MV.int PW))
        generalize h7 ++ [MO.list ((rows.map MV.ref).map fun u1 => MV.int PW)] = h8 at x8 el
        have P8 := P7.ext x8
        (repeat (first | (apply w_of; (· exact q_loc (by rfl))) | refine w_bin ?_ | refine w_cons ?_ | refine w_list ?_ | refine w_attr ?_))
        first | refine pAttr P8.pl rfl rfl ?_ | refine pMeth P8.pl rfl rfl ?_
        (repeat (apply ws_of; (· exact qs_nil)))
        refine ⟨by (simp [lim]; done), ?_⟩
        (repeat (first | (apply w_of; (· exact q_loc (by rfl))) | refine w_attr ?_))
        first | refine pAttr (get_push P8.pl) rfl rfl ?_ | refine pMeth (get_push P8.pl) rfl rfl ?_
        refine o_mulL (get_last _ _) (by (exact Int.natCast_nonneg _)) (by unfold lim; lia) ?_
        have e1 : ((rows.map MV.ref).map fun u1 => MV.int PW) = (List.replicate PH (PW : Int)).map MV.int := by
          rw [List.map_map, List.map_replicate, ← P7.len]
          exact List.map_const' ..
        have e2 : List.replicate (PH : Int).toNat (MV.int (PW : Int)) = (List.replicate PH (PW : Int)).map MV.int := by rw [List.map_replicate, Int.toNat_natCast]
        rw [e1] at el
        rw [e2]
        first | refine pItem (.eqL (get_push (get_push el)) (get_last _ _)) ?_ | refine pSetI (.eqL (get_push (get_push el)) (get_last _ _)) ?_ | refine pCmp (.eqL (get_push (get_push el)) (get_last _ _)) ?_
        simp
        exact k _

end
/-! LV -/
section
set_option maxRecDepth 4000
set_option linter.unusedVariables false
set_option maxHeartbeats 4000000

variable {h : MH} {Q : MV → MH → Prop} {kf : Nat} {W H : Int} {cs : Cs}

theorem side_up : ∀ T ∈ [2, 4, 8], ∀ s ∈ sides, ∀ N ∈ sides, T * s ≤ N → T * s ∈ sides := by decide
theorem side_in {N s : Nat} {mx my : Int} {c : Int × Int} (hN : N ∈ sides) (hs : s ∈ sides) (hsN : s ≤ N) : ∃ s' : Nat, sideL N mx my c s = (s' : Int) ∧ s' ∈ sides ∧ s' ≤ N := by
  have up : ∀ (f : Int) (T : Nat), T ∈ [2, 4, 8] → (∃ s' : Nat, f = (s' : Int) ∧ s' ∈ sides ∧ s' ≤ N) → ∃ s' : Nat, (if (T : Int) * s ≤ N ∧ (mx * s).fmod (c.1 * (T * s)) = 0 ∧ (my * s).fmod (c.2 * (T * s)) = 0 then (T : Int) * s else f) = (s' : Int) ∧ s' ∈ sides ∧ s' ≤ N := by
    intro f T hT hf
    split
    · rename_i q
      have q1 : T * s ≤ N := Int.ofNat_le.mp q.1
      exact ⟨T * s, Int.natCast_mul .., side_up T hT s hs N hN q1, q1⟩
    · exact hf
  exact up _ 8 (by decide) (up _ 4 (by decide) (up _ 2 (by decide) ⟨s, rfl, hs, hsN⟩))

noncomputable def pairs : List MV := [.tup [.int 4, .int 2], .tup [.int 4, .int 1], .tup [.int 2, .int 1], .tup [.int 8, .int 2], .tup [.int 8, .int 4], .tup [.int 8, .int 1], .tup [.int 2, .int 2], .tup [.int 4, .int 4]]
theorem pairs_ok : ∀ p ∈ ([(4, 2), (4, 1), (2, 1), (8, 2), (8, 4), (8, 1), (2, 2), (4, 4)] : List (Nat × Nat)), p.1 ∈ sides ∧ p.2 ∈ sides ∧ p.2 ≤ p.1 ∧ 2 ≤ p.1 := by decide
theorem pairs_at {v : MV} (hv : v ∈ pairs) : ∃ N s : Nat, v = .tup [.int N, .int s] ∧ N ∈ sides ∧ s ∈ sides ∧ s ≤ N ∧ 2 ≤ N := by
  obtain ⟨p, hp, rfl⟩ := List.mem_map.mp (show v ∈ ([(4, 2), (4, 1), (2, 1), (8, 2), (8, 4), (8, 1), (2, 2), (4, 4)] : List (Nat × Nat)).map fun p => MV.tup [.int p.1, .int p.2] from hv)
  exact ⟨p.1, p.2, rfl, pairs_ok p hp⟩

theorem law_w (ns : List Int) (hns : ns.length ≤ 63) : WSs (some (.fl ns) :: List.replicate 7 Option.none) [] b_law (fun o u1 u2 => o = some (.bool true)) := by
  unfold b_law
  refine s_for0 (I := fun i l h => ∃ u : Nat → Option MV, l = [some (.fl ns), u 1, u 2, u 3, u 4, u 5, u 6, u 7]) fun I' into out Q' kQ => ?_
  (repeat (first | (apply w_of; (· exact q_int)) | (apply ws_of; (· exact qs_cons (by exact q_loc (by rfl)) (by exact qs_nil))) | refine w_cons ?_ | refine w_bi ?_))
  refine pBi (.lenF (by unfold lim; (with_reducible exact Nat.le_trans (by assumption) (by decide)))) ?_
  (repeat (apply ws_of; (· exact qs_cons (by exact q_int) (by exact qs_nil))))
  refine pBi .min2 ?_
  (repeat (apply ws_of; (· exact qs_nil)))
  refine pBi .max2 ?_
  obtain ⟨m, hm, hm2⟩ : ∃ m : Nat, (if (if (2 : Int) < (ns.length : Int) then (2 : Int) else (ns.length : Int)) > 1 then (if (2 : Int) < (ns.length : Int) then (2 : Int) else (ns.length : Int)) else 1) = (m : Int) ∧ m ≤ 2 := by
    by_cases h2 : (2 : Int) < (ns.length : Int)
    · exact ⟨2, by simp [h2], by decide⟩
    · by_cases h1 : (ns.length : Int) > 1
      · exact ⟨ns.length, by simp [h2, h1], by lia⟩
      · exact ⟨1, by simp [h2, h1], by decide⟩
  rw [hm]
  (repeat (apply ws_of; (· exact qs_nil)))
  refine pBi .range1 (kQ _ _ (ritems 0 m 1) (fun u1 u2 u3 u4 => items_rng (by (with_reducible exact Nat.le_trans (by assumption) (by decide)))) (into _ _ _ (fr rfl)) ?_ ?_)
  · intro i w l h hI hw R' kR
    have kR := fun l h q => kR l h (into _ l h q)
    obtain ⟨u, rfl⟩ := out _ _ _ hI
    obtain ⟨hi, rfl⟩ := ritems_get hw
    (repeat (first | (apply ws_of; (· exact qs_cons (by exact q_loc (by rfl)) (by exact qs_cons (by exact q_loc (by rfl)) (by exact qs_nil)))) | refine w_call ?_ | refine s_assign ?_))
    refine c_pool hns (by lia) fun h1 ks n1 x1 S1 => ?_
    (repeat (first | (apply w_of; (· exact q_loc (by rfl))) | (apply ws_of; (· exact qs_cons (by exact q_int) (by exact qs_cons (by exact q_int) (by exact qs_nil)))) | refine w_call ?_ | refine w_cons ?_ | refine s_unpack ?_ | refine w_tup ?_ | refine w_list ?_))
    refine ⟨by decide, ?_⟩
    refine w_cons (w_tup ?_)
    (repeat (apply ws_of; (· exact qs_cons (by exact q_int) (by exact qs_cons (by exact q_int) (by exact qs_nil)))))
    refine ⟨by decide, ?_⟩
    refine w_cons (w_tup ?_)
    (repeat (apply ws_of; (· exact qs_cons (by exact q_int) (by exact qs_cons (by exact q_int) (by exact qs_nil)))))
    refine ⟨by decide, ?_⟩
    refine w_cons (w_tup ?_)
    (repeat (apply ws_of; (· exact qs_cons (by exact q_int) (by exact qs_cons (by exact q_int) (by exact qs_nil)))))
    refine ⟨by decide, ?_⟩
    refine w_cons (w_tup ?_)
    (repeat (apply ws_of; (· exact qs_cons (by exact q_int) (by exact qs_cons (by exact q_int) (by exact qs_nil)))))
    refine ⟨by decide, ?_⟩
    refine w_cons (w_tup ?_)
    (repeat (apply ws_of; (· exact qs_cons (by exact q_int) (by exact qs_cons (by exact q_int) (by exact qs_nil)))))
    refine ⟨by decide, ?_⟩
    refine w_cons (w_tup ?_)
    (repeat (apply ws_of; (· exact qs_cons (by exact q_int) (by exact qs_cons (by exact q_int) (by exact qs_nil)))))
    refine ⟨by decide, ?_⟩
    refine w_cons (w_tup ?_)
    (repeat (apply ws_of; (· exact qs_cons (by exact q_int) (by exact qs_cons (by exact q_int) (by exact qs_nil)))))
    refine ⟨by decide, ?_⟩
    refine w_nil ⟨by decide, ?_⟩
    obtain ⟨sa, sb, se, _⟩ := S1.ex
    have hks := lt_of se
    (repeat (apply ws_of; (· exact qs_nil)))
    refine c_one (vs := pairs) (S1.ext ((Ext.refl h1).push _)) (get_last _ _) (by lia) (by simp [pairs]) (by simp [pairs]) fun v h2 hv S2 x2 u1 => ?_
    obtain ⟨N, s, rfl, hN, hs, hsN, hN2⟩ := pairs_at hv
    have hpN := side_pos hN
    have hps := side_pos hs
    refine pUnp rfl (fun u1 u2 u3 => by simp) rfl ?_
    (repeat (first | (apply ws_of; (· exact qs_cons (by exact q_loc (by rfl)) (by exact qs_cons (by exact q_loc (by rfl)) (by exact qs_nil)))) | refine w_call ?_ | refine s_assign ?_))
    refine c_frame S2 ⟨by lia, by lia⟩ fun h3 kf W H cs F3 S3 x3 => ?_
    have hW := F3.w
    have hH := F3.hh
    have few := F3.few
    (repeat (first | (apply w_of; (· exact q_loc (by rfl))) | refine w_bin ?_ | refine w_call ?_ | refine w_cons ?_ | refine s_assign ?_ | refine w_tup ?_ | refine w_attr ?_))
    refine a_frame F3 (fun _ => by rfl) (by rfl) ?_
    repeat (first | (apply w_of; (· exact q_loc (by rfl))) | (apply ws_of; (· exact qs_cons (by exact q_loc (by rfl)) (by exact qs_nil))) | (refine o_mul ?_ ?_; (· (unfold big; lia))) | refine o_mul (.inr (by unfold big; (with_reducible exact Nat.lt_of_le_of_lt (by exact nab_c (by assumption)) (by decide)))) ?_)
    refine c_over (by (with_reducible exact nzc (by exact And.left (by assumption)))) (by (with_reducible exact Nat.lt_of_le_of_lt (by exact nab_c (by exact And.left (And.right (by assumption)))) (by decide))) ?_
    rw [over_pt hN hN2]
    (repeat (first | (apply w_of; (· exact q_loc (by rfl))) | refine w_bin ?_ | refine w_call ?_ | refine w_cons ?_ | refine w_attr ?_))
    refine a_frame F3 (fun _ => by rfl) (by rfl) ?_
    repeat (first | (apply w_of; (· exact q_loc (by rfl))) | (apply ws_of; (· exact qs_cons (by exact q_loc (by rfl)) (by exact qs_nil))) | (refine o_mul ?_ ?_; (· (unfold big; lia))) | refine o_mul (.inr (by unfold big; (with_reducible exact Nat.lt_of_le_of_lt (by exact nab_c (by assumption)) (by decide)))) ?_)
    refine c_over (by (with_reducible exact nzc (by exact And.left (by assumption)))) (by (with_reducible exact Nat.lt_of_le_of_lt (by exact nab_c (by exact And.left (And.right (by assumption)))) (by decide))) ?_
    rw [over_pt hN hN2]
    (repeat (apply ws_of; (· exact qs_nil)))
    refine ⟨by (simp [lim]; done), ?_⟩
    (repeat (first | (apply ws_of; (· exact qs_cons (by exact q_loc (by rfl)) (by exact qs_cons (by exact q_loc (by rfl)) (by exact qs_nil)))) | refine w_call ?_ | refine s_ite ?_ | refine b_cmp ?_))
    refine c_scaled_size F3 (by lia) ?_
    (repeat (apply w_of; (· exact q_loc (by rfl))))
    refine pCmp (.neT (xs := [pt (W * s) N, pt (H * s) N]) (ys := [pt (W * s) N, pt (H * s) N]) rfl) ⟨fun q => by simp at q, fun u1 => ?_⟩
    refine s_for0 (I := fun i l h' => (∃ u : Nat → Option MV, l = [some (.fl ns), u 1, some (.ref ks), some (.ref kf), u 4, u 5, some (.int N), some (.int s)]) ∧ Ext [] h3 h') fun I' into out Q' kQ => ?_
    obtain ⟨kc, kcs, f1, f2, f3, _⟩ := F3.ex
    (repeat (first | (apply w_of; (· exact q_loc (by rfl))) | refine w_cons ?_ | refine w_attr ?_ | refine w_bi ?_))
    first | refine pAttr f1 rfl rfl ?_ | refine pMeth f1 rfl rfl ?_
    (repeat (apply ws_of; (· exact qs_nil)))
    refine pBi (.lenL f2 (by simp [lim]; lia)) ?_
    (repeat (apply ws_of; (· exact qs_nil)))
    have hlen : (kcs.map MV.ref).length = cs.length := by rw [List.length_map, f3]
    rw [hlen]
    refine pBi .range1 (kQ _ _ (ritems 0 cs.length 1) (fun u1 u2 u3 u4 => items_rng (by (with_reducible exact Nat.le_trans (by assumption) (by decide)))) (into _ _ _ ⟨(fr rfl), Ext.refl h3⟩) ?_ ?_)
    · intro j w l h4 hI hw R' kR
      have kR := fun l h q => kR l h (into _ l h q)
      obtain ⟨⟨u, rfl⟩, x4⟩ := out _ _ _ hI
      obtain ⟨hj, rfl⟩ := ritems_get hw
      have hc : cs[j]? = some cs[j] := List.getElem?_eq_getElem hj
      have F4 := F3.ext x4
      (repeat (first | (apply ws_of; (· exact qs_cons (by exact q_loc (by rfl)) (by exact qs_cons (by exact q_loc (by rfl)) (by exact qs_cons (by exact q_loc (by rfl)) (by exact qs_nil))))) | refine w_call ?_ | refine s_ite ?_ | refine b_cmp ?_))
      refine c_side_of F4 hc ⟨by lia, by lia⟩ fun h5 x5 => ?_
      (repeat (first | (apply ws_of; (· exact qs_cons (by exact q_loc (by rfl)) (by exact qs_cons (by exact q_loc (by rfl)) (by exact qs_cons (by exact q_loc (by rfl)) (by exact qs_nil))))) | refine w_call ?_))
      refine c_law_side (F4.ext x5) hc ⟨by lia, by lia⟩ fun h6 x6 => ?_
      rw [side_same (A := 0) (B := 0) (a := 0) (d := 0) (by lia) (by lia)]
      (repeat (refine p_int (by rfl) ?_))
      refine ⟨fun q => by simp at q, fun u1 => ?_⟩
      (repeat (refine s_nil ?_))
      exact kR _ _ ⟨(fr rfl), (x4.trans x5).trans x6⟩
    · intro l h4 hI
      obtain ⟨⟨u, rfl⟩, x4⟩ := out _ _ _ hI
      have F4 := F3.ext x4
      have S4 := S3.ext x4
      obtain ⟨kc, kcs, f1, f2, f3, _⟩ := F4.ex
      have hlen : (kcs.map MV.ref).length = cs.length := by rw [List.length_map, f3]
      (repeat (first | (apply w_of; (· exact q_loc (by rfl))) | refine w_call ?_ | refine w_cons ?_ | refine s_assign ?_ | refine w_attr ?_ | refine w_bi ?_))
      first | refine pAttr f1 rfl rfl ?_ | refine pMeth f1 rfl rfl ?_
      (repeat (apply ws_of; (· exact qs_nil)))
      refine pBi (.lenL f2 (by simp [lim]; lia)) ?_
      (repeat (apply ws_of; (· exact qs_nil)))
      rw [hlen]
      have hne : 0 < cs.length := List.length_pos_iff.mpr F4.ne
      refine c_take S4 (by lia) (by lia) fun d h5 d0 d1 S5 x5 u1 => ?_
      obtain ⟨p0, rfl⟩ : ∃ p0 : Nat, d = (p0 : Int) := ⟨d.toNat, by lia⟩
      have hc : cs[p0]? = some cs[p0] := List.getElem?_eq_getElem (by omega)
      obtain ⟨svs, sve, svn⟩ := S4.list
      have F5 := F4.ext1 x5 sve svn
      (repeat (first | (apply w_of; (· exact q_loc (by rfl))) | (apply ws_of; (· exact qs_cons (by exact q_loc (by rfl)) (by exact qs_cons (by exact q_loc (by rfl)) (by exact qs_cons (by exact q_loc (by rfl)) (by exact qs_nil))))) | refine w_call ?_ | refine w_cons ?_ | refine s_ite ?_ | refine b_not ?_ | refine b_call ?_))
      refine c_law_side F5 hc ⟨by lia, by lia⟩ fun h6 x6 => ?_
      obtain ⟨s', e', hs', hs'N⟩ := side_in (mx := mxA cs) (my := mxD cs) (c := cs[p0]) hN hs hsN
      rw [e']
      (repeat (apply ws_of; (· exact qs_nil)))
      refine c_right (S5.ext x6) (F5.ext x6) hc hN hN2 hs' hs'N fun h7 => ?_
      refine ⟨_, rfl, fun q => by simp at q, fun u1 => ?_⟩
      (repeat (refine s_nil ?_))
      exact kR _ _ (fr rfl)
  · intro l h hI
    obtain ⟨u, rfl⟩ := out _ _ _ hI
    (repeat (first | (apply w_of; (· exact q_bool)) | refine s_ret ?_))
    rfl

theorem law_ev (ns : List Int) (h : ns.length ≤ 63) : ∃ l' H', Ev prg (.Ss (some (.fl ns) :: List.replicate 7 Option.none) [] b_law (some (.bool true)) l' H') := by
  obtain ⟨o, l', h', e, rfl⟩ := law_w ns h
  exact ⟨l', h', e⟩

end
end Mine
/-! MM -/
section
namespace Mine
open PySem (Expr Stmt Str Scope NameKind ScopeKind)

/-- the tables of names -/
structure GI where
  fnN : Nat → Option Str
  rank : Nat → Nat
  clsN : Nat → Option Str
  clsRank : Nat → Nat
  atN : Nat → Option Str
  atRank : Nat → Nat
  intN : Nat → Option Str
  tupN : Nat → Option Str

/-- a block: its names by place, its kinds, its rank -/
structure Cx where
  names : List Str
  kinds : List (Str × NameKind)
  rank : Nat

noncomputable def isOwn : Option NameKind → Bool
  | some .local => true
  | some .cell => true
  | some .free => true
  | _ => false
noncomputable def isSto : Option NameKind → Bool
  | some .local => true
  | some .cell => true
  | _ => false
noncomputable def plainNm (x : Str) : Bool := !(x == ("__debug__" : Str)) && !(x == ("__classdict__" : Str))
noncomputable def Cx.own (C : Cx) (i : Nat) (x : Str) : Bool := C.names[i]? == some x && isOwn (C.kinds.lookup x) && plainNm x
noncomputable def Cx.sto (C : Cx) (i : Nat) (x : Str) : Bool := C.names[i]? == some x && isSto (C.kinds.lookup x) && plainNm x
noncomputable def Cx.glob (C : Cx) (x : Str) : Bool := C.kinds.lookup x == some .globalImplicit && plainNm x

noncomputable def Bop.op : Bop → PySem.Operator
  | .add => .Add | .sub => .Sub | .mul => .Mult | .fdiv => .FloorDiv | .mod => .Mod | .pow => .Pow | .shl => .LShift | .shr => .RShift
noncomputable def Cop.op : Cop → PySem.CmpOp
  | .lt => .Lt | .le => .LtE | .gt => .Gt | .ge => .GtE | .eq => .Eq | .ne => .NotEq | .is => .Is | .notin => .NotIn
noncomputable def Bi.nm : Bi → Str
  | .len => "len" | .max => "max" | .min => "min" | .int => "int" | .sorted => "sorted" | .range => "range" | .list => "list" | .tuple => "tuple"

noncomputable def relK (kinds : List (Str × NameKind)) (ns : List (Str × NameKind)) : List (Str × NameKind) :=
  ns.map fun (n, k) => if (k == .free && kinds.lookup n == some .cell) then (n, .cell) else (n, k)
noncomputable def Cx.inner (C : Cx) (x : Str) (caps : List Nat) (ns : List (Str × NameKind)) : Cx :=
  ⟨x :: caps.map (fun i => (C.names[i]?).getD ""), relK C.kinds ns, C.rank⟩
noncomputable def compOk (C : Cx) (x : Str) (caps : List Nat) (sc : Scope) : Bool :=
  sc.kind == .function && sc.names.all (fun y => y.2 != .cell) && sc.names.all (fun y => y.2 != .local || sc.names.lookup y.1 == some .local) &&
    sc.names.lookup x == some .local && sc.names.all (fun y => y.2 != .free || (C.kinds.lookup y.1 == some .cell && C.names.contains y.1)) &&
    caps.all (fun i => match C.names[i]? with | some n => sc.names.lookup n == some .free | none => false) && decide (C.inner x caps sc.names).names.Nodup
noncomputable def notComp (e : Expr) : Bool := !(e.ctorIdx == 8) && (!(e.ctorIdx == 9) && !(e.ctorIdx == 10))
noncomputable def isDisp (e : Expr) : Bool := e.ctorIdx == 25

/-! shapes: a value and why it is of that shape -/
theorem andT {a b : Bool} (h : (a && b) = true) : a = true ∧ b = true := match a, b, h with | true, true, _ => ⟨rfl, rfl⟩
theorem nilT {α : Type} {l : List α} (h : l.isEmpty = true) : l = [] := match l, h with | [], _ => rfl
theorem notT {a : Bool} (h : (!a) = true) : a = false := match a, h with | false, _ => rfl
theorem noF {P : Prop} (h : false = true) : P := nomatch h
noncomputable def l1 {α : Type} (l : List α) : Option { x : α // l = [x] } := match l with | [x] => some ⟨x, rfl⟩ | _ => none
noncomputable def l2 {α : Type} (l : List α) : Option { x : α × α // l = [x.1, x.2] } := match l with | [x, y] => some ⟨(x, y), rfl⟩ | _ => none
noncomputable def lc {α : Type} (l : List α) : Option { x : α × List α // l = x.1 :: x.2 } := match l with | x :: y => some ⟨(x, y), rfl⟩ | _ => none
noncomputable def o1 {α : Type} (l : Option α) : Option { x : α // l = some x } := match l with | some x => some ⟨x, rfl⟩ | _ => none
noncomputable def asI (e : PySem.Const) : Option { t : Int // e = .int t } := match e with | .int a => some ⟨a, rfl⟩ | _ => none
noncomputable def asB (e : PySem.Const) : Option { t : Bool // e = .bool t } := match e with | .bool a => some ⟨a, rfl⟩ | _ => none
noncomputable def asS (e : PySem.Const) : Option { t : Str // e = .str t } := match e with | .str a => some ⟨a, rfl⟩ | _ => none
noncomputable def asN (e : PySem.Const) : Option { _t : Unit // e = .none } := match e with | .none => some ⟨(), rfl⟩ | _ => none
noncomputable def asBool (e : Expr) : Option { t : PySem.BoolOp × List Expr × PySem.Pos // e = .BoolOp t.1 t.2.1 t.2.2 } := if h : e.ctorIdx = 0 then Expr.BoolOp.elim (motive_1 := fun e => Option { t : PySem.BoolOp × List Expr × PySem.Pos // e = .BoolOp t.1 t.2.1 t.2.2 }) e h (fun a b c => some ⟨(a, b, c), rfl⟩) else none
noncomputable def asBin (e : Expr) : Option { t : Expr × PySem.Operator × Expr × PySem.Pos // e = .BinOp t.1 t.2.1 t.2.2.1 t.2.2.2 } := if h : e.ctorIdx = 2 then Expr.BinOp.elim (motive_1 := fun e => Option { t : Expr × PySem.Operator × Expr × PySem.Pos // e = .BinOp t.1 t.2.1 t.2.2.1 t.2.2.2 }) e h (fun a b c d => some ⟨(a, b, c, d), rfl⟩) else none
noncomputable def asUn (e : Expr) : Option { t : PySem.UnaryOp × Expr × PySem.Pos // e = .UnaryOp t.1 t.2.1 t.2.2 } := if h : e.ctorIdx = 3 then Expr.UnaryOp.elim (motive_1 := fun e => Option { t : PySem.UnaryOp × Expr × PySem.Pos // e = .UnaryOp t.1 t.2.1 t.2.2 }) e h (fun a b c => some ⟨(a, b, c), rfl⟩) else none
noncomputable def asIf (e : Expr) : Option { t : Expr × Expr × Expr × PySem.Pos // e = .IfExp t.1 t.2.1 t.2.2.1 t.2.2.2 } := if h : e.ctorIdx = 5 then Expr.IfExp.elim (motive_1 := fun e => Option { t : Expr × Expr × Expr × PySem.Pos // e = .IfExp t.1 t.2.1 t.2.2.1 t.2.2.2 }) e h (fun a b c d => some ⟨(a, b, c, d), rfl⟩) else none
noncomputable def asDict (e : Expr) : Option { t : List (Option Expr) × List Expr × PySem.Pos // e = .Dict t.1 t.2.1 t.2.2 } := if h : e.ctorIdx = 6 then Expr.Dict.elim (motive_1 := fun e => Option { t : List (Option Expr) × List Expr × PySem.Pos // e = .Dict t.1 t.2.1 t.2.2 }) e h (fun a b c => some ⟨(a, b, c), rfl⟩) else none
noncomputable def asLC (e : Expr) : Option { t : Expr × List PySem.Comprehension × Scope × PySem.Pos // e = .ListComp t.1 t.2.1 t.2.2.1 t.2.2.2 } := if h : e.ctorIdx = 8 then Expr.ListComp.elim (motive_1 := fun e => Option { t : Expr × List PySem.Comprehension × Scope × PySem.Pos // e = .ListComp t.1 t.2.1 t.2.2.1 t.2.2.2 }) e h (fun a b c d => some ⟨(a, b, c, d), rfl⟩) else none
noncomputable def asCmp (e : Expr) : Option { t : Expr × List PySem.CmpOp × List Expr × PySem.Pos // e = .Compare t.1 t.2.1 t.2.2.1 t.2.2.2 } := if h : e.ctorIdx = 15 then Expr.Compare.elim (motive_1 := fun e => Option { t : Expr × List PySem.CmpOp × List Expr × PySem.Pos // e = .Compare t.1 t.2.1 t.2.2.1 t.2.2.2 }) e h (fun a b c d => some ⟨(a, b, c, d), rfl⟩) else none
noncomputable def asCall (e : Expr) : Option { t : Expr × List Expr × List PySem.Keyword × PySem.Pos // e = .Call t.1 t.2.1 t.2.2.1 t.2.2.2 } := if h : e.ctorIdx = 16 then Expr.Call.elim (motive_1 := fun e => Option { t : Expr × List Expr × List PySem.Keyword × PySem.Pos // e = .Call t.1 t.2.1 t.2.2.1 t.2.2.2 }) e h (fun a b c d => some ⟨(a, b, c, d), rfl⟩) else none
noncomputable def asConst (e : Expr) : Option { t : PySem.Const × Nat × PySem.Pos // e = .Constant t.1 t.2.1 t.2.2 } := if h : e.ctorIdx = 19 then Expr.Constant.elim (motive_1 := fun e => Option { t : PySem.Const × Nat × PySem.Pos // e = .Constant t.1 t.2.1 t.2.2 }) e h (fun a b c => some ⟨(a, b, c), rfl⟩) else none
noncomputable def asAttr (e : Expr) : Option { t : Expr × Str × PySem.Pos // e = .Attribute t.1 t.2.1 t.2.2 } := if h : e.ctorIdx = 20 then Expr.Attribute.elim (motive_1 := fun e => Option { t : Expr × Str × PySem.Pos // e = .Attribute t.1 t.2.1 t.2.2 }) e h (fun a b c => some ⟨(a, b, c), rfl⟩) else none
noncomputable def asSub (e : Expr) : Option { t : Expr × Expr × PySem.Pos // e = .Subscript t.1 t.2.1 t.2.2 } := if h : e.ctorIdx = 21 then Expr.Subscript.elim (motive_1 := fun e => Option { t : Expr × Expr × PySem.Pos // e = .Subscript t.1 t.2.1 t.2.2 }) e h (fun a b c => some ⟨(a, b, c), rfl⟩) else none
noncomputable def asName (e : Expr) : Option { t : Str × PySem.Pos // e = .Name t.1 t.2 } := if h : e.ctorIdx = 23 then Expr.Name.elim (motive_1 := fun e => Option { t : Str × PySem.Pos // e = .Name t.1 t.2 }) e h (fun a b => some ⟨(a, b), rfl⟩) else none
noncomputable def asList (e : Expr) : Option { t : List Expr × PySem.Pos // e = .List t.1 t.2 } := if h : e.ctorIdx = 24 then Expr.List.elim (motive_1 := fun e => Option { t : List Expr × PySem.Pos // e = .List t.1 t.2 }) e h (fun a b => some ⟨(a, b), rfl⟩) else none
noncomputable def asTup (e : Expr) : Option { t : List Expr × Nat × PySem.Pos // e = .Tuple t.1 t.2.1 t.2.2 } := if h : e.ctorIdx = 25 then Expr.Tuple.elim (motive_1 := fun e => Option { t : List Expr × Nat × PySem.Pos // e = .Tuple t.1 t.2.1 t.2.2 }) e h (fun a b c => some ⟨(a, b, c), rfl⟩) else none
noncomputable def asSlice (e : Expr) : Option { t : Option Expr × Option Expr × Option Expr × PySem.Pos // e = .Slice t.1 t.2.1 t.2.2.1 t.2.2.2 } := if h : e.ctorIdx = 26 then Expr.Slice.elim (motive_1 := fun e => Option { t : Option Expr × Option Expr × Option Expr × PySem.Pos // e = .Slice t.1 t.2.1 t.2.2.1 t.2.2.2 }) e h (fun a b c d => some ⟨(a, b, c, d), rfl⟩) else none
noncomputable def asRet (e : Stmt) : Option { t : Option Expr × PySem.Pos // e = .Return t.1 t.2 } := if h : e.ctorIdx = 3 then Stmt.Return.elim (motive_2 := fun e => Option { t : Option Expr × PySem.Pos // e = .Return t.1 t.2 }) e h (fun a b => some ⟨(a, b), rfl⟩) else none
noncomputable def asAssign (e : Stmt) : Option { t : List Expr × Expr × PySem.Pos // e = .Assign t.1 t.2.1 t.2.2 } := if h : e.ctorIdx = 5 then Stmt.Assign.elim (motive_2 := fun e => Option { t : List Expr × Expr × PySem.Pos // e = .Assign t.1 t.2.1 t.2.2 }) e h (fun a b c => some ⟨(a, b, c), rfl⟩) else none
noncomputable def asAug (e : Stmt) : Option { t : Expr × PySem.Operator × Expr × PySem.Pos // e = .AugAssign t.1 t.2.1 t.2.2.1 t.2.2.2 } := if h : e.ctorIdx = 7 then Stmt.AugAssign.elim (motive_2 := fun e => Option { t : Expr × PySem.Operator × Expr × PySem.Pos // e = .AugAssign t.1 t.2.1 t.2.2.1 t.2.2.2 }) e h (fun a b c d => some ⟨(a, b, c, d), rfl⟩) else none
noncomputable def asFor (e : Stmt) : Option { t : Expr × Expr × List Stmt × List Stmt × PySem.Pos // e = .For t.1 t.2.1 t.2.2.1 t.2.2.2.1 t.2.2.2.2 } := if h : e.ctorIdx = 9 then Stmt.For.elim (motive_2 := fun e => Option { t : Expr × Expr × List Stmt × List Stmt × PySem.Pos // e = .For t.1 t.2.1 t.2.2.1 t.2.2.2.1 t.2.2.2.2 }) e h (fun a b c d e => some ⟨(a, b, c, d, e), rfl⟩) else none
noncomputable def asWhile (e : Stmt) : Option { t : Expr × List Stmt × List Stmt × PySem.Pos // e = .While t.1 t.2.1 t.2.2.1 t.2.2.2 } := if h : e.ctorIdx = 11 then Stmt.While.elim (motive_2 := fun e => Option { t : Expr × List Stmt × List Stmt × PySem.Pos // e = .While t.1 t.2.1 t.2.2.1 t.2.2.2 }) e h (fun a b c d => some ⟨(a, b, c, d), rfl⟩) else none
noncomputable def asIfS (e : Stmt) : Option { t : Expr × List Stmt × List Stmt × PySem.Pos // e = .If t.1 t.2.1 t.2.2.1 t.2.2.2 } := if h : e.ctorIdx = 12 then Stmt.If.elim (motive_2 := fun e => Option { t : Expr × List Stmt × List Stmt × PySem.Pos // e = .If t.1 t.2.1 t.2.2.1 t.2.2.2 }) e h (fun a b c d => some ⟨(a, b, c, d), rfl⟩) else none
noncomputable def asExprS (e : Stmt) : Option { t : Expr × PySem.Pos // e = .Expr t.1 t.2 } := if h : e.ctorIdx = 24 then Stmt.Expr.elim (motive_2 := fun e => Option { t : Expr × PySem.Pos // e = .Expr t.1 t.2 }) e h (fun a b => some ⟨(a, b), rfl⟩) else none

noncomputable def notSuper (e : Expr) : Bool := !((asCall e).any fun t => t.1.1.ctorIdx == 23 && (t.1.2.1.isEmpty && t.1.2.2.1.isEmpty))

mutual
noncomputable def mE (G : GI) (C : Cx) : ME → Expr → Bool
  | .int i, e => (asConst e).any fun t => (asI t.1.1).any fun j => i == j.1
  | .bool b, e => (asConst e).any fun t => (asB t.1.1).any fun j => b == j.1
  | .none, e => (asConst e).any fun t => (asN t.1.1).any fun u1 => true
  | .str, e => (asConst e).any fun t => (asS t.1.1).any fun u1 => true
  | .loc i, e => (asName e).any fun t => C.own i t.1.1
  | .gint g, e => (asName e).any fun t => G.intN g == some t.1.1 && C.glob t.1.1
  | .gtup g, e => (asName e).any fun t => G.tupN g == some t.1.1 && C.glob t.1.1
  | .bin o a b, e => (asBin e).any fun t => o.op == t.1.2.1 && (mE G C a t.1.1 && mE G C b t.1.2.2.1)
  | .neg a, e => (asUn e).any fun t => t.1.1 == .USub && mE G C a t.1.2.1
  | .cmp o a b, e => (asCmp e).any fun t => (l1 t.1.2.1).any fun p => (l1 t.1.2.2.1).any fun r => o.op == p.1 && (mE G C a t.1.1 && mE G C b r.1)
  | .cmp2 o1 o2 a b c, e => (asCmp e).any fun t => (l2 t.1.2.1).any fun p => (l2 t.1.2.2.1).any fun r => o1.op == p.1.1 && (o2.op == p.1.2 && (mE G C a t.1.1 && (mE G C b r.1.1 && mE G C c r.1.2)))
  | .not a, e => (asUn e).any fun t => t.1.1 == .Not && mE G C a t.1.2.1
  | .and es, e => (asBool e).any fun t => t.1.1 == .And && mEs G C es t.1.2.1
  | .or es, e => (asBool e).any fun t => t.1.1 == .Or && mEs G C es t.1.2.1
  | .ite c a b, e => (asIf e).any fun t => mE G C c t.1.1 && (mE G C a t.1.2.1 && mE G C b t.1.2.2.1)
  | .tup es, e => (asTup e).any fun t => mEs G C es t.1.1
  | .list es, e => (asList e).any fun t => mEs G C es t.1.1
  | .dict0, e => (asDict e).any fun t => t.1.1.isEmpty && t.1.2.1.isEmpty
  | .attr a n, e => (asAttr e).any fun t => G.atN n == some t.1.2.1 && (notSuper t.1.1 && mE G C a t.1.1)
  | .item a i, e => (asSub e).any fun t => mE G C a t.1.1 && mE G C i t.1.2.1
  | .slice2 a lo hi, e => (asSub e).any fun t => (asSlice t.1.2.1).any fun s => (Mine.o1 s.1.1).any fun x => (Mine.o1 s.1.2.1).any fun y => s.1.2.2.1.isNone && (mE G C a t.1.1 && (mE G C lo x.1 && mE G C hi y.1))
  | .slice3 a lo st, e => (asSub e).any fun t => (asSlice t.1.2.1).any fun s => (Mine.o1 s.1.1).any fun x => (Mine.o1 s.1.2.2.1).any fun y => s.1.2.1.isNone && (mE G C a t.1.1 && (mE G C lo x.1 && mE G C st y.1))
  | .call f es, e => (asCall e).any fun t => (asName t.1.1).any fun x => t.1.2.2.1.isEmpty && (G.fnN f == some x.1.1 && (C.glob x.1.1 && (decide (G.rank f < C.rank) && (decide (es.length ≤ 20) && mEs G C es t.1.2.1))))
  | .new c es, e => (asCall e).any fun t => (asName t.1.1).any fun x => t.1.2.2.1.isEmpty && (G.clsN c == some x.1.1 && (C.glob x.1.1 && (decide (G.clsRank c < C.rank) && (decide (es.length ≤ 20) && mEs G C es t.1.2.1))))
  | .meth o m es, e => (asCall e).any fun t => (asAttr t.1.1).any fun x => t.1.2.2.1.isEmpty && (x.1.2.2.endLine == t.1.2.2.2.line && (G.atN m == some x.1.2.1 && (notSuper x.1.1 && (decide (G.atRank m < C.rank) && (decide (es.length ≤ 20) && (mE G C o x.1.1 && mEs G C es t.1.2.1))))))
  | .bi b es, e => (asCall e).any fun t => (asName t.1.1).any fun x => t.1.2.2.1.isEmpty && (b.nm == x.1.1 && (C.glob x.1.1 && (decide (es.length ≤ 20) && mEs G C es t.1.2.1)))
  | .app o a, e => (asCall e).any fun t => (asAttr t.1.1).any fun x => (l1 t.1.2.1).any fun y => t.1.2.2.1.isEmpty && (x.1.2.2.endLine == t.1.2.2.2.line && (x.1.2.1 == ("append" : Str) && (notSuper x.1.1 && (mE G C o x.1.1 && mE G C a y.1))))
  | .ext o a, e => (asCall e).any fun t => (asAttr t.1.1).any fun x => (l1 t.1.2.1).any fun y => t.1.2.2.1.isEmpty && (x.1.2.2.endLine == t.1.2.2.2.line && (x.1.2.1 == ("extend" : Str) && (notSuper x.1.1 && (mE G C o x.1.1 && mE G C a y.1))))
  | .comp elt src caps, e => (asLC e).any fun t => (l1 t.1.2.1).any fun g => (asName g.1.target).any fun x => g.1.ifs.isEmpty && (g.1.is_async == 0 && (compOk C x.1.1 caps t.1.2.2.1 && (mE G C src g.1.iter && mE G (C.inner x.1.1 caps t.1.2.2.1.names) elt t.1.1)))
noncomputable def mEs (G : GI) (C : Cx) : List ME → List Expr → Bool
  | [], xs => xs.isEmpty
  | a :: es, xs => (lc xs).any fun t => mE G C a t.1.1 && mEs G C es t.1.2
end

noncomputable def mNs (C : Cx) : List Nat → List Expr → Bool
  | [], xs => xs.isEmpty
  | i :: is, xs => (lc xs).any fun t => (asName t.1.1).any fun x => C.sto i x.1.1 && mNs C is t.1.2
noncomputable def nmsOf (ts : List Expr) : List Str := ts.filterMap fun | .Name n _ => some n | _ => none
noncomputable def mNsL (C : Cx) : List Nat → List Expr → Nat → Bool
  | [], xs, _ => xs.isEmpty
  | i :: is, xs, n => (lc xs).any fun t => (asName t.1.1).any fun x => C.sto i x.1.1 && (C.kinds.lookup x.1.1 == some .local && (x.1.2.line == n && mNsL C is t.1.2 n))

mutual
noncomputable def mS (G : GI) (C : Cx) : MS → Stmt → Bool
  | .assign x e, s => (asAssign s).any fun t => (l1 t.1.1).any fun y => (asName y.1).any fun n => C.sto x n.1.1 && (notComp t.1.2.1 && mE G C e t.1.2.1)
  | .unpack xs e, s => (asAssign s).any fun t => (l1 t.1.1).any fun y => (asTup y.1).any fun u => mNs C xs u.1.1 && (notComp t.1.2.1 && (!isDisp t.1.2.1 && (mE G C e t.1.2.1 && decide xs.Nodup)))
  | .assignT xs es, s => (asAssign s).any fun t => (l1 t.1.1).any fun y => (asTup y.1).any fun u => (asTup t.1.2.1).any fun v =>
      mNsL C xs u.1.1 ((u.1.1.head?.map (·.pos.line)).getD 0) && (decide (xs.length = 2 ∨ xs.length = 3) && (es.length == xs.length && (mEs G C es v.1.1 && (decide xs.Nodup && (!(v.1.1.all (PySem.foldedForSure 8)) && (!(v.1.1.all (PySem.constantsAlone 8)) && decide ((nmsOf u.1.1).eraseDups.length = (nmsOf u.1.1).length)))))))
  | .setattr o a e, s => (asAssign s).any fun t => (l1 t.1.1).any fun y => (asAttr y.1).any fun u => G.atN a == some u.1.2.1 && (notComp t.1.2.1 && (mE G C o u.1.1 && mE G C e t.1.2.1))
  | .setitem o i e, s => (asAssign s).any fun t => (l1 t.1.1).any fun y => (asSub y.1).any fun u => notComp t.1.2.1 && (mE G C o u.1.1 && (mE G C i u.1.2.1 && mE G C e t.1.2.1))
  | .aug x o e, s => (asAug s).any fun t => (asName t.1.1).any fun n => o.op == t.1.2.1 && (C.sto x n.1.1 && mE G C e t.1.2.2.1)
  | .ite c a b, s => (asIfS s).any fun t => mE G C c t.1.1 && (mSs G C a t.1.2.1 && mSs G C b t.1.2.2.1)
  | .while c b, s => (asWhile s).any fun t => t.1.2.2.1.isEmpty && (mE G C c t.1.1 && mSs G C b t.1.2.1)
  | .for x e b, s => (asFor s).any fun t => (asName t.1.1).any fun n => t.1.2.2.2.1.isEmpty && (C.sto x n.1.1 && (mE G C e t.1.2.1 && mSs G C b t.1.2.2.1))
  | .ret e, s => (asRet s).any fun t => (Mine.o1 t.1.1).any fun v => mE G C e v.1
  | .expr e, s => (asExprS s).any fun t => notComp t.1.1 && mE G C e t.1.1
  | .raise, s => s.ctorIdx == 16
noncomputable def mSs (G : GI) (C : Cx) : List MS → List Stmt → Bool
  | [], xs => xs.isEmpty
  | a :: es, xs => (lc xs).any fun t => mS G C a t.1.1 && mSs G C es t.1.2
end

noncomputable def sto2 : Option NameKind → Bool
  | some .local => true
  | some .cell => true
  | _ => false
noncomputable def stm (b : PySem.FuncBody) : Option { x : List Stmt // b = .stmts x } := match b with | .stmts x => some ⟨x, rfl⟩ | _ => none
noncomputable def noneV (v : PySem.Value) : Option { _u : Unit // v = .none } := match v with | .none => some ⟨(), rfl⟩ | _ => none
/-- a function object stands for a small function -/
noncomputable def fdOk (G : GI) (f : Nat) (names : List Str) (fd : PySem.FuncData) (fn : Fn) (body : List Stmt) : Bool :=
  fd.params.posonlyargs.isEmpty && (fd.params.vararg.isNone && (fd.params.kwonlyargs.isEmpty && (fd.params.kwarg.isNone && (fd.closure.isEmpty && ((noneV fd.defaults).isSome && (fd.scope.kind == .function && (!fd.scope.isCoroutine && (!fd.scope.isGenerator &&
    (fd.params.args.map (·.arg) == names.take fn.np && (decide (fn.np ≤ fn.nl) && (names.length == fn.nl && (decide names.Nodup && ((names.take fn.np).all (fun x => sto2 (fd.scope.names.lookup x)) && (fd.scope.names.all (fun y => y.2 != .free) && mSs G ⟨names, fd.scope.names, G.rank f⟩ fn.body body))))))))))))))
noncomputable def fdChk (G : GI) (P : Prg) (f : Nat) (names : List Str) (fd : PySem.FuncData) : Bool := (o1 (P.fn f)).any fun fn => (stm fd.body).any fun b => fdOk G f names fd fn.1 b.1
end Mine

end
/-! MI -/
section
set_option linter.unusedVariables false
namespace Mine
open PySem (Expr Stmt Str Scope NameKind ScopeKind Pos Comprehension)

theorem anyE {α : Type} {o : Option α} {p : α → Bool} {R : Prop} (h : o.any p = true) (k : ∀ x, p x = true → R) : R := match o, h with | some x, h => k x h
theorem mv {α : Type} {a b : α} (M : α → Prop) (e : a = b) (k : M b) : M a := e ▸ k
theorem bq {α : Type} [BEq α] [LawfulBEq α] {a b : α} {c : Bool} (h : (a == b && c) = true) : a = b := eq_of_beq (andT h).1
theorem dq {a : Prop} [Decidable a] {c : Bool} (h : (decide a && c) = true) : a := of_decide_eq_true (andT h).1
theorem hd1 {a c : Bool} (h : (a && c) = true) : a = true := (andT h).1
theorem tl1 {a c : Bool} (h : (a && c) = true) : c = true := (andT h).2
theorem nl {α : Type} {l : List α} {c : Bool} (h : (l.isEmpty && c) = true) : l = [] := nilT (andT h).1
theorem nn {α : Type} {l : Option α} {c : Bool} (h : (l.isNone && c) = true) : l = none := Option.isNone_iff_eq_none.mp (andT h).1

section
variable {G : GI} {C : Cx} {M : Expr → Prop} {pe : Expr}
@[elab_as_elim] theorem v_int {i : Int} (h : mE G C (.int i) pe = true) (k : ∀ n q, M (.Constant (.int i) n q)) : M pe :=
  anyE h fun t h => anyE h fun j h => mv M t.2 <| mv (fun c => M (.Constant c _ _)) j.2 <| mv (fun j => M (.Constant (.int j) _ _)) (eq_of_beq h).symm (k _ _)
@[elab_as_elim] theorem v_bool {i : Bool} (h : mE G C (.bool i) pe = true) (k : ∀ n q, M (.Constant (.bool i) n q)) : M pe :=
  anyE h fun t h => anyE h fun j h => mv M t.2 <| mv (fun c => M (.Constant c _ _)) j.2 <| mv (fun j => M (.Constant (.bool j) _ _)) (eq_of_beq h).symm (k _ _)
@[elab_as_elim] theorem v_none (h : mE G C .none pe = true) (k : ∀ n q, M (.Constant .none n q)) : M pe :=
  anyE h fun t h => anyE h fun j h => mv M t.2 <| mv (fun c => M (.Constant c _ _)) j.2 (k _ _)
@[elab_as_elim] theorem v_str (h : mE G C .str pe = true) (k : ∀ x n q, M (.Constant (.str x) n q)) : M pe :=
  anyE h fun t h => anyE h fun j h => mv M t.2 <| mv (fun c => M (.Constant c _ _)) j.2 (k _ _ _)
@[elab_as_elim] theorem v_loc {i : Nat} (h : mE G C (.loc i) pe = true) (k : ∀ x q, C.own i x = true → M (.Name x q)) : M pe := anyE h fun t h => mv M t.2 (k _ _ h)
@[elab_as_elim] theorem v_gint {g : Nat} (h : mE G C (.gint g) pe = true) (k : ∀ x q, G.intN g = some x → C.glob x = true → M (.Name x q)) : M pe := anyE h fun t h => mv M t.2 (k _ _ (bq h) (tl1 h))
@[elab_as_elim] theorem v_gtup {g : Nat} (h : mE G C (.gtup g) pe = true) (k : ∀ x q, G.tupN g = some x → C.glob x = true → M (.Name x q)) : M pe := anyE h fun t h => mv M t.2 (k _ _ (bq h) (tl1 h))
@[elab_as_elim] theorem v_bin {o : Bop} {a b : ME} (h : mE G C (.bin o a b) pe = true) (k : ∀ l r q, mE G C a l = true → mE G C b r = true → M (.BinOp l o.op r q)) : M pe :=
  anyE h fun t h => mv M t.2 <| mv (fun o => M (.BinOp _ o _ _)) (bq h).symm (k _ _ _ (hd1 (tl1 h)) (tl1 (tl1 h)))
@[elab_as_elim] theorem v_un {u : PySem.UnaryOp} {a : ME} (h : ((asUn pe).any fun t => t.1.1 == u && mE G C a t.1.2.1) = true) (k : ∀ x q, mE G C a x = true → M (.UnaryOp u x q)) : M pe :=
  anyE h fun t h => mv M t.2 <| mv (fun o => M (.UnaryOp o _ _)) (bq h) (k _ _ (tl1 h))
@[elab_as_elim] theorem v_neg {a : ME} (h : mE G C (.neg a) pe = true) (k : ∀ x q, mE G C a x = true → M (.UnaryOp .USub x q)) : M pe := v_un h k
@[elab_as_elim] theorem v_not {a : ME} (h : mE G C (.not a) pe = true) (k : ∀ x q, mE G C a x = true → M (.UnaryOp .Not x q)) : M pe := v_un h k
@[elab_as_elim] theorem v_cmp {o : Cop} {a b : ME} (h : mE G C (.cmp o a b) pe = true) (k : ∀ l r q, mE G C a l = true → mE G C b r = true → M (.Compare l [o.op] [r] q)) : M pe :=
  anyE h fun t h => anyE h fun x h => anyE h fun y h => mv M t.2 <| mv (fun o => M (.Compare _ o _ _)) x.2 <| mv (fun r => M (.Compare _ _ r _)) y.2 <| mv (fun o => M (.Compare _ [o] _ _)) (bq h).symm (k _ _ _ (hd1 (tl1 h)) (tl1 (tl1 h)))
@[elab_as_elim] theorem v_cmp2 {o1 o2 : Cop} {a b c : ME} (h : mE G C (.cmp2 o1 o2 a b c) pe = true) (k : ∀ l r r' q, mE G C a l = true → mE G C b r = true → mE G C c r' = true → M (.Compare l [o1.op, o2.op] [r, r'] q)) : M pe :=
  anyE h fun t h => anyE h fun x h => anyE h fun y h => mv M t.2 <| mv (fun o => M (.Compare _ o _ _)) x.2 <| mv (fun r => M (.Compare _ _ r _)) y.2 <| mv (fun o => M (.Compare _ [o, _] _ _)) (bq h).symm <| mv (fun o => M (.Compare _ [_, o] _ _)) (bq (tl1 h)).symm
    (k _ _ _ _ (hd1 (tl1 (tl1 h))) (hd1 (tl1 (tl1 (tl1 h)))) (tl1 (tl1 (tl1 (tl1 h)))))
@[elab_as_elim] theorem v_bop {u : PySem.BoolOp} {es : List ME} (h : ((asBool pe).any fun t => t.1.1 == u && mEs G C es t.1.2.1) = true) (k : ∀ xs q, mEs G C es xs = true → M (.BoolOp u xs q)) : M pe :=
  anyE h fun t h => mv M t.2 <| mv (fun o => M (.BoolOp o _ _)) (bq h) (k _ _ (tl1 h))
@[elab_as_elim] theorem v_and {es : List ME} (h : mE G C (.and es) pe = true) (k : ∀ xs q, mEs G C es xs = true → M (.BoolOp .And xs q)) : M pe := v_bop h k
@[elab_as_elim] theorem v_or {es : List ME} (h : mE G C (.or es) pe = true) (k : ∀ xs q, mEs G C es xs = true → M (.BoolOp .Or xs q)) : M pe := v_bop h k
@[elab_as_elim] theorem v_ite {c a b : ME} (h : mE G C (.ite c a b) pe = true) (k : ∀ t x y q, mE G C c t = true → mE G C a x = true → mE G C b y = true → M (.IfExp t x y q)) : M pe :=
  anyE h fun t h => mv M t.2 (k _ _ _ _ (hd1 h) (hd1 (tl1 h)) (tl1 (tl1 h)))
@[elab_as_elim] theorem v_tup {es : List ME} (h : mE G C (.tup es) pe = true) (k : ∀ xs n q, mEs G C es xs = true → M (.Tuple xs n q)) : M pe := anyE h fun t h => mv M t.2 (k _ _ _ h)
@[elab_as_elim] theorem v_list {es : List ME} (h : mE G C (.list es) pe = true) (k : ∀ xs q, mEs G C es xs = true → M (.List xs q)) : M pe := anyE h fun t h => mv M t.2 (k _ _ h)
@[elab_as_elim] theorem v_dict0 (h : mE G C .dict0 pe = true) (k : ∀ q, M (.Dict [] [] q)) : M pe :=
  anyE h fun t h => mv M t.2 <| mv (fun x => M (.Dict x _ _)) (nl h) <| mv (fun x => M (.Dict _ x _)) (nilT (tl1 h)) (k _)
@[elab_as_elim] theorem v_attr {a : ME} {n : Nat} (h : mE G C (.attr a n) pe = true) (k : ∀ x nm q, G.atN n = some nm → notSuper x = true → mE G C a x = true → M (.Attribute x nm q)) : M pe :=
  anyE h fun t h => mv M t.2 (k _ _ _ (bq h) (hd1 (tl1 h)) (tl1 (tl1 h)))
@[elab_as_elim] theorem v_item {a i : ME} (h : mE G C (.item a i) pe = true) (k : ∀ x y q, mE G C a x = true → mE G C i y = true → M (.Subscript x y q)) : M pe :=
  anyE h fun t h => mv M t.2 (k _ _ _ (hd1 h) (tl1 h))
@[elab_as_elim] theorem v_slice2 {a lo hi : ME} (h : mE G C (.slice2 a lo hi) pe = true) (k : ∀ x l u q q', mE G C a x = true → mE G C lo l = true → mE G C hi u = true → M (.Subscript x (.Slice (some l) (some u) none q) q')) : M pe :=
  anyE h fun t h => anyE h fun s h => anyE h fun x h => anyE h fun y h => mv M t.2 <| mv (fun s => M (.Subscript _ s _)) s.2 <| mv (fun l => M (.Subscript _ (.Slice l _ _ _) _)) x.2 <| mv (fun l => M (.Subscript _ (.Slice _ l _ _) _)) y.2 <| mv (fun l => M (.Subscript _ (.Slice _ _ l _) _)) (nn h)
    (k _ _ _ _ _ (hd1 (tl1 h)) (hd1 (tl1 (tl1 h))) (tl1 (tl1 (tl1 h))))
@[elab_as_elim] theorem v_slice3 {a lo st : ME} (h : mE G C (.slice3 a lo st) pe = true) (k : ∀ x l u q q', mE G C a x = true → mE G C lo l = true → mE G C st u = true → M (.Subscript x (.Slice (some l) none (some u) q) q')) : M pe :=
  anyE h fun t h => anyE h fun s h => anyE h fun x h => anyE h fun y h => mv M t.2 <| mv (fun s => M (.Subscript _ s _)) s.2 <| mv (fun l => M (.Subscript _ (.Slice l _ _ _) _)) x.2 <| mv (fun l => M (.Subscript _ (.Slice _ _ l _) _)) y.2 <| mv (fun l => M (.Subscript _ (.Slice _ l _ _) _)) (nn h)
    (k _ _ _ _ _ (hd1 (tl1 h)) (hd1 (tl1 (tl1 h))) (tl1 (tl1 (tl1 h))))
@[elab_as_elim] theorem v_callN {es : List ME} {nm : Str → Bool} {r : Bool} (h : ((asCall pe).any fun t => (asName t.1.1).any fun x => t.1.2.2.1.isEmpty && (nm x.1.1 && (C.glob x.1.1 && (r && (decide (es.length ≤ 20) && mEs G C es t.1.2.1))))) = true)
    (k : ∀ x p xs q, nm x = true → C.glob x = true → r = true → es.length ≤ 20 → mEs G C es xs = true → M (.Call (.Name x p) xs [] q)) : M pe :=
  anyE h fun t h => anyE h fun x h => mv M t.2 <| mv (fun f => M (.Call f _ _ _)) x.2 <| mv (fun l => M (.Call _ _ l _)) (nl h)
    (have h := tl1 h; have h2 := tl1 h; have h3 := tl1 h2; have h4 := tl1 h3; k _ _ _ _ (hd1 h) (hd1 h2) (hd1 h3) (dq h4) (tl1 h4))
@[elab_as_elim] theorem v_call {f : Nat} {es : List ME} (h : mE G C (.call f es) pe = true) (k : ∀ x p xs q, G.fnN f = some x → C.glob x = true → G.rank f < C.rank → es.length ≤ 20 → mEs G C es xs = true → M (.Call (.Name x p) xs [] q)) : M pe :=
  v_callN (M := M) (nm := fun x => G.fnN f == some x) h fun x p xs q a b c d e => k x p xs q (eq_of_beq a) b (of_decide_eq_true c) d e
@[elab_as_elim] theorem v_new {f : Nat} {es : List ME} (h : mE G C (.new f es) pe = true) (k : ∀ x p xs q, G.clsN f = some x → C.glob x = true → G.clsRank f < C.rank → es.length ≤ 20 → mEs G C es xs = true → M (.Call (.Name x p) xs [] q)) : M pe :=
  v_callN (M := M) (nm := fun x => G.clsN f == some x) h fun x p xs q a b c d e => k x p xs q (eq_of_beq a) b (of_decide_eq_true c) d e
@[elab_as_elim] theorem v_bi {b : Bi} {es : List ME} (h : mE G C (.bi b es) pe = true) (k : ∀ p xs q, C.glob b.nm = true → es.length ≤ 20 → mEs G C es xs = true → M (.Call (.Name b.nm p) xs [] q)) : M pe :=
  anyE h fun t h => anyE h fun x h => mv M t.2 <| mv (fun f => M (.Call f _ _ _)) x.2 <| mv (fun l => M (.Call _ _ l _)) (nl h)
    (have h := tl1 h; have h2 := tl1 h; have h3 := tl1 h2; mv (fun n => M (.Call (.Name n _) _ _ _)) (bq h).symm (k _ _ _ ((bq h) ▸ hd1 h2) (dq h3) (tl1 h3)))
@[elab_as_elim] theorem v_meth {o : ME} {m : Nat} {es : List ME} (h : mE G C (.meth o m es) pe = true) (k : ∀ x nm ap xs q, ap.endLine = q.line → G.atN m = some nm → notSuper x = true → G.atRank m < C.rank → es.length ≤ 20 → mE G C o x = true → mEs G C es xs = true → M (.Call (.Attribute x nm ap) xs [] q)) : M pe :=
  anyE h fun t h => anyE h fun x h => mv M t.2 <| mv (fun f => M (.Call f _ _ _)) x.2 <| mv (fun l => M (.Call _ _ l _)) (nl h)
    (have h1 := tl1 h; have h2 := tl1 h1; have h3 := tl1 h2; have h4 := tl1 h3; have h5 := tl1 h4; have h6 := tl1 h5; k _ _ _ _ _ (bq h1) (bq h2) (hd1 h3) (dq h4) (dq h5) (hd1 h6) (tl1 h6))
@[elab_as_elim] theorem v_ap {s : Str} {o a : ME} (h : ((asCall pe).any fun t => (asAttr t.1.1).any fun x => (l1 t.1.2.1).any fun y => t.1.2.2.1.isEmpty && (x.1.2.2.endLine == t.1.2.2.2.line && (x.1.2.1 == s && (notSuper x.1.1 && (mE G C o x.1.1 && mE G C a y.1))))) = true)
    (k : ∀ x ap y q, ap.endLine = q.line → notSuper x = true → mE G C o x = true → mE G C a y = true → M (.Call (.Attribute x s ap) [y] [] q)) : M pe :=
  anyE h fun t h => anyE h fun x h => anyE h fun y h => mv M t.2 <| mv (fun f => M (.Call f _ _ _)) x.2 <| mv (fun l => M (.Call _ _ l _)) (nl h) <| mv (fun l => M (.Call _ l _ _)) y.2
    (have h1 := tl1 h; have h2 := tl1 h1; have h3 := tl1 h2; have h4 := tl1 h3; mv (fun n => M (.Call (.Attribute _ n _) _ _ _)) (bq h2) (k _ _ _ _ (bq h1) (hd1 h3) (hd1 h4) (tl1 h4)))
@[elab_as_elim] theorem v_app {o a : ME} (h : mE G C (.app o a) pe = true) (k : ∀ x ap y q, ap.endLine = q.line → notSuper x = true → mE G C o x = true → mE G C a y = true → M (.Call (.Attribute x "append" ap) [y] [] q)) : M pe := v_ap h k
@[elab_as_elim] theorem v_ext {o a : ME} (h : mE G C (.ext o a) pe = true) (k : ∀ x ap y q, ap.endLine = q.line → notSuper x = true → mE G C o x = true → mE G C a y = true → M (.Call (.Attribute x "extend" ap) [y] [] q)) : M pe := v_ap h k
theorem compEta (g : Comprehension) : g = ⟨g.target, g.iter, g.ifs, g.is_async⟩ := by cases g; rfl
@[elab_as_elim] theorem v_comp {elt src : ME} {caps : List Nat} (h : mE G C (.comp elt src caps) pe = true) (k : ∀ t x p it sc q, compOk C x caps sc = true → mE G C src it = true → mE G (C.inner x caps sc.names) elt t = true → M (.ListComp t [⟨.Name x p, it, [], 0⟩] sc q)) : M pe :=
  anyE h fun t h => anyE h fun g h => anyE h fun x h => mv M t.2 <| mv (fun l => M (.ListComp t.1.1 l t.1.2.2.1 t.1.2.2.2)) g.2 <| mv (fun y => M (.ListComp t.1.1 [y] t.1.2.2.1 t.1.2.2.2)) (compEta g.1) <| mv (fun y => M (.ListComp t.1.1 [⟨y, g.1.iter, g.1.ifs, g.1.is_async⟩] t.1.2.2.1 t.1.2.2.2)) x.2 <|
    mv (fun y => M (.ListComp t.1.1 [⟨.Name x.1.1 x.1.2, g.1.iter, y, g.1.is_async⟩] t.1.2.2.1 t.1.2.2.2)) (nl h)
    (have h1 := tl1 h; have h2 := tl1 h1; have h3 := tl1 h2; mv (fun y => M (.ListComp t.1.1 [⟨.Name x.1.1 x.1.2, g.1.iter, [], y⟩] t.1.2.2.1 t.1.2.2.2)) (bq h1) (k _ _ _ _ _ _ (hd1 h2) (hd1 h3) (tl1 h3)))
@[elab_as_elim] theorem v_nil {M : List Expr → Prop} {ps : List Expr} (h : mEs G C [] ps = true) (k : M []) : M ps := mv M (nilT h) k
@[elab_as_elim] theorem v_cons {M : List Expr → Prop} {ps : List Expr} {a : ME} {es : List ME} (h : mEs G C (a :: es) ps = true) (k : ∀ x r, mE G C a x = true → mEs G C es r = true → M (x :: r)) : M ps :=
  anyE h fun t h => mv M t.2 (k _ _ (hd1 h) (tl1 h))

/-- which shapes a matched expression cannot have -/
theorem noStar {e : ME} {x : Expr} {q : Pos} (h : mE G C e (.Starred x q) = true) : False := by cases e <;> exact noF h
theorem noSet {e : ME} {x : List Expr} {n : Nat} {q : Pos} (h : mE G C e (.Set x n q) = true) : False := by cases e <;> exact noF h
theorem star_cons {e : ME} {p : Expr} (h : mE G C e p = true) (rest : List Expr) (env : PySem.Env) : PySem.starEach (p :: rest) env = (false, PySem.eval p env) :: PySem.starEach rest env := by
  cases p <;> first | exact rfl | exact (noStar h).elim
end

/-! statements -/
section
variable {G : GI} {C : Cx} {M : Stmt → Prop} {ps : Stmt}
@[elab_as_elim] theorem u_assign {x : Nat} {e : ME} (h : mS G C (.assign x e) ps = true) (k : ∀ n p v q, C.sto x n = true → notComp v = true → mE G C e v = true → M (.Assign [.Name n p] v q)) : M ps :=
  anyE h fun t h => anyE h fun y h => anyE h fun n h => mv M t.2 <| mv (fun y => M (.Assign y _ _)) y.2 <| mv (fun y => M (.Assign [y] _ _)) n.2 (k _ _ _ _ (hd1 h) (hd1 (tl1 h)) (tl1 (tl1 h)))
@[elab_as_elim] theorem u_unpack {xs : List Nat} {e : ME} (h : mS G C (.unpack xs e) ps = true) (k : ∀ ts n p v q, mNs C xs ts = true → notComp v = true → isDisp v = false → mE G C e v = true → xs.Nodup → M (.Assign [.Tuple ts n p] v q)) : M ps :=
  anyE h fun t h => anyE h fun y h => anyE h fun n h => mv M t.2 <| mv (fun y => M (.Assign y _ _)) y.2 <| mv (fun y => M (.Assign [y] _ _)) n.2
    (have h1 := tl1 h; have h2 := tl1 h1; have h3 := tl1 h2; k _ _ _ _ _ (hd1 h) (hd1 h1) (notT (hd1 h2)) (hd1 h3) (of_decide_eq_true (tl1 h3)))
@[elab_as_elim] theorem u_assignT {xs : List Nat} {es : List ME} (h : mS G C (.assignT xs es) ps = true) (k : ∀ ts n p vs m p' q, mNsL C xs ts ((ts.head?.map (·.pos.line)).getD 0) = true → (xs.length = 2 ∨ xs.length = 3) → es.length = xs.length → mEs G C es vs = true → xs.Nodup →
    vs.all (PySem.foldedForSure 8) = false → vs.all (PySem.constantsAlone 8) = false → (nmsOf ts).eraseDups.length = (nmsOf ts).length → M (.Assign [.Tuple ts n p] (.Tuple vs m p') q)) : M ps :=
  anyE h fun t h => anyE h fun y h => anyE h fun n h => anyE h fun v h => mv M t.2 <| mv (fun y => M (.Assign y _ _)) y.2 <| mv (fun y => M (.Assign [y] _ _)) n.2 <| mv (fun y => M (.Assign _ y _)) v.2
    (have h1 := tl1 h; have h2 := tl1 h1; have h3 := tl1 h2; have h4 := tl1 h3; have h5 := tl1 h4; have h6 := tl1 h5; k _ _ _ _ _ _ _ (hd1 h) (dq h1) (bq h2) (hd1 h3) (dq h4) (notT (hd1 h5)) (notT (hd1 h6)) (of_decide_eq_true (tl1 h6)))
@[elab_as_elim] theorem u_setattr {o e : ME} {a : Nat} (h : mS G C (.setattr o a e) ps = true) (k : ∀ x nm p v q, G.atN a = some nm → notComp v = true → mE G C o x = true → mE G C e v = true → M (.Assign [.Attribute x nm p] v q)) : M ps :=
  anyE h fun t h => anyE h fun y h => anyE h fun n h => mv M t.2 <| mv (fun y => M (.Assign y _ _)) y.2 <| mv (fun y => M (.Assign [y] _ _)) n.2
    (have h1 := tl1 h; have h2 := tl1 h1; k _ _ _ _ _ (bq h) (hd1 h1) (hd1 h2) (tl1 h2))
@[elab_as_elim] theorem u_setitem {o i e : ME} (h : mS G C (.setitem o i e) ps = true) (k : ∀ x y p v q, notComp v = true → mE G C o x = true → mE G C i y = true → mE G C e v = true → M (.Assign [.Subscript x y p] v q)) : M ps :=
  anyE h fun t h => anyE h fun y h => anyE h fun n h => mv M t.2 <| mv (fun y => M (.Assign y _ _)) y.2 <| mv (fun y => M (.Assign [y] _ _)) n.2
    (have h1 := tl1 h; have h2 := tl1 h1; k _ _ _ _ _ (hd1 h) (hd1 h1) (hd1 h2) (tl1 h2))
@[elab_as_elim] theorem u_aug {x : Nat} {o : Bop} {e : ME} (h : mS G C (.aug x o e) ps = true) (k : ∀ n p v q, C.sto x n = true → mE G C e v = true → M (.AugAssign (.Name n p) o.op v q)) : M ps :=
  anyE h fun t h => anyE h fun n h => mv M t.2 <| mv (fun y => M (.AugAssign y _ _ _)) n.2 <| mv (fun o => M (.AugAssign _ o _ _)) (bq h).symm (k _ _ _ _ (hd1 (tl1 h)) (tl1 (tl1 h)))
@[elab_as_elim] theorem u_ite {c : ME} {a b : List MS} (h : mS G C (.ite c a b) ps = true) (k : ∀ t x y q, mE G C c t = true → mSs G C a x = true → mSs G C b y = true → M (.If t x y q)) : M ps :=
  anyE h fun t h => mv M t.2 (k _ _ _ _ (hd1 h) (hd1 (tl1 h)) (tl1 (tl1 h)))
@[elab_as_elim] theorem u_while {c : ME} {b : List MS} (h : mS G C (.while c b) ps = true) (k : ∀ t x q, mE G C c t = true → mSs G C b x = true → M (.While t x [] q)) : M ps :=
  anyE h fun t h => mv M t.2 <| mv (fun y => M (.While _ _ y _)) (nl h) (k _ _ _ (hd1 (tl1 h)) (tl1 (tl1 h)))
@[elab_as_elim] theorem u_for {x : Nat} {e : ME} {b : List MS} (h : mS G C (.for x e b) ps = true) (k : ∀ n p it y q, C.sto x n = true → mE G C e it = true → mSs G C b y = true → M (.For (.Name n p) it y [] q)) : M ps :=
  anyE h fun t h => anyE h fun n h => mv M t.2 <| mv (fun y => M (.For y _ _ _ _)) n.2 <| mv (fun y => M (.For _ _ _ y _)) (nl h) (have h1 := tl1 h; have h2 := tl1 h1; k _ _ _ _ _ (hd1 h1) (hd1 h2) (tl1 h2))
@[elab_as_elim] theorem u_ret {e : ME} (h : mS G C (.ret e) ps = true) (k : ∀ v q, mE G C e v = true → M (.Return (some v) q)) : M ps :=
  anyE h fun t h => anyE h fun v h => mv M t.2 <| mv (fun y => M (.Return y _)) v.2 (k _ _ h)
@[elab_as_elim] theorem u_expr {e : ME} (h : mS G C (.expr e) ps = true) (k : ∀ v q, notComp v = true → mE G C e v = true → M (.Expr v q)) : M ps :=
  anyE h fun t h => mv M t.2 (k _ _ (hd1 h) (tl1 h))
@[elab_as_elim] theorem u_nil {M : List Stmt → Prop} {ps : List Stmt} (h : mSs G C [] ps = true) (k : M []) : M ps := mv M (nilT h) k
@[elab_as_elim] theorem u_cons {M : List Stmt → Prop} {ps : List Stmt} {a : MS} {es : List MS} (h : mSs G C (a :: es) ps = true) (k : ∀ x r, mS G C a x = true → mSs G C es r = true → M (x :: r)) : M ps :=
  anyE h fun t h => mv M t.2 (k _ _ (hd1 h) (tl1 h))
/-! names -/
@[elab_as_elim] theorem n_nil {M : List Expr → Prop} {ps : List Expr} (h : mNs C [] ps = true) (k : M []) : M ps := mv M (nilT h) k
@[elab_as_elim] theorem n_cons {M : List Expr → Prop} {ps : List Expr} {i : Nat} {is : List Nat} (h : mNs C (i :: is) ps = true) (k : ∀ x p r, C.sto i x = true → mNs C is r = true → M (.Name x p :: r)) : M ps :=
  anyE h fun t h => anyE h fun x h => mv M t.2 <| mv (fun y => M (y :: _)) x.2 (k _ _ _ (hd1 h) (tl1 h))
@[elab_as_elim] theorem nL_nil {M : List Expr → Prop} {ps : List Expr} {n : Nat} (h : mNsL C [] ps n = true) (k : M []) : M ps := mv M (nilT h) k
@[elab_as_elim] theorem nL_cons {M : List Expr → Prop} {ps : List Expr} {i n : Nat} {is : List Nat} (h : mNsL C (i :: is) ps n = true) (k : ∀ x p r, C.sto i x = true → C.kinds.lookup x = some .local → p.line = n → mNsL C is r n = true → M (.Name x p :: r)) : M ps :=
  anyE h fun t h => anyE h fun x h => mv M t.2 <| mv (fun y => M (y :: _)) x.2 (have h1 := tl1 h; have h2 := tl1 h1; k _ _ _ (hd1 h) (bq h1) (bq h2) (tl1 h2))
end
end Mine

end
/-! MG -/
section
namespace Mine
open PySem (Str Addr)
/-! printed by gen.py: names, ranks -/
noncomputable def tFn : Nat → Option Str
  | 0 => some (PySem.Str.ofString "clamped")
  | 1 => some (PySem.Str.ofString "parts")
  | 7 => some (PySem.Str.ofString "dequantise")
  | 8 => some (PySem.Str.ofString "descaled")
  | 9 => some (PySem.Str.ofString "even_inverse")
  | 10 => some (PySem.Str.ofString "turned")
  | 11 => some (PySem.Str.ofString "odd_flow")
  | 14 => some (PySem.Str.ofString "picked")
  | 15 => some (PySem.Str.ofString "zigzag_places")
  | 16 => some (PySem.Str.ofString "check_side")
  | 17 => some (PySem.Str.ofString "fits")
  | 20 => some (PySem.Str.ofString "_law_pool")
  | 21 => some (PySem.Str.ofString "_law_take")
  | 22 => some (PySem.Str.ofString "_law_side")
  | 23 => some (PySem.Str.ofString "_law_over")
  | 24 => some (PySem.Str.ofString "put_block")
  | 28 => some (PySem.Str.ofString "blank")
  | 29 => some (PySem.Str.ofString "inverse_row")
  | 32 => some (PySem.Str.ofString "order")
  | 33 => some (PySem.Str.ofString "scaled_size")
  | 34 => some (PySem.Str.ofString "side_of")
  | 35 => some (PySem.Str.ofString "_law_one")
  | 39 => some (PySem.Str.ofString "to_row")
  | 40 => some (PySem.Str.ofString "to_block")
  | 41 => some (PySem.Str.ofString "_law_frame")
  | 42 => some (PySem.Str.ofString "inverse")
  | 43 => some (PySem.Str.ofString "corner")
  | 45 => some (PySem.Str.ofString "scaled_samples")
  | 46 => some (PySem.Str.ofString "scaled_plane")
  | 47 => some (PySem.Str.ofString "_law_plane_right")
  | 48 => some (PySem.Str.ofString "law")
  | _ => Option.none
noncomputable def tRank : Nat → Nat
  | 0 => 2
  | 1 => 2
  | 2 => 2
  | 3 => 2
  | 4 => 2
  | 5 => 2
  | 6 => 2
  | 7 => 2
  | 8 => 2
  | 9 => 2
  | 10 => 2
  | 11 => 2
  | 12 => 2
  | 13 => 2
  | 14 => 2
  | 15 => 2
  | 16 => 2
  | 17 => 2
  | 18 => 2
  | 19 => 2
  | 20 => 2
  | 21 => 2
  | 22 => 2
  | 23 => 2
  | 24 => 4
  | 25 => 4
  | 26 => 4
  | 27 => 4
  | 28 => 4
  | 29 => 4
  | 30 => 4
  | 31 => 4
  | 32 => 4
  | 33 => 4
  | 34 => 4
  | 35 => 4
  | 36 => 6
  | 37 => 6
  | 38 => 6
  | 39 => 6
  | 40 => 6
  | 41 => 6
  | 42 => 8
  | 43 => 8
  | 44 => 8
  | 45 => 10
  | 46 => 12
  | 47 => 14
  | 48 => 16
  | _ => 0
noncomputable def tCls : Nat → Option Str
  | 0 => some (PySem.Str.ofString "Component")
  | 1 => some (PySem.Str.ofString "Frame")
  | 2 => some (PySem.Str.ofString "Plane")
  | 3 => some (PySem.Str.ofString "IslowDct")
  | 4 => some (PySem.Str.ofString "FourDct")
  | 5 => some (PySem.Str.ofString "TwoDct")
  | 6 => some (PySem.Str.ofString "OneDct")
  | 7 => some (PySem.Str.ofString "Grid")
  | _ => Option.none
noncomputable def tClsRank : Nat → Nat
  | 0 => 3
  | 1 => 3
  | 2 => 3
  | 3 => 1
  | 4 => 1
  | 5 => 1
  | 6 => 1
  | 7 => 9
  | _ => 0
noncomputable def tAt : Nat → Option Str
  | 0 => some (PySem.Str.ofString "ident")
  | 1 => some (PySem.Str.ofString "across")
  | 2 => some (PySem.Str.ofString "down")
  | 3 => some (PySem.Str.ofString "quant")
  | 4 => some (PySem.Str.ofString "kind")
  | 5 => some (PySem.Str.ofString "precision")
  | 6 => some (PySem.Str.ofString "height")
  | 7 => some (PySem.Str.ofString "width")
  | 8 => some (PySem.Str.ofString "components")
  | 9 => some (PySem.Str.ofString "n")
  | 10 => some (PySem.Str.ofString "rows")
  | 11 => some (PySem.Str.ofString "many")
  | 12 => some (PySem.Str.ofString "planes")
  | 13 => some (PySem.Str.ofString "most_across")
  | 14 => some (PySem.Str.ofString "most_down")
  | 15 => some (PySem.Str.ofString "sums")
  | 16 => some (PySem.Str.ofString "plane_size")
  | 17 => some (PySem.Str.ofString "mcus_across")
  | 18 => some (PySem.Str.ofString "mcus_down")
  | 19 => some (PySem.Str.ofString "inverse")
  | 20 => some (PySem.Str.ofString "padded")
  | 21 => some (PySem.Str.ofString "blocks")
  | 22 => some (PySem.Str.ofString "get")
  | 23 => some (PySem.Str.ofString "put")
  | _ => Option.none
noncomputable def tAtRank : Nat → Nat
  | 0 => 0
  | 1 => 0
  | 2 => 0
  | 3 => 0
  | 4 => 0
  | 5 => 0
  | 6 => 0
  | 7 => 0
  | 8 => 0
  | 9 => 0
  | 10 => 0
  | 11 => 0
  | 12 => 0
  | 13 => 2
  | 14 => 2
  | 15 => 2
  | 16 => 4
  | 17 => 4
  | 18 => 4
  | 19 => 6
  | 20 => 6
  | 21 => 6
  | 22 => 2
  | 23 => 2
  | _ => 0
noncomputable def tInt : Nat → Option Str
  | 0 => some (PySem.Str.ofString "CONST_BITS")
  | 1 => some (PySem.Str.ofString "PASS_BITS")
  | 2 => some (PySem.Str.ofString "C_0_541")
  | 3 => some (PySem.Str.ofString "C_0_765")
  | 4 => some (PySem.Str.ofString "C_1_847")
  | 5 => some (PySem.Str.ofString "SIDE_dct_islow")
  | 6 => some (PySem.Str.ofString "SCALE_BITS")
  | 7 => some (PySem.Str.ofString "C_0_298")
  | 8 => some (PySem.Str.ofString "C_0_390")
  | 9 => some (PySem.Str.ofString "C_0_899")
  | 10 => some (PySem.Str.ofString "C_1_175")
  | 11 => some (PySem.Str.ofString "C_1_501")
  | 12 => some (PySem.Str.ofString "C_1_961")
  | 13 => some (PySem.Str.ofString "C_2_053")
  | 14 => some (PySem.Str.ofString "C_2_562")
  | 15 => some (PySem.Str.ofString "C_3_072")
  | 16 => some (PySem.Str.ofString "SIDE_dct_small")
  | 17 => some (PySem.Str.ofString "SCALE")
  | _ => Option.none
noncomputable def tTup : Nat → Option Str
  | 0 => some (PySem.Str.ofString "ORDER_8")
  | _ => Option.none
noncomputable def tNames : Nat → List Str
  | 0 => [PySem.Str.ofString "number", PySem.Str.ofString "most"]
  | 1 => [PySem.Str.ofString "many", PySem.Str.ofString "size"]
  | 2 => [PySem.Str.ofString "self", PySem.Str.ofString "ident", PySem.Str.ofString "across", PySem.Str.ofString "down", PySem.Str.ofString "quant"]
  | 3 => [PySem.Str.ofString "self", PySem.Str.ofString "kind", PySem.Str.ofString "precision", PySem.Str.ofString "height", PySem.Str.ofString "width", PySem.Str.ofString "components", PySem.Str.ofString "n"]
  | 4 => [PySem.Str.ofString "self"]
  | 5 => [PySem.Str.ofString "self"]
  | 6 => [PySem.Str.ofString "self", PySem.Str.ofString "width", PySem.Str.ofString "height", PySem.Str.ofString "rows"]
  | 7 => [PySem.Str.ofString "row", PySem.Str.ofString "qtable"]
  | 8 => [PySem.Str.ofString "number", PySem.Str.ofString "bits"]
  | 9 => [PySem.Str.ofString "plain", PySem.Str.ofString "half", PySem.Str.ofString "first", PySem.Str.ofString "third", PySem.Str.ofString "shared", PySem.Str.ofString "outer", PySem.Str.ofString "inner", PySem.Str.ofString "top", PySem.Str.ofString "low"]
  | 10 => [PySem.Str.ofString "block", PySem.Str.ofString "n", PySem.Str.ofString "found", PySem.Str.ofString "place"]
  | 11 => [PySem.Str.ofString "a", PySem.Str.ofString "b", PySem.Str.ofString "c", PySem.Str.ofString "d", PySem.Str.ofString "cross", PySem.Str.ofString "outer", PySem.Str.ofString "inner", PySem.Str.ofString "near", PySem.Str.ofString "far"]
  | 12 => [PySem.Str.ofString "self", PySem.Str.ofString "block", PySem.Str.ofString "a", PySem.Str.ofString "b", PySem.Str.ofString "c", PySem.Str.ofString "d"]
  | 13 => [PySem.Str.ofString "self", PySem.Str.ofString "block"]
  | 14 => [PySem.Str.ofString "n"]
  | 15 => [PySem.Str.ofString "n", PySem.Str.ofString "found", PySem.Str.ofString "total", PySem.Str.ofString "low", PySem.Str.ofString "high", PySem.Str.ofString "rows", PySem.Str.ofString "y"]
  | 16 => [PySem.Str.ofString "n", PySem.Str.ofString "less"]
  | 17 => [PySem.Str.ofString "wanted", PySem.Str.ofString "told"]
  | 18 => [PySem.Str.ofString "self", PySem.Str.ofString "place", PySem.Str.ofString "x", PySem.Str.ofString "y", PySem.Str.ofString "row"]
  | 19 => [PySem.Str.ofString "self", PySem.Str.ofString "place", PySem.Str.ofString "x", PySem.Str.ofString "y", PySem.Str.ofString "row"]
  | 20 => [PySem.Str.ofString "script", PySem.Str.ofString "k", PySem.Str.ofString "cell_one", PySem.Str.ofString "size_one", PySem.Str.ofString "mixed_one"]
  | 21 => [PySem.Str.ofString "source_one", PySem.Str.ofString "top_one", PySem.Str.ofString "digit_one"]
  | 22 => [PySem.Str.ofString "told_frame", PySem.Str.ofString "place_one", PySem.Str.ofString "less_one", PySem.Str.ofString "across_one", PySem.Str.ofString "down_one", PySem.Str.ofString "times_one", PySem.Str.ofString "own_one", PySem.Str.ofString "found_one", PySem.Str.ofString "wanted"]
  | 23 => [PySem.Str.ofString "number_one", PySem.Str.ofString "other_one"]
  | 24 => [PySem.Str.ofString "plane", PySem.Str.ofString "x", PySem.Str.ofString "y", PySem.Str.ofString "block", PySem.Str.ofString "n", PySem.Str.ofString "centre", PySem.Str.ofString "most", PySem.Str.ofString "wide", PySem.Str.ofString "row", PySem.Str.ofString "told", PySem.Str.ofString "place"]
  | 25 => [PySem.Str.ofString "self"]
  | 26 => [PySem.Str.ofString "self"]
  | 27 => [PySem.Str.ofString "self", PySem.Str.ofString "place", PySem.Str.ofString "component", PySem.Str.ofString "width"]
  | 28 => [PySem.Str.ofString "width", PySem.Str.ofString "height", PySem.Str.ofString "value"]
  | 29 => [PySem.Str.ofString "row", PySem.Str.ofString "down", PySem.Str.ofString "tops", PySem.Str.ofString "sums", PySem.Str.ofString "differences", PySem.Str.ofString "three", PySem.Str.ofString "two", PySem.Str.ofString "one", PySem.Str.ofString "zero"]
  | 30 => [PySem.Str.ofString "self", PySem.Str.ofString "block", PySem.Str.ofString "across", PySem.Str.ofString "found", PySem.Str.ofString "at", PySem.Str.ofString "told"]
  | 31 => [PySem.Str.ofString "self", PySem.Str.ofString "block"]
  | 32 => [PySem.Str.ofString "n"]
  | 33 => [PySem.Str.ofString "frame", PySem.Str.ofString "less"]
  | 34 => [PySem.Str.ofString "frame", PySem.Str.ofString "place", PySem.Str.ofString "less", PySem.Str.ofString "component", PySem.Str.ofString "side"]
  | 35 => [PySem.Str.ofString "source_one", PySem.Str.ofString "things_one"]
  | 36 => [PySem.Str.ofString "self", PySem.Str.ofString "place", PySem.Str.ofString "width", PySem.Str.ofString "height"]
  | 37 => [PySem.Str.ofString "self", PySem.Str.ofString "place", PySem.Str.ofString "component"]
  | 38 => [PySem.Str.ofString "self", PySem.Str.ofString "block", PySem.Str.ofString "across", PySem.Str.ofString "found", PySem.Str.ofString "at"]
  | 39 => [PySem.Str.ofString "block", PySem.Str.ofString "n"]
  | 40 => [PySem.Str.ofString "row", PySem.Str.ofString "n", PySem.Str.ofString "found", PySem.Str.ofString "rank", PySem.Str.ofString "place"]
  | 41 => [PySem.Str.ofString "source_one", PySem.Str.ofString "n", PySem.Str.ofString "components_one", PySem.Str.ofString "number_one", PySem.Str.ofString "across_one", PySem.Str.ofString "down_one"]
  | 42 => [PySem.Str.ofString "block", PySem.Str.ofString "n"]
  | 43 => [PySem.Str.ofString "row", PySem.Str.ofString "n", PySem.Str.ofString "less", PySem.Str.ofString "block", PySem.Str.ofString "small", PySem.Str.ofString "y"]
  | 44 => [PySem.Str.ofString "self", PySem.Str.ofString "frame", PySem.Str.ofString "place", PySem.Str.ofString "across", PySem.Str.ofString "down"]
  | 45 => [PySem.Str.ofString "row", PySem.Str.ofString "n", PySem.Str.ofString "less", PySem.Str.ofString "times", PySem.Str.ofString "small", PySem.Str.ofString "told"]
  | 46 => [PySem.Str.ofString "frame", PySem.Str.ofString "grid", PySem.Str.ofString "place", PySem.Str.ofString "qtable", PySem.Str.ofString "side", PySem.Str.ofString "plane", PySem.Str.ofString "y", PySem.Str.ofString "width", PySem.Str.ofString "height", PySem.Str.ofString "across", PySem.Str.ofString "down", PySem.Str.ofString "centre", PySem.Str.ofString "most", PySem.Str.ofString "x", PySem.Str.ofString "row"]
  | 47 => [PySem.Str.ofString "source_one", PySem.Str.ofString "told_frame", PySem.Str.ofString "place_one", PySem.Str.ofString "side_one", PySem.Str.ofString "divisor_one", PySem.Str.ofString "y", PySem.Str.ofString "table_one", PySem.Str.ofString "told_one", PySem.Str.ofString "n", PySem.Str.ofString "told_grid", PySem.Str.ofString "firsts", PySem.Str.ofString "wide_one", PySem.Str.ofString "high_one", PySem.Str.ofString "x", PySem.Str.ofString "worth_one", PySem.Str.ofString "low_one", PySem.Str.ofString "high_two"]
  | 48 => [PySem.Str.ofString "script", PySem.Str.ofString "k", PySem.Str.ofString "source_one", PySem.Str.ofString "told_frame", PySem.Str.ofString "due_one", PySem.Str.ofString "place_one", PySem.Str.ofString "n", PySem.Str.ofString "less_one"]
  | _ => []
noncomputable def G0 : GI := ⟨tFn, tRank, tCls, tClsRank, tAt, tAtRank, tInt, tTup⟩
noncomputable def mNm : Nat → Option (Nat × Str)
  | 2 => some (0, PySem.Str.ofString "__init__")
  | 3 => some (1, PySem.Str.ofString "__init__")
  | 4 => some (1, PySem.Str.ofString "most_across")
  | 5 => some (1, PySem.Str.ofString "most_down")
  | 6 => some (2, PySem.Str.ofString "__init__")
  | 12 => some (5, PySem.Str.ofString "sums")
  | 13 => some (6, PySem.Str.ofString "inverse")
  | 18 => some (7, PySem.Str.ofString "get")
  | 19 => some (7, PySem.Str.ofString "put")
  | 25 => some (1, PySem.Str.ofString "mcus_across")
  | 26 => some (1, PySem.Str.ofString "mcus_down")
  | 27 => some (1, PySem.Str.ofString "plane_size")
  | 30 => some (4, PySem.Str.ofString "inverse")
  | 31 => some (5, PySem.Str.ofString "inverse")
  | 36 => some (1, PySem.Str.ofString "blocks")
  | 37 => some (1, PySem.Str.ofString "padded")
  | 38 => some (3, PySem.Str.ofString "inverse")
  | 44 => some (7, PySem.Str.ofString "__init__")
  | _ => Option.none
end Mine

end
/-! SA -/
section
set_option maxRecDepth 4000
open PySem PySem.W PyProof.Rows
set_option linter.unusedVariables false
namespace Mine

/-- what stays the same throughout -/
structure Cw where
  prog : Program
  w : World
  B : Heap
  mg : Str → Option Value
  mb : Str → Option Value
  K : Frag
  G : GI
  P : Prg
  clsA : Nat → Option Addr
  fnA : Nat → Option Addr
  names : Nat → List Str

noncomputable abbrev Ads := List (List Addr)
noncomputable abbrev Led := List (Addr × Obj)

structure SeqV (T : Led) (x cl : Value) (a : Addr) (o : Obj) (its : Array Value) (n : Nat) (R : Prop) : Prop where
  e : x = .ref a
  m : (a, o) ∈ T
  c : o.cls = cl
  d : o.data = .seq its n
  r : R
structure ConsV {α : Type} (xs : List α) (x : α) (r : List α) (A B : Prop) : Prop where
  e : xs = x :: r
  a : A
  b : B
structure Cons3 {α : Type} (xs : List α) (x : α) (r : List α) (K A B : Prop) : Prop where
  e : xs = x :: r
  k : K
  a : A
  b : B
structure Cons4 {α : Type} (xs : List α) (x : α) (r : List α) (K L A B : Prop) : Prop where
  e : xs = x :: r
  k : K
  l : L
  a : A
  b : B
structure KeyV (T : Led) (a : Addr) (i j : Int) (o : Obj) (its : Array Value) (n : Nat) : Prop where
  m : (a, o) ∈ T
  c : o.cls = .type "tuple"
  d : o.data = .seq its n
  i : IntsAre its.toList [i, j]
mutual
/-- a value of the model stands for one of the small language -/
noncomputable def VR (μ : Ads) (T : Led) : MV → Value → Prop
  | .int i, x => ∃ t, x = .int i t
  | .bool b, x => x = .bool b
  | .none, x => x = .none
  | .str, x => ∃ s t, x = .str s t
  | .tup vs, x => ∃ a o its n, SeqV T x (.type "tuple") a o its n (VRs μ T vs its.toList)
  | .rng a b c, x => ∃ r t u v, x = .ref r ∧ (r, ({ cls := .type "range", dict := none, data := .fields #[.int a t, .int b u, .int c v], slots := #[] } : Obj)) ∈ T
  | .fl is, x => ∃ a o its n, SeqV T x (.type "list") a o its n (IntsAre its.toList is)
  | .ref k, x => ∃ a l, x = .ref a ∧ μ[k]? = some (a :: l)
noncomputable def VRs (μ : Ads) (T : Led) : List MV → List Value → Prop
  | [], xs => xs = []
  | v :: vs, xs => ∃ x r, ConsV xs x r (VR μ T v x) (VRs μ T vs r)
end

theorem pre_get {α : Type} {l l' : List α} (h : l <+: l') {i : Nat} {x : α} (e : l[i]? = some x) : l'[i]? = some x := by
  obtain ⟨t, rfl⟩ := h
  rw [List.getElem?_append_left (List.getElem?_eq_some_iff.mp e).1]; exact e

mutual
theorem VR.mono {μ μ' : Ads} {T T' : Led} (hm : μ <+: μ') (hT : ∀ p ∈ T, p ∈ T') : ∀ {v : MV} {x : Value}, VR μ T v x → VR μ' T' v x
  | .int _, _, h => by unfold VR at h ⊢; exact h
  | .bool _, _, h => by unfold VR at h ⊢; exact h
  | .none, _, h => by unfold VR at h ⊢; exact h
  | .str, _, h => by unfold VR at h ⊢; exact h
  | .tup vs, _, h => by
    unfold VR at h ⊢
    obtain ⟨a, o, its, n, e, m, c, d, r⟩ := h
    exact ⟨a, o, its, n, e, hT _ m, c, d, VRs.mono hm hT r⟩
  | .rng .., _, h => by
    unfold VR at h ⊢
    obtain ⟨r, t, u, v, e, m⟩ := h
    exact ⟨r, t, u, v, e, hT _ m⟩
  | .fl _, _, h => by
    unfold VR at h ⊢
    obtain ⟨a, o, its, n, e, m, c, d, r⟩ := h
    exact ⟨a, o, its, n, e, hT _ m, c, d, r⟩
  | .ref _, _, h => by
    unfold VR at h ⊢
    obtain ⟨a, l, e, m⟩ := h
    exact ⟨a, l, e, pre_get hm m⟩
theorem VRs.mono {μ μ' : Ads} {T T' : Led} (hm : μ <+: μ') (hT : ∀ p ∈ T, p ∈ T') : ∀ {vs : List MV} {xs : List Value}, VRs μ T vs xs → VRs μ' T' vs xs
  | [], _, h => by unfold VRs at h ⊢; exact h
  | v :: vs, _, h => by
    unfold VRs at h ⊢
    obtain ⟨x, r, e, a, b⟩ := h
    exact ⟨x, r, e, VR.mono hm hT a, VRs.mono hm hT b⟩
end

section
variable {μ : Ads} {T : Led}
theorem VRs.nil : VRs μ T [] [] := by rfl
theorem VRs.cons {v : MV} {x : Value} {vs xs} (a : VR μ T v x) (b : VRs μ T vs xs) : VRs μ T (v :: vs) (x :: xs) := by exact ⟨x, xs, rfl, a, b⟩
theorem VRs.len : ∀ {vs : List MV} {xs : List Value}, VRs μ T vs xs → vs.length = xs.length
  | [], _, h => by unfold VRs at h; subst h; rfl
  | v :: vs, _, h => by obtain ⟨x, r, rfl, _, b⟩ := h; simp [VRs.len b]
theorem VRs.get : ∀ {vs : List MV} {xs : List Value} {i : Nat} {v : MV}, VRs μ T vs xs → vs[i]? = some v → ∃ x, xs[i]? = some x ∧ VR μ T v x
  | [], _, _, _, _, e => by simp at e
  | v :: vs, _, i, v', h, e => by
    obtain ⟨x, r, rfl, a, b⟩ := h
    cases i with
    | zero => simp at e; subst e; exact ⟨x, rfl, a⟩
    | succ i => simp at e; simpa using VRs.get b e
theorem VRs.append : ∀ {vs ws : List MV} {xs ys : List Value}, VRs μ T vs xs → VRs μ T ws ys → VRs μ T (vs ++ ws) (xs ++ ys)
  | [], _, _, _, h, g => by unfold VRs at h; subst h; exact g
  | v :: vs, _, _, _, h, g => by obtain ⟨x, r, rfl, a, b⟩ := h; exact VRs.cons a (VRs.append b g)
theorem VRs.take : ∀ {vs : List MV} {xs : List Value} (n : Nat), VRs μ T vs xs → VRs μ T (vs.take n) (xs.take n)
  | [], _, n, h => by unfold VRs at h; subst h; simpa using VRs.nil
  | v :: vs, _, n, h => by
    unfold VRs at h; obtain ⟨x, r, rfl, a, b⟩ := h
    cases n with
    | zero => simpa using VRs.nil
    | succ n => simpa using VRs.cons a (VRs.take n b)
theorem VRs.drop : ∀ {vs : List MV} {xs : List Value} (n : Nat), VRs μ T vs xs → VRs μ T (vs.drop n) (xs.drop n)
  | [], _, n, h => by unfold VRs at h; subst h; simpa using VRs.nil
  | v :: vs, _, n, h => by
    unfold VRs at h; obtain ⟨x, r, rfl, a, b⟩ := h
    cases n with
    | zero => simpa using VRs.cons a b
    | succ n => simpa using VRs.drop n b
theorem VRs.set : ∀ {vs : List MV} {xs : List Value} (n : Nat) {w : MV} {y : Value}, VRs μ T vs xs → VR μ T w y → VRs μ T (vs.set n w) (xs.set n y)
  | [], _, n, _, _, h, g => by unfold VRs at h; subst h; simpa using VRs.nil
  | v :: vs, _, n, _, _, h, g => by
    obtain ⟨x, r, rfl, a, b⟩ := h
    cases n with
    | zero => simpa using VRs.cons g b
    | succ n => simpa using VRs.cons a (VRs.set n b g)
theorem VRs.replicate (n : Nat) {v : MV} {x : Value} (a : VR μ T v x) : VRs μ T (List.replicate n v) (List.replicate n x) := by
  induction n with
  | zero => simpa using VRs.nil
  | succ n ih => simpa [List.replicate_succ] using VRs.cons a ih
theorem VRs.ints : ∀ {is : List Int} {xs : List Value}, VRs μ T (is.map MV.int) xs ↔ IntsAre xs is
  | [], xs => by
    simp only [List.map_nil]; unfold VRs
    constructor
    · rintro rfl; exact .nil
    · intro h; cases h; rfl
  | i :: is, xs => by
    simp only [List.map_cons]; unfold VRs VR
    constructor
    · rintro ⟨x, r, rfl, ⟨t, rfl⟩, b⟩; exact .cons _ _ (VRs.ints.mp b)
    · intro h; cases h with | cons _ _ h => exact ⟨_, _, rfl, ⟨_, rfl⟩, VRs.ints.mpr h⟩
end

/-- the entries of an object's dict -/
noncomputable def AR (G : GI) (μ : Ads) (T : Led) : List (Nat × MV) → List DictEntry → Prop
  | [], es => es = []
  | f :: fs, es => ∃ e r, Cons3 es e r (∃ nm t, G.atN f.1 = some nm ∧ e.key = .str nm t) (VR μ T f.2 e.val) (AR G μ T fs r)
theorem AR.mono {G : GI} {μ μ' : Ads} {T T' : Led} (hm : μ <+: μ') (hT : ∀ p ∈ T, p ∈ T') : ∀ {fs : List (Nat × MV)} {es : List DictEntry}, AR G μ T fs es → AR G μ' T' fs es
  | [], _, h => h
  | f :: fs, _, hz => by obtain ⟨e, r, q, k, v, rest⟩ := hz; exact ⟨e, r, q, k, v.mono hm hT, AR.mono hm hT rest⟩

/-- the entries of a dict keyed by pairs of ints -/
noncomputable def DR (μ : Ads) (T : Led) : List ((Int × Int) × MV) → List (List Int × Addr × Value) → Prop
  | [], xs => xs = []
  | e :: es, xs => ∃ x r, Cons4 xs x r (x.1 = [e.1.1, e.1.2]) (∃ o its n, KeyV T x.2.1 e.1.1 e.1.2 o its n) (VR μ T e.2 x.2.2) (DR μ T es r)
theorem DR.mono {μ μ' : Ads} {T T' : Led} (hm : μ <+: μ') (hT : ∀ p ∈ T, p ∈ T') : ∀ {es : List ((Int × Int) × MV)} {xs : List (List Int × Addr × Value)}, DR μ T es xs → DR μ' T' es xs
  | [], _, h => h
  | e :: es, _, hz => by obtain ⟨x, r, q, k, ⟨o, its, n, m, g1, g2, g3⟩, v, rest⟩ := hz; exact ⟨x, r, q, k, ⟨o, its, n, hT _ m, g1, g2, g3⟩, v.mono hm hT, DR.mono hm hT rest⟩

structure ListO (μ : Ads) (T : Led) (h : Heap) (as : List Addr) (vs : List MV) (a : Addr) (its : Array Value) (n : Nat) : Prop where
  e : as = [a]
  g : h.get? a = some (listOf its n)
  r : VRs μ T vs its.toList
structure InstO (c : Cw) (μ : Ads) (T : Led) (h : Heap) (as : List Addr) (k : Nat) (fs : List (Nat × MV)) (a d : Addr) (es : List DictEntry) (n : Nat) (C : Addr) : Prop where
  e : as = [a, d]
  q : c.clsA k = some C
  g1 : h.get? a = some (instObj C d)
  g2 : h.get? d = some (dictOf es n)
  r : AR c.G μ T fs es
structure DictO (c : Cw) (μ : Ads) (T : Led) (h : Heap) (as : List Addr) (es : List ((Int × Int) × MV)) (a : Addr) (n : Nat) (xs : List (List Int × Addr × Value)) : Prop where
  e : as = [a]
  g : h.get? a = some { cls := .type "dict", data := .dict (xs.map (entryOfKey (tupleKind (intKind c.prog c.w)))).toArray n }
  nd : (xs.map (·.1)).Nodup
  r : DR μ T es xs
/-- an object of the heap stands for one of the small language -/
noncomputable def OR (c : Cw) (μ : Ads) (T : Led) (h : Heap) (as : List Addr) : MO → Prop
  | .list vs => ∃ a its n, ListO μ T h as vs a its n
  | .inst k fs => ∃ a d es n C, InstO c μ T h as k fs a d es n C
  | .dict es => ∃ a n xs, DictO c μ T h as es a n xs

theorem OR.step {c : Cw} {μ μ' : Ads} {T T' : Led} {h h' : Heap} {as : List Addr} (hm : μ <+: μ') (hT : ∀ p ∈ T, p ∈ T') (hk : ∀ a ∈ as, ∀ o, h.get? a = some o → h'.get? a = some o) :
    ∀ {o : MO}, OR c μ T h as o → OR c μ' T' h' as o
  | .list _, hz => by obtain ⟨a, its, n, e, g, r⟩ := hz; exact ⟨a, its, n, e, hk a (by simp [e]) _ g, r.mono hm hT⟩
  | .inst _ _, hz => by obtain ⟨a, d, es, n, C, e, q, g1, g2, r⟩ := hz; exact ⟨a, d, es, n, C, e, q, hk a (by simp [e]) _ g1, hk d (by simp [e]) _ g2, r.mono hm hT⟩
  | .dict _, hz => by obtain ⟨a, n, xs, e, g, nd, r⟩ := hz; exact ⟨a, n, xs, e, hk a (by simp [e]) _ g, nd, r.mono hm hT⟩

/-- the heap of the model stands for the small heap -/
structure Rel (c : Cw) (h : Heap) (μ : Ads) (H : MH) (T X : Led) : Prop where
  keep : ∀ b o, c.B.get? b = some o → h.get? b = some o
  size : c.B.objs.size ≤ h.objs.size
  tl : ∀ p ∈ T, h.get? p.1 = some p.2
  xl : ∀ p ∈ X, h.get? p.1 = some p.2
  len : μ.length = H.length
  obj : ∀ (k : Nat) o as, H[k]? = some o → μ[k]? = some as → OR c μ T h as o
  nd : μ.flatten.Nodup
  tm : ∀ p ∈ T, p.1 ∉ μ.flatten
  xm : ∀ p ∈ X, p.1 ∉ μ.flatten
  tx : ∀ p ∈ T, ∀ q ∈ X, p.1 ≠ q.1
  above : ∀ a ∈ μ.flatten, c.B.objs.size ≤ a
  xabove : ∀ p ∈ X, c.B.objs.size ≤ p.1

noncomputable def Grow (h h' : Heap) : Prop := ∀ b o, h.get? b = some o → h'.get? b = some o
theorem Grow.refl (h : Heap) : Grow h h := fun u1 u2 e => e
theorem Grow.trans {a b d : Heap} (x : Grow a b) (y : Grow b d) : Grow a d := fun p o e => y p o (x p o e)
theorem Grow.push (h : Heap) (o : Obj) : Grow h (h.push o) := fun u1 u2 e => Heap.get?_push_of_some _ e

theorem OR.has {c : Cw} {μ : Ads} {T : Led} {h : Heap} {as : List Addr} : ∀ {o : MO}, OR c μ T h as o → (∀ a ∈ as, ∃ o, h.get? a = some o) ∧ ∃ a l, as = a :: l
  | .list _, hz => by obtain ⟨a, its, n, e, g, r⟩ := hz; exact ⟨by subst e; intro b hb; rw [List.mem_singleton.mp hb]; exact ⟨_, g⟩, a, [], e⟩
  | .inst _ _, hz => by
    obtain ⟨a, d, es, n, C, e, q, g1, g2, r⟩ := hz
    refine ⟨?_, a, [d], e⟩
    subst e; intro b hb
    rcases List.mem_cons.mp hb with rfl | hb
    · exact ⟨_, g1⟩
    · rw [List.mem_singleton.mp hb]; exact ⟨_, g2⟩
  | .dict _, hz => by obtain ⟨a, n, xs, e, g, nd, r⟩ := hz; exact ⟨by subst e; intro b hb; rw [List.mem_singleton.mp hb]; exact ⟨_, g⟩, a, [], e⟩

section
variable {c : Cw} {h h' : Heap} {μ : Ads} {H : MH} {T X X' : Led}

theorem Rel.objAt (R : Rel c h μ H T X) {k : Nat} {o : MO} (e : H[k]? = some o) : ∃ as, μ[k]? = some as ∧ OR c μ T h as o := by
  have hk : k < μ.length := by rw [R.len]; exact (List.getElem?_eq_some_iff.mp e).1
  exact ⟨μ[k], by simp, R.obj k o _ e (by simp)⟩
theorem Rel.has (R : Rel c h μ H T X) {a : Addr} (ha : a ∈ μ.flatten) : ∃ o, h.get? a = some o := by
  obtain ⟨as, hm, hi⟩ := List.mem_flatten.mp ha
  obtain ⟨k, hk, rfl⟩ := List.mem_iff_getElem.mp hm
  have hk' : k < H.length := by rw [← R.len]; exact hk
  exact (R.obj k H[k] μ[k] (by simp) (by simp)).has.1 a hi
theorem Rel.lt (R : Rel c h μ H T X) {a : Addr} (ha : a ∈ μ.flatten) : a < h.objs.size := by
  obtain ⟨o, e⟩ := R.has ha; exact Heap.lt_size e

theorem Rel.sub (R : Rel c h μ H T X) (hs : ∀ p ∈ X', p ∈ X) : Rel c h μ H T X' :=
  ⟨R.keep, R.size, R.tl, fun p hp => R.xl p (hs p hp), R.len, R.obj, R.nd, R.tm, fun p hp => R.xm p (hs p hp), fun p hp q hq => R.tx p hp q (hs q hq), R.above, fun p hp => R.xabove p (hs p hp)⟩

/-- the heap has grown by what is not told -/
theorem Rel.grow (R : Rel c h μ H T X) (hg : Grow h h') (hs : c.B.objs.size ≤ h'.objs.size) : Rel c h' μ H T X :=
  ⟨fun b o e => hg b o (R.keep b o e), hs, fun p hp => hg _ _ (R.tl p hp), fun p hp => hg _ _ (R.xl p hp), R.len,
    fun k o as e1 e2 => (R.obj k o as e1 e2).step (List.prefix_refl _) (fun u1 x => x) fun a u1 o' g => hg a o' g, R.nd, R.tm, R.xm, R.tx, R.above, R.xabove⟩
theorem Rel.push (R : Rel c h μ H T X) (o : Obj) : Rel c (h.push o) μ H T X := R.grow (Grow.push h o) (by rw [Heap.size_push]; exact Nat.le_succ_of_le R.size)

/-- a thing that stays is told -/
theorem Rel.addT (R : Rel c h μ H T X) {a : Addr} {o : Obj} (ho : h.get? a = some o) (hm : a ∉ μ.flatten) (hx : ∀ q ∈ X, a ≠ q.1) : Rel c h μ H ((a, o) :: T) X :=
  ⟨R.keep, R.size, fun p hp => by rcases List.mem_cons.mp hp with rfl | hp; exact ho; exact R.tl p hp, R.xl, R.len,
    fun k o as e1 e2 => (R.obj k o as e1 e2).step (List.prefix_refl _) (fun u1 x => .tail _ x) fun a u1 o' g => g, R.nd,
    fun p hp => by rcases List.mem_cons.mp hp with rfl | hp; exact hm; exact R.tm p hp, R.xm,
    fun p hp q hq => by rcases List.mem_cons.mp hp with rfl | hp; exact hx q hq; exact R.tx p hp q hq, R.above, R.xabove⟩
theorem Rel.addX (R : Rel c h μ H T X) {a : Addr} {o : Obj} (ho : h.get? a = some o) (hm : a ∉ μ.flatten) (ht : ∀ q ∈ T, q.1 ≠ a) (ha : c.B.objs.size ≤ a) : Rel c h μ H T ((a, o) :: X) :=
  ⟨R.keep, R.size, R.tl, fun p hp => by rcases List.mem_cons.mp hp with rfl | hp; exact ho; exact R.xl p hp, R.len, R.obj, R.nd, R.tm,
    fun p hp => by rcases List.mem_cons.mp hp with rfl | hp; exact hm; exact R.xm p hp,
    fun p hp q hq => by rcases List.mem_cons.mp hq with rfl | hq; exact ht p hp; exact R.tx p hp q hq, R.above,
    fun p hp => by rcases List.mem_cons.mp hp with rfl | hp; exact ha; exact R.xabove p hp⟩

/-- an object of the call's own frame is changed -/
theorem Rel.setX (R : Rel c h μ H T X) {d : Addr} {o o' : Obj} (hd : (d, o) ∈ X) (hs : Heap.SameBut d h h') (ho : h'.get? d = some o') :
    Rel c h' μ H T (X.map fun p => if p.1 = d then (d, o') else p) :=
  have key : ∀ p ∈ X.map (fun p => if p.1 = d then (d, o') else p), p = (d, o') ∨ (p ∈ X ∧ p.1 ≠ d) := fun p hp => by
    obtain ⟨q, hq, rfl⟩ := List.mem_map.mp hp
    by_cases e : q.1 = d
    · simp [e]
    · simp only [if_neg e]; exact .inr ⟨hq, e⟩
  have hB := R.xabove _ hd
  ⟨fun b o e => (hs.2 b (Nat.ne_of_lt (Nat.lt_of_lt_of_le (Heap.lt_size e) hB))).trans (R.keep b o e), by rw [hs.1]; exact R.size,
    fun p hp => (hs.2 _ (R.tx p hp _ hd)).trans (R.tl p hp),
    fun p hp => by rcases key p hp with rfl | ⟨hp, hne⟩; exact ho; exact (hs.2 _ hne).trans (R.xl p hp), R.len,
    fun k o as e1 e2 => (R.obj k o as e1 e2).step (List.prefix_refl _) (fun u1 x => x) fun a ha o' g => (hs.2 a (fun e => R.xm _ hd (by rw [← e]; exact List.mem_flatten.mpr ⟨as, List.mem_of_getElem? e2, ha⟩))).trans g,
    R.nd, R.tm, fun p hp => by rcases key p hp with rfl | ⟨hp, hne⟩; exact R.xm (d, o) hd; exact R.xm p hp,
    fun p hp q hq => by rcases key q hq with rfl | ⟨hq, hne⟩; exact R.tx p hp (d, o) hd; exact R.tx p hp q hq, R.above,
    fun p hp => by rcases key p hp with rfl | ⟨hp, hne⟩; exact hB; exact R.xabove p hp⟩

theorem flat_get {μ : Ads} (hn : μ.flatten.Nodup) {j k : Nat} {as bs : List Addr} (hj : μ[j]? = some as) (hk : μ[k]? = some bs) {a : Addr} (ha : a ∈ as) (hb : a ∈ bs) : j = k := by
  induction μ generalizing j k with
  | nil => simp at hj
  | cons x μ ih =>
    rw [List.flatten_cons, List.nodup_append] at hn
    obtain ⟨_, h2, h3⟩ := hn
    cases j with
    | zero =>
      simp at hj; subst hj
      cases k with
      | zero => rfl
      | succ k => simp at hk; exact absurd rfl (h3 a ha a (List.mem_flatten.mpr ⟨bs, List.mem_of_getElem? hk, hb⟩))
    | succ j =>
      simp at hj
      cases k with
      | zero => simp at hk; subst hk; exact absurd rfl (h3 a hb a (List.mem_flatten.mpr ⟨as, List.mem_of_getElem? hj, ha⟩))
      | succ k => simp at hk; rw [ih h2 hj hk]

/-- an object of the small heap is changed -/
theorem Rel.setH (R : Rel c h μ H T X) {k : Nat} {as : List Addr} {d : Addr} {o : MO} (hk : μ[k]? = some as) (hd : d ∈ as) (hs : Heap.SameBut d h h') (ho : OR c μ T h' as o) :
    Rel c h' μ (H.set k o) T X :=
  have hf : d ∈ μ.flatten := List.mem_flatten.mpr ⟨as, List.mem_of_getElem? hk, hd⟩
  have hB := R.above _ hf
  ⟨fun b o e => (hs.2 b (Nat.ne_of_lt (Nat.lt_of_lt_of_le (Heap.lt_size e) hB))).trans (R.keep b o e), by rw [hs.1]; exact R.size,
    fun p hp => (hs.2 p.1 (fun e => R.tm p hp (by rw [e]; exact hf))).trans (R.tl p hp),
    fun p hp => (hs.2 p.1 (fun e => R.xm p hp (by rw [e]; exact hf))).trans (R.xl p hp), by rw [List.length_set]; exact R.len,
    fun j oj bs e1 e2 => by
      by_cases hjk : j = k
      · subst hjk
        rw [hk] at e2; cases e2
        have hlt : j < H.length := by rw [← R.len]; exact (List.getElem?_eq_some_iff.mp hk).1
        rw [List.getElem?_set_self hlt] at e1; cases e1
        exact ho
      · rw [List.getElem?_set_ne (Ne.symm hjk)] at e1
        exact (R.obj j oj bs e1 e2).step (List.prefix_refl _) (fun u1 x => x) fun a ha o' g => (hs.2 a (fun e => hjk (flat_get R.nd e2 hk ha (e ▸ hd)))).trans g,
    R.nd, R.tm, R.xm, R.tx, R.above, R.xabove⟩

/-- a new object of the small heap -/
theorem Rel.addH (R : Rel c h μ H T X) {as : List Addr} {o : MO} (ho : OR c (μ ++ [as]) T h as o) (hn : as.Nodup) (hm : ∀ a ∈ as, a ∉ μ.flatten) (ht : ∀ a ∈ as, ∀ p ∈ T, p.1 ≠ a) (hx : ∀ a ∈ as, ∀ p ∈ X, p.1 ≠ a)
    (hB : ∀ a ∈ as, c.B.objs.size ≤ a) : Rel c h (μ ++ [as]) (H ++ [o]) T X :=
  ⟨R.keep, R.size, R.tl, R.xl, by simp [R.len], fun j oj bs e1 e2 => by
      by_cases hj : j < H.length
      · rw [List.getElem?_append_left hj] at e1
        rw [List.getElem?_append_left (by rw [R.len]; exact hj)] at e2
        exact (R.obj j oj bs e1 e2).step (List.prefix_append _ _) (fun u1 x => x) fun a u1 o' g => g
      · have hj' : H.length ≤ j := Nat.le_of_not_lt hj
        rw [List.getElem?_append_right hj'] at e1
        rw [List.getElem?_append_right (by rw [R.len]; exact hj'), R.len] at e2
        generalize j - H.length = i at e1 e2
        cases i with
        | zero => simp at e1 e2; subst e1; subst e2; exact ho
        | succ i => simp at e1,
    by
      rw [List.flatten_append, List.nodup_append]
      refine ⟨R.nd, by simpa using hn, fun a ha b hb e => ?_⟩
      simp at hb; subst e; exact hm a hb ha,
    fun p hp hmem => by
      rw [List.flatten_append, List.mem_append] at hmem
      rcases hmem with hmem | hmem
      · exact R.tm p hp hmem
      · simp at hmem; exact ht _ hmem p hp rfl,
    fun p hp hmem => by
      rw [List.flatten_append, List.mem_append] at hmem
      rcases hmem with hmem | hmem
      · exact R.xm p hp hmem
      · simp at hmem; exact hx _ hmem p hp rfl,
    R.tx, fun a ha => by
      rw [List.flatten_append, List.mem_append] at ha
      rcases ha with ha | ha
      · exact R.above a ha
      · simp at ha; exact hB a ha, R.xabove⟩

theorem Rel.fresh (R : Rel c h μ H T X) {a : Addr} (ha : h.objs.size ≤ a) : a ∉ μ.flatten ∧ (∀ p ∈ T, p.1 ≠ a) ∧ (∀ p ∈ X, p.1 ≠ a) ∧ c.B.objs.size ≤ a :=
  ⟨fun e => Nat.lt_irrefl _ (Nat.lt_of_lt_of_le (R.lt e) ha), fun p hp e => Nat.lt_irrefl _ (Nat.lt_of_lt_of_le (Heap.lt_size (R.tl p hp)) (e ▸ ha)),
    fun p hp e => Nat.lt_irrefl _ (Nat.lt_of_lt_of_le (Heap.lt_size (R.xl p hp)) (e ▸ ha)), Nat.le_trans R.size ha⟩
end
end Mine

end
/-! SB -/
section
open PySem PySem.W PyProof.Rows
set_option linter.unusedVariables false
set_option maxRecDepth 20000
namespace Mine

/-- the room that a block of rank r asks -/
structure AOk (A : Around) (r : Nat) : Prop where
  h : A.handled = none
  d : A.depth + 10 * r + 20 ≤ 900
  u : A.units + 100 * r + 200 ≤ 9000
theorem AOk.cl {A : Around} {r : Nat} (a : AOk A r) : A.units + 64 < cLine := by have := a.u; simp only [cLine]; lia

structure LocW (C : Cx) (env : Env) (l : Loc) (μ : Ads) (T X : Led) (oL : Obj) (es : Array DictEntry) (ep : Nat) : Prop where
  m : (env.locals, oL) ∈ X
  d : oL.data = .dict es ep
  s : StrKeys es
  g : ∀ (i : Nat) v x, getL l i = some v → C.names[i]? = some x → C.kinds.lookup x = some .local → ∃ val, nsFind es x = some val ∧ VR μ T v val
structure CellW (env : Env) (l : Loc) (μ : Ads) (T X : Led) (i : Nat) (x : Str) (a : Addr) (o : Obj) (cv : Option Value) : Prop where
  e : env.cells.lookup x = some a
  m : (a, o) ∈ X
  d : o.data = .cell cv
  g : ∀ v, getL l i = some v → ∃ val, cv = some val ∧ VR μ T v val
/-- the frame: the block's names stand for the small locals -/
structure FR (C : Cx) (env : Env) (l : Loc) (μ : Ads) (T X : Led) : Prop where
  fk : env.scope.kind = .function
  kinds : env.scope.names = C.kinds
  gl : env.globals = mainGlobals
  bl : env.builtins = builtinsNs
  len : l.length = C.names.length
  nd : C.names.Nodup
  loc : ∃ oL es ep, LocW C env l μ T X oL es ep
  cell : ∀ (i : Nat) x, C.names[i]? = some x → C.kinds.lookup x = some .cell ∨ C.kinds.lookup x = some .free → ∃ a o cv, CellW env l μ T X i x a o cv
  apart : ∀ x y a, env.cells.lookup x = some a → env.cells.lookup y = some a → x = y

theorem FR.mono {C : Cx} {env : Env} {l : Loc} {μ μ' : Ads} {T T' X : Led} (hm : μ <+: μ') (hT : ∀ p ∈ T, p ∈ T') (F : FR C env l μ T X) : FR C env l μ' T' X :=
  ⟨F.fk, F.kinds, F.gl, F.bl, F.len, F.nd, let ⟨oL, es, ep, a, b, d, k⟩ := F.loc; ⟨oL, es, ep, a, b, d, fun i v x e1 e2 e3 => let ⟨val, p, q⟩ := k i v x e1 e2 e3; ⟨val, p, q.mono hm hT⟩⟩,
    fun i x e1 e2 => let ⟨a, o, cv, p, q, r, k⟩ := F.cell i x e1 e2; ⟨a, o, cv, p, q, r, fun v e => let ⟨val, u, z⟩ := k v e; ⟨val, u, z.mono hm hT⟩⟩, F.apart⟩

/-- nothing but heap and tokens has moved -/
structure Stp (s s' : Shared) : Prop where
  gens : s'.gens = s.gens
  drawn : s'.drawn = s.drawn
  os : s'.os = s.os
theorem Stp.refl (s : Shared) : Stp s s := ⟨rfl, rfl, rfl⟩
theorem Stp.trans {a b d : Shared} (x : Stp a b) (y : Stp b d) : Stp a d := ⟨y.gens.trans x.gens, y.drawn.trans x.drawn, y.os.trans x.os⟩
theorem Stp.of (s : Shared) (h : Heap) (t : Nat) : Stp s { s with heap := h, toks := t } := ⟨rfl, rfl, rfl⟩

structure Pre (c : Cw) (C : Cx) (A : Around) (env : Env) (l : Loc) (h : Heap) (μ : Ads) (H : MH) (T X : Led) : Prop where
  a : AOk A C.rank
  r : Rel c h μ H T X
  f : FR C env l μ T X

structure Aft (c : Cw) (h' : Heap) (μ : Ads) (T : Led) (μ' : Ads) (H' : MH) (T' X : Led) : Prop where
  r : Rel c h' μ' H' T' X
  m : μ <+: μ'
  t : ∀ p ∈ T, p ∈ T'

theorem Pre.aft {c : Cw} {C : Cx} {A : Around} {env : Env} {l : Loc} {h h' : Heap} {μ μ' : Ads} {H H' : MH} {T T' X : Led} (p : Pre c C A env l h μ H T X) (q : Aft c h' μ T μ' H' T' X) : Pre c C A env l h' μ' H' T' X :=
  ⟨p.a, q.r, p.f.mono q.m q.t⟩
theorem Aft.trans {c : Cw} {h1 h2 : Heap} {μ μ1 μ2 : Ads} {T T1 T2 X : Led} {H1 H2 : MH} (x : Aft c h1 μ T μ1 H1 T1 X) (y : Aft c h2 μ1 T1 μ2 H2 T2 X) : Aft c h2 μ T μ2 H2 T2 X :=
  ⟨y.r, x.m.trans y.m, fun p hp => y.t p (x.t p hp)⟩
theorem Aft.same {c : Cw} {h' : Heap} {μ : Ads} {T X : Led} {H : MH} (r : Rel c h' μ H T X) : Aft c h' μ T μ H T X := ⟨r, List.prefix_refl _, fun u1 h => h⟩

noncomputable abbrev Km (c : Cw) := model c.prog c.w

noncomputable def MeE (c : Cw) (l : Loc) (H : MH) (e : ME) (v : MV) (H' : MH) : Prop :=
  ∀ (C : Cx) (pe : Expr), mE c.G C e pe = true → ∀ (A : Around) (env : Env) (s : Shared) (μ : Ads) (T X : Led) (Q : Value → Shared → Prop) (E : Value → Shared → Prop),
    Pre c C A env l s.heap μ H T X → (∀ s' μ' T' x, Stp s s' → Aft c s'.heap μ T μ' H' T' X → VR μ' T' v x → Q x s') → wpAny (Km c) A (eval pe env) Q E s
noncomputable def MeEs (c : Cw) (l : Loc) (H : MH) (es : List ME) (vs : List MV) (H' : MH) : Prop :=
  ∀ (C : Cx) (ps : List Expr), mEs c.G C es ps = true → ∀ (pos : Pos) (A : Around) (env : Env) (s : Shared) (μ : Ads) (T X : Led) (Q : List Value → Shared → Prop) (E : Value → Shared → Prop),
    Pre c C A env l s.heap μ H T X → (∀ s' μ' T' xs, Stp s s' → Aft c s'.heap μ T μ' H' T' X → VRs μ' T' vs xs → Q xs s') → wpAny (Km c) A (spliced (backTo pos (starEach ps env))) Q E s
noncomputable def MeB (c : Cw) (l : Loc) (H : MH) (e : ME) (b : Bool) (H' : MH) : Prop :=
  ∀ (C : Cx) (pe : Expr), mE c.G C e pe = true → ∀ (A : Around) (env : Env) (s : Shared) (μ : Ads) (T X : Led) (Q : Bool → Shared → Prop) (E : Value → Shared → Prop),
    Pre c C A env l s.heap μ H T X → (∀ s' μ' T', Stp s s' → Aft c s'.heap μ T μ' H' T' X → Q b s') → wpAny (Km c) A (isTrue pe env (eval pe env)) Q E s
noncomputable def MeAll (c : Cw) (conj : Bool) (l : Loc) (H : MH) (es : List ME) (b : Bool) (H' : MH) : Prop :=
  ∀ (C : Cx) (ps : List Expr), mEs c.G C es ps = true → ∀ (A : Around) (env : Env) (s : Shared) (μ : Ads) (T X : Led) (Q : Bool → Shared → Prop) (E : Value → Shared → Prop),
    Pre c C A env l s.heap μ H T X → (∀ s' μ' T', Stp s s' → Aft c s'.heap μ T μ' H' T' X → Q b s') → wpAny (Km c) A (allTrue (if conj then .And else .Or) ps env) Q E s

/-- what the top tells -/
structure Cw.Ok (c : Cw) : Prop where
  KX : c.K.In c.B
  g : c.B.Ns mainGlobals c.mg
  b : c.B.Ns builtinsNs c.mb
  lim : c.B.NoLimit
  int : ∀ g i x, c.P.gint g = some i → c.G.intN g = some x → ∃ t, c.mg x = some (.int i t)

section
variable {c : Cw} {l : Loc} {H H1 H2 H3 : MH}

/-! ### atoms -/
theorem E_int {i : Int} : MeE c l H (.int i) (.int i) H := by
  intro C pe hm; refine v_int (pe := pe) hm fun n q => ?_; intro A env s μ T X Q E P k
  exact wpAny_Constant_int (k _ μ T _ (Stp.of s _ _) (.same P.r) (by exact ⟨_, rfl⟩))
theorem E_bool {b : Bool} : MeE c l H (.bool b) (.bool b) H := by
  intro C pe hm; refine v_bool (pe := pe) hm fun n q => ?_; intro A env s μ T X Q E P k
  exact wpAny_pure (k _ μ T _ (Stp.refl s) (.same P.r) (by rfl))
theorem E_none : MeE c l H .none .none H := by
  intro C pe hm; refine v_none (pe := pe) hm fun n q => ?_; intro A env s μ T X Q E P k
  exact wpAny_pure (k _ μ T _ (Stp.refl s) (.same P.r) (by rfl))
theorem E_str : MeE c l H .str .str H := by
  intro C pe hm; refine v_str (pe := pe) hm fun x n q => ?_; intro A env s μ T X Q E P k
  exact Calls.Constant_str (k _ μ T _ (Stp.of s _ _) (.same P.r) (by exact ⟨_, _, rfl⟩))

theorem isOwn_or {o : Option NameKind} (h : isOwn o = true) : o = some .local ∨ o = some .cell ∨ o = some .free := by
  cases o with
  | none => exact noF h
  | some k => cases k <;> first | exact .inl rfl | exact .inr (.inl rfl) | exact .inr (.inr rfl) | exact noF h
theorem own_parts {C : Cx} {i : Nat} {x : Str} (h : C.own i x = true) : C.names[i]? = some x ∧ (C.kinds.lookup x = some .local ∨ C.kinds.lookup x = some .cell ∨ C.kinds.lookup x = some .free) ∧ (x == ("__debug__" : Str)) = false ∧ (x == ("__classdict__" : Str)) = false :=
  have h1 := andT h; have h2 := andT h1.1; have h3 := andT h1.2
  ⟨eq_of_beq h2.1, isOwn_or h2.2, notT h3.1, notT h3.2⟩
theorem glob_parts {C : Cx} {x : Str} (h : C.glob x = true) : C.kinds.lookup x = some .globalImplicit ∧ (x == ("__debug__" : Str)) = false :=
  have h1 := andT h
  ⟨eq_of_beq h1.1, notT (andT h1.2).1⟩

theorem E_loc {i : Nat} {v : MV} (hv : getL l i = some v) : MeE c l H (.loc i) v H := by
  intro C pe hm; refine v_loc (pe := pe) hm fun x q hm => ?_; intro A env s μ T X Q E P k
  obtain ⟨h1, h2, h3, h4⟩ := own_parts hm
  have hk : env.kindOf x = C.kinds.lookup x := by unfold Env.kindOf; rw [P.f.kinds]
  refine wpAny_Name ?_ h3
  rcases h2 with h2 | h2
  · obtain ⟨oL, es, ep, hX, hd, hs, hl⟩ := P.f.loc
    obtain ⟨val, e, r⟩ := hl i v x hv h1 h2
    exact wpAny_loadName_local P.f.fk (hk.trans h2) ⟨oL, es, ep, P.r.xl _ hX, hd, hs, fun u1 => rfl⟩ e (k _ μ T _ (Stp.refl s) (.same P.r) r)
  · obtain ⟨a, o, cv, e1, hX, hd, hl⟩ := P.f.cell i x h1 h2
    obtain ⟨val, rfl, r⟩ := hl v hv
    rcases h2 with h2 | h2
    · exact wpAny_loadName_cell P.f.fk (hk.trans h2) e1 ⟨o, P.r.xl _ hX, hd⟩ (k _ μ T _ (Stp.refl s) (.same P.r) r)
    · exact wpAny_loadName_free P.f.fk (hk.trans h2) e1 ⟨o, P.r.xl _ hX, hd⟩ (k _ μ T _ (Stp.refl s) (.same P.r) r) h4

/-- a global name -/
theorem glob_name {C : Cx} {A : Around} {env : Env} {s : Shared} {μ : Ads} {T X : Led} {x : Str} {p : Pos} {v : Value} {Q : Value → Shared → Prop} {E : Value → Shared → Prop} (ok : c.Ok) (P : Pre c C A env l s.heap μ H T X)
    (hx : C.glob x = true) (hv : c.mg x = some v) (h : Q v s) : wpAny (Km c) A (eval (.Name x p) env) Q E s := by
  obtain ⟨h1, h2⟩ := glob_parts hx
  refine Calls.Name_function_global P.f.fk (by unfold Env.kindOf; rw [P.f.kinds]; exact h1) (Calls.loadGlobal_global (mg := c.mg) ?_ hv h) h2
  rw [P.f.gl]; exact ok.g.keeps P.r.keep
theorem glob_builtin {C : Cx} {A : Around} {env : Env} {s : Shared} {μ : Ads} {T X : Led} {x : Str} {p : Pos} {v : Value} {Q : Value → Shared → Prop} {E : Value → Shared → Prop} (ok : c.Ok) (P : Pre c C A env l s.heap μ H T X)
    (hx : C.glob x = true) (hn : c.mg x = none) (hv : c.mb x = some v) (h : Q v s) : wpAny (Km c) A (eval (.Name x p) env) Q E s := by
  obtain ⟨h1, h2⟩ := glob_parts hx
  refine Calls.Name_function_global P.f.fk (by unfold Env.kindOf; rw [P.f.kinds]; exact h1) (Calls.loadGlobal_builtin (mg := c.mg) (mb := c.mb) ?_ hn ?_ hv h) h2
  · rw [P.f.gl]; exact ok.g.keeps P.r.keep
  · rw [P.f.bl]; exact ok.b.keeps P.r.keep

theorem E_gint (ok : c.Ok) {g : Nat} {i : Int} (hg : c.P.gint g = some i) : MeE c l H (.gint g) (.int i) H := by
  intro C pe hm; refine v_gint (pe := pe) hm fun x q hx hm => ?_; intro A env s μ T X Q E P k
  obtain ⟨t, e⟩ := ok.int g i x hg hx
  exact glob_name ok P hm e (k _ μ T _ (Stp.refl s) (.same P.r) (by exact ⟨_, rfl⟩))

/-! ### two operands -/
theorem behind_false {G : GI} {C : Cx} {b : ME} {r : Expr} (op : CmpOp) (h : mE G C b r = true) : behindInMarks op r = false := by
  cases r <;> first | exact rfl | exact (noSet h).elim

theorem iter_plain {G : GI} {C : Cx} {b : ME} {r : Expr} {env : Env} {x : Value} (h : mE G C b r = true) : foldedSetIterable r env x = pure x := by
  cases r <;> first | exact rfl | exact (noSet h).elim

/-- what an operator does in the model -/
noncomputable def BinOk (c : Cw) (H : MH) (o : Bop) (x y v : MV) (H' : MH) : Prop :=
  ∀ (A : Around) (s : Shared) (μ : Ads) (T X : Led) (p q : Value) (Q : Value → Shared → Prop) (E : Value → Shared → Prop), A.handled = none → A.units + 64 < cLine → Rel c s.heap μ H T X → VR μ T x p → VR μ T y q →
    (∀ s' μ' T' z, Stp s s' → Aft c s'.heap μ T μ' H' T' X → VR μ' T' v z → Q z s') → wpAny (Km c) A (binaryOp o.op p q) Q E s
noncomputable def CmpOk (c : Cw) (H : MH) (o : Cop) (x y : MV) (r : Bool) : Prop :=
  ∀ (A : Around) (s : Shared) (μ : Ads) (T X : Led) (p q : Value) (Q : Value → Shared → Prop) (E : Value → Shared → Prop), A.handled = none → A.units + 64 < cLine → Rel c s.heap μ H T X → VR μ T x p → VR μ T y q →
    (∀ s', Stp s s' → Rel c s'.heap μ H T X → Q (.bool r) s') → wpAny (Km c) A (compareOp o.op p q) Q E s

theorem E_bin {o : Bop} {a b : ME} {x y v : MV} (h1 : MeE c l H a x H1) (h2 : MeE c l H1 b y H2) (h3 : BinOk c H2 o x y v H3) : MeE c l H (.bin o a b) v H3 := by
  intro C pe hm; refine v_bin (pe := pe) hm fun l r q m1 m2 => ?_; intro A env s μ T X Q E P k
  refine wpAny_BinOp (h1 C _ m1 A env s μ T X _ _ P fun s1 μ1 T1 p st1 a1 v1 => ?_)
  refine h2 C _ m2 A env s1 μ1 T1 X _ _ (P.aft a1) fun s2 μ2 T2 q st2 a2 v2 => ?_
  refine h3 A s2 μ2 T2 X p q _ _ P.a.h P.a.cl a2.r (v1.mono a2.m a2.t) v2 fun s3 μ3 T3 z st3 a3 v3 => ?_
  exact k s3 μ3 T3 z ((st1.trans st2).trans st3) ((a1.trans a2).trans a3) v3
theorem E_neg {a : ME} {x : Int} (h1 : MeE c l H a (.int x) H1) : MeE c l H (.neg a) (.int (-x)) H1 := by
  intro C pe hm; refine v_neg (pe := pe) hm fun x q hm => ?_; intro A env s μ T X Q E P k
  refine wpAny_UnaryOp (h1 C _ hm A env s μ T X _ _ P fun s1 μ1 T1 p st1 a1 v1 => ?_)
  obtain ⟨t, rfl⟩ := v1
  exact neg_int (k _ μ1 T1 _ (st1.trans (Stp.of _ _ _)) ⟨a1.r, a1.m, a1.t⟩ (by exact ⟨_, rfl⟩))
theorem E_cmp {o : Cop} {a b : ME} {x y : MV} {r : Bool} (h1 : MeE c l H a x H1) (h2 : MeE c l H1 b y H2) (h3 : CmpOk c H2 o x y r) : MeE c l H (.cmp o a b) (.bool r) H2 := by
  intro C pe hm; refine v_cmp (pe := pe) hm fun l r q m1 m2 => ?_; intro A env s μ T X Q E P k
  refine wpAny_Compare1 (h1 C _ m1 A env s μ T X _ _ P fun s1 μ1 T1 p st1 a1 v1 => ?_) (behind_false _ m2)
  refine h2 C _ m2 A env s1 μ1 T1 X _ _ (P.aft a1) fun s2 μ2 T2 q st2 a2 v2 => ?_
  refine h3 A s2 μ2 T2 X p q _ _ P.a.h P.a.cl a2.r (v1.mono a2.m a2.t) v2 fun s3 st3 r3 => ?_
  exact k s3 μ2 T2 _ ((st1.trans st2).trans st3) ⟨r3, (a1.trans a2).m, (a1.trans a2).t⟩ (by rfl)
theorem B_cmp {o : Cop} {a b : ME} {x y : MV} {r : Bool} (h1 : MeE c l H a x H1) (h2 : MeE c l H1 b y H2) (h3 : CmpOk c H2 o x y r) : MeB c l H (.cmp o a b) r H2 := by
  intro C pe hm; refine v_cmp (pe := pe) hm fun l r q m1 m2 => ?_; intro A env s μ T X Q E P k
  refine wpAny_isTrue_Compare1 (h1 C _ m1 A env s μ T X _ _ P fun s1 μ1 T1 p st1 a1 v1 => ?_) (behind_false _ m2)
  refine h2 C _ m2 A env s1 μ1 T1 X _ _ (P.aft a1) fun s2 μ2 T2 q st2 a2 v2 => ?_
  refine h3 A s2 μ2 T2 X p q _ _ P.a.h P.a.cl a2.r (v1.mono a2.m a2.t) v2 fun s3 st3 r3 => ?_
  exact wpAny_truthy_bool (k s3 μ2 T2 ((st1.trans st2).trans st3) ⟨r3, (a1.trans a2).m, (a1.trans a2).t⟩)

/-! ### conditional expressions, tests -/
theorem E_iteT {t a b : ME} {v : MV} (h1 : MeB c l H t true H1) (h2 : MeE c l H1 a v H2) : MeE c l H (.ite t a b) v H2 := by
  intro C pe hm; refine v_ite (pe := pe) hm fun t x y q m1 m2 m3 => ?_; intro A env s μ T X Q E P k
  refine wpAny_IfExp (h1 C _ m1 A env s μ T X _ _ P fun s1 μ1 T1 st1 a1 => ?_)
  exact h2 C _ m2 A env s1 μ1 T1 X _ _ (P.aft a1) fun s2 μ2 T2 q st2 a2 v2 => k s2 μ2 T2 q (st1.trans st2) (a1.trans a2) v2
theorem E_iteF {t a b : ME} {v : MV} (h1 : MeB c l H t false H1) (h2 : MeE c l H1 b v H2) : MeE c l H (.ite t a b) v H2 := by
  intro C pe hm; refine v_ite (pe := pe) hm fun t x y q m1 m2 m3 => ?_; intro A env s μ T X Q E P k
  refine wpAny_IfExp (h1 C _ m1 A env s μ T X _ _ P fun s1 μ1 T1 st1 a1 => ?_)
  exact h2 C _ m3 A env s1 μ1 T1 X _ _ (P.aft a1) fun s2 μ2 T2 q st2 a2 v2 => k s2 μ2 T2 q (st1.trans st2) (a1.trans a2) v2
theorem B_not {a : ME} {r : Bool} (h1 : MeB c l H a r H1) : MeB c l H (.not a) (!r) H1 := by
  intro C pe hm; refine v_not (pe := pe) hm fun x q hm => ?_; intro A env s μ T X Q E P k
  exact wpAny_isTrue_Not (h1 C _ hm A env s μ T X _ _ P fun s1 μ1 T1 st1 a1 => k s1 μ1 T1 st1 a1)
theorem B_and {es : List ME} {r : Bool} (h1 : MeAll c true l H es r H1) : MeB c l H (.and es) r H1 := by
  intro C pe hm; refine v_and (pe := pe) hm fun xs q hm => ?_; intro A env s μ T X Q E P k
  exact h1 C _ hm A env s μ T X _ _ P k
theorem B_or {es : List ME} {r : Bool} (h1 : MeAll c false l H es r H1) : MeB c l H (.or es) r H1 := by
  intro C pe hm; refine v_or (pe := pe) hm fun xs q hm => ?_; intro A env s μ T X Q E P k
  exact h1 C _ hm A env s μ T X _ _ P k
theorem All_nil {cj : Bool} : MeAll c cj l H [] cj H := by
  intro C ps hm; refine v_nil (ps := ps) hm ?_; intro A env s μ T X Q E P k
  cases cj
  · exact wpAny_pure (k s μ T (Stp.refl s) (.same P.r))
  · exact wpAny_pure (k s μ T (Stp.refl s) (.same P.r))
theorem allTrue_cons (op : BoolOp) (x : Expr) (rest : List Expr) (env : Env) : allTrue op (x :: rest) env = (do
    match op, ← isTrue x env (eval x env) with
    | .And, false => pure false
    | .Or, true => pure true
    | _, _ => allTrue op rest env) := rfl
theorem All_stop {cj : Bool} {e : ME} {es : List ME} (h1 : MeB c l H e (!cj) H1) : MeAll c cj l H (e :: es) (!cj) H1 := by
  intro C ps hm; refine v_cons (ps := ps) hm fun x r m1 m2 => ?_; intro A env s μ T X Q E P k
  rw [allTrue_cons]
  refine wpAny_bind (h1 C _ m1 A env s μ T X _ _ P fun s1 μ1 T1 st1 a1 => ?_)
  cases cj
  · exact wpAny_pure (k s1 μ1 T1 st1 a1)
  · exact wpAny_pure (k s1 μ1 T1 st1 a1)
theorem All_go {cj r : Bool} {e : ME} {es : List ME} (h1 : MeB c l H e cj H1) (h2 : MeAll c cj l H1 es r H2) : MeAll c cj l H (e :: es) r H2 := by
  intro C ps hm; refine v_cons (ps := ps) hm fun x r m1 m2 => ?_; intro A env s μ T X Q E P k
  rw [allTrue_cons]
  refine wpAny_bind (h1 C _ m1 A env s μ T X _ _ P fun s1 μ1 T1 st1 a1 => ?_)
  have := h2 C _ m2 A env s1 μ1 T1 X Q E (P.aft a1) fun s2 μ2 T2 st2 a2 => k s2 μ2 T2 (st1.trans st2) (a1.trans a2)
  cases cj
  · exact this
  · exact this

/-! ### lists of expressions, displays -/
theorem Es_nil : MeEs c l H [] [] H := by
  intro C ps hm; refine v_nil (ps := ps) hm ?_; intro pos A env s μ T X Q E P k
  exact spliced_none (k s μ T [] (Stp.refl s) (.same P.r) VRs.nil)
theorem Es_cons {e : ME} {es : List ME} {v : MV} {vs : List MV} (h1 : MeE c l H e v H1) (h2 : MeEs c l H1 es vs H2) : MeEs c l H (e :: es) (v :: vs) H2 := by
  intro C ps hm; refine v_cons (ps := ps) hm fun x r m1 m2 => ?_; intro pos A env s μ T X Q E P k
  refine spliced_more (h1 C _ m1 A env s μ T X _ _ P fun s1 μ1 T1 x st1 a1 v1 => ?_) (star_cons m1 _ _)
  exact h2 C _ m2 pos A env s1 μ1 T1 X _ _ (P.aft a1) fun s2 μ2 T2 xs st2 a2 v2 => k s2 μ2 T2 _ (st1.trans st2) (a1.trans a2) (VRs.cons (v1.mono a2.m a2.t) v2)

/-- a new tuple -/
theorem new_tup {A : Around} {s : Shared} {μ : Ads} {T X : Led} {vs : List MV} {xs : List Value} {Q : Value → Shared → Prop} {E : Value → Shared → Prop} (R : Rel c s.heap μ H T X) (hv : VRs μ T vs xs) (hl : vs.length ≤ sizeLine)
    (k : ∀ s' μ' T' z, Stp s s' → Aft c s'.heap μ T μ' H T' X → VR μ' T' (.tup vs) z → Q z s') : wpAny (Km c) A (newTuple xs) Q E s := by
  refine wpAny_newTuple ?_ (by rw [← hv.len]; exact hl)
  have f := R.fresh (Nat.le_refl _)
  refine k _ μ ((s.heap.objs.size, _) :: T) _ (Stp.of s _ s.toks) ⟨(R.push _).addT (Heap.get?_push_size _ rfl) f.1 (fun q hq e => f.2.2.1 q hq e.symm), List.prefix_refl _, fun u1 h => .tail _ h⟩ ?_
  exact ⟨_, _, _, _, rfl, .head _, rfl, rfl, by simpa using hv.mono (List.prefix_refl _) fun u1 h => .tail _ h⟩
/-- a new list -/
theorem push_list {s : Shared} {μ : Ads} {T X : Led} {vs : List MV} {its : Array Value} {n : Nat} (R : Rel c s.heap μ H T X) (hv : VRs μ T vs its.toList) :
    Aft c (s.heap.push (listOf its n)) μ T (μ ++ [[s.heap.objs.size]]) (H ++ [.list vs]) T X ∧ VR (μ ++ [[s.heap.objs.size]]) T (.ref H.length) (.ref s.heap.objs.size) := by
  have f := R.fresh (Nat.le_refl _)
  refine ⟨⟨(R.push _).addH ⟨s.heap.objs.size, its, n, rfl, Heap.get?_push_size _ rfl, hv.mono (List.prefix_append _ _) fun u1 h => h⟩ (by simp) (by simpa using f.1) (by simpa using f.2.1) (by simpa using f.2.2.1) (by simpa using f.2.2.2),
    List.prefix_append _ _, fun u1 h => h⟩, ?_⟩
  exact ⟨_, [], rfl, by rw [← R.len]; simp⟩
theorem new_list {A : Around} {s : Shared} {μ : Ads} {T X : Led} {vs : List MV} {xs : List Value} {Q : Value → Shared → Prop} {E : Value → Shared → Prop} (R : Rel c s.heap μ H T X) (hv : VRs μ T vs xs) (hl : vs.length ≤ sizeLine)
    (k : ∀ s' μ' T' z, Stp s s' → Aft c s'.heap μ T μ' (H ++ [.list vs]) T' X → VR μ' T' (.ref H.length) z → Q z s') : wpAny (Km c) A (newList xs) Q E s := by
  refine wpAny_newList ?_ (by rw [← hv.len]; exact hl)
  obtain ⟨a, b⟩ := push_list (its := xs.toArray) (n := 0) R (hv)
  exact k _ _ T _ (Stp.of s _ s.toks) a b

theorem mEs_len {G : GI} {C : Cx} : ∀ {es : List ME} {ps : List Expr}, mEs G C es ps = true → es.length = ps.length
  | [], ps, h => v_nil (M := fun ps => _ = ps.length) h rfl
  | e :: es, ps, h => v_cons (M := fun ps => _ = ps.length) h fun x r u1 h2 => congrArg (· + 1) (mEs_len h2)

theorem E_tup {es : List ME} {vs : List MV} (h1 : MeEs c l H es vs H1) (hl : vs.length ≤ sizeLine) : MeE c l H (.tup es) (.tup vs) H1 := by
  intro C pe hm; refine v_tup (pe := pe) hm fun xs n q hm => ?_; intro A env s μ T X Q E P k
  rw [arm_eval_Tuple]
  refine wpAny_bind (wpAny_standAt (wpAny_bind (h1 C _ hm _ A env s μ T X _ _ P fun s1 μ1 T1 xs st1 a1 v1 => ?_)))
  exact new_tup a1.r v1 hl fun s2 μ2 T2 z st2 a2 v2 => k s2 μ2 T2 z (st1.trans st2) (a1.trans a2) v2
theorem E_list {es : List ME} {vs : List MV} (h1 : MeEs c l H es vs H1) (hl : vs.length ≤ sizeLine) : MeE c l H (.list es) (.ref H1.length) (H1 ++ [.list vs]) := by
  intro C pe hm; refine v_list (pe := pe) hm fun xs q hm => ?_; intro A env s μ T X Q E P k
  rw [arm_eval_List]
  refine wpAny_bind (wpAny_standAt (wpAny_bind (h1 C _ hm _ A env s μ T X _ _ P fun s1 μ1 T1 xs st1 a1 v1 => ?_)))
  exact new_list a1.r v1 hl fun s2 μ2 T2 z st2 a2 v2 => k s2 μ2 T2 z (st1.trans st2) (a1.trans a2) v2
end
end Mine

end
/-! SC -/
section
open PySem PySem.W PyProof.Rows
set_option linter.unusedVariables false
set_option maxRecDepth 20000
namespace Mine

section
variable {c : Cw} {l : Loc} {H H1 H2 H3 : MH}

theorem VR.int_eq {μ : Ads} {T : Led} {i : Int} {x : Value} (h : VR μ T (.int i) x) : ∃ t, x = .int i t := by unfold VR at h; exact h
theorem VR.bool_eq {μ : Ads} {T : Led} {b : Bool} {x : Value} (h : VR μ T (.bool b) x) : x = .bool b := by unfold VR at h; exact h
theorem VR.ofInt {μ : Ads} {T : Led} (i : Int) (t : Tok) : VR μ T (.int i) (.int i t) := by exact ⟨t, rfl⟩
theorem VR.ofBool {μ : Ads} {T : Led} (b : Bool) : VR μ T (.bool b) (.bool b) := by rfl
theorem VR.ofNone {μ : Ads} {T : Led} : VR μ T .none .none := by rfl

theorem big_bits {i : Int} (h : big i) : Builtin.Int.intBits i ≤ 64 := intBits_le_64 (by unfold big at h; lia) (by unfold big at h; lia)

/-- a list of the small heap, as the model has it -/
inductive ListW (h : Heap) (μ : Ads) (T : Led) (k : Nat) (vs : List MV) : Value → Prop where
  | mk (a : Addr) (its : Array Value) (n : Nat) (m : μ[k]? = some [a]) (g : h.get? a = some (listOf its n)) (r : VRs μ T vs its.toList) : ListW h μ T k vs (.ref a)
inductive TupW (h : Heap) (μ : Ads) (T : Led) (vs : List MV) : Value → Prop where
  | mk (a : Addr) (o : Obj) (its : Array Value) (n : Nat) (g : h.get? a = some o) (c : o.cls = .type "tuple") (d : o.data = .seq its n) (r : VRs μ T vs its.toList) (t : IsTup h a its) : TupW h μ T vs (.ref a)
@[elab_as_elim] theorem ListW.out {h : Heap} {μ : Ads} {T : Led} {k : Nat} {vs : List MV} {p : Value} {M : Value → Prop} (w : ListW h μ T k vs p) (f : ∀ a its n, μ[k]? = some [a] → h.get? a = some (listOf its n) → VRs μ T vs its.toList → M (.ref a)) : M p := by
  induction w with | mk a its n m g r => exact f a its n m g r
@[elab_as_elim] theorem TupW.out {h : Heap} {μ : Ads} {T : Led} {vs : List MV} {p : Value} {M : Value → Prop} (w : TupW h μ T vs p) (f : ∀ a o its n, h.get? a = some o → o.cls = .type "tuple" → o.data = .seq its n → VRs μ T vs its.toList → IsTup h a its → M (.ref a)) : M p := by
  induction w with | mk a o its n g c d r t => exact f a o its n g c d r t
@[elab_as_elim] theorem VR.intE {μ : Ads} {T : Led} {i : Int} {x : Value} {M : Value → Prop} (h : VR μ T (.int i) x) (k : ∀ t, M (.int i t)) : M x := by obtain ⟨t, rfl⟩ := h.int_eq; exact k t
theorem Rel.list {h : Heap} {μ : Ads} {T X : Led} {k : Nat} {vs : List MV} {p : Value} (R : Rel c h μ H T X) (e : H[k]? = some (.list vs)) (v : VR μ T (.ref k) p) :
    ListW h μ T k vs p := by
  obtain ⟨a, r, rfl, hm⟩ := v
  obtain ⟨as, hm', o⟩ := R.objAt e
  obtain ⟨b, its, n, rfl, g, z⟩ := o
  rw [hm] at hm'; cases hm'
  exact ⟨a, its, n, hm, g, z⟩
theorem Rel.tup {h : Heap} {μ : Ads} {T X : Led} {vs : List MV} {p : Value} (R : Rel c h μ H T X) (v : VR μ T (.tup vs) p) :
    TupW h μ T vs p := by
  obtain ⟨a, o, its, n, rfl, m, c1, d, r⟩ := v
  exact ⟨a, o, its, n, R.tl _ m, c1, d, r, ⟨o, R.tl _ m, c1, n, d⟩⟩

theorem joined_one (x : Value) : ∀ (k : Nat) (acc : Array Value), (List.foldl (fun x1 x2 => x1 ++ x2) acc (List.replicate k #[x])).toList = acc.toList ++ List.replicate k x
  | 0, acc => by simp
  | k + 1, acc => by rw [List.replicate_succ, List.foldl_cons, joined_one x k, Array.toList_append, List.replicate_succ]; simp

theorem noFill_tuple_mul : fillsNumberSlot (.type "tuple") "mul" = pure false :=
  PySem.fillsNumberSlot_seq (id := "tuple.__mul__") (r := some (.builtin "tuple.__rmul__")) F.slot_tuple_mul.lookup (by decide +kernel) F.slot_tuple_rmul.lookup (by decide +kernel)
theorem repeat_tuple : seqRepeat? (.type "tuple") = pure (some (.builtin "tuple.__mul__")) := by
  unfold seqRepeat?
  rw [PySem.seqSlot_of (T := "tuple") (name := "__mul__") (id := "tuple.__mul__") F.slot_tuple_mul.lookup (by decide +kernel), PySem.seqSlot_of (T := "tuple") (name := "__rmul__") (id := "tuple.__rmul__") F.slot_tuple_rmul.lookup (by decide +kernel)]
  rfl

theorem size_of_lim {n : Nat} (h : n ≤ lim) : n ≤ sizeLine := by rw [sizeLine_eq]; unfold lim at h; (with_reducible exact Nat.le_trans (by assumption) (by decide))

/-- a list times an int -/
theorem mulL_raw {prog : Program} {w : World} {A : Around} {s : Shared} {a : Addr} {x : Value} {n : Nat} {k : Int} {u : Tok} {Q : Value → Shared → Prop} {E : Value → Shared → Prop}
    (ho : s.heap.get? a = some (listOf #[x] n)) (h0 : 0 ≤ k) (hk : k ≤ lim) (h : Q (.ref s.heap.objs.size) { s with heap := s.heap.push (listOf (List.replicate k.toNat x).toArray 0) }) :
    wpAny (model prog w) A (binaryOp .Mult (.ref a) (.int k u)) Q E s := by
  have hk' : k.toNat ≤ 100000 := by unfold lim at hk; lia
  refine wpAny_binaryOp_repeat_ref (T := "list") (U := "int") (by decide) ⟨_, ho, rfl⟩ (fun s' => typeIs_int s' k u) noFill_list_mul F.fills_int_mul F.slot_int_rmul repeat_list F.slot_int_index.lookup
    (call_meets F.slot_int_rmul (typeIs_int s k u) F.entry_int_rmul (F.args_int_rmul_2 _ _) (int___rmul___int_list k u a #[x] n)
      ⟨ho, rfl, ⟨_, ho, rfl⟩, call_meets F.slot_list_mul ⟨_, ho, rfl⟩ F.entry_list_mul (F.args_list_mul_2 _ _)
        (AutoListH.list___mul___list_int_3 a #[x] n k u (by simp [Builtin.List.listFitsIndex]; lia) (by simp; (with_reducible exact Int.le_trans (by assumption) (by decide))) (by simp [Builtin.List.listTooLong, sizeLine]; (with_reducible exact Int.le_trans (by assumption) (by decide)))) ⟨ho, ?_⟩⟩)
  have e : (List.foldl (fun x1 x2 => x1 ++ x2) #[] (List.replicate (if (#[x] : Array Value).isEmpty = true then 0 else k.toNat) #[x])) = (List.replicate k.toNat x).toArray := by
    apply Array.toList_inj.mp
    rw [joined_one]; simp
  rw [e]
  exact h

theorem rmul_tup (a : Int) (t : Tok) (l : Addr) (items : Array Value) (n : Nat) (d : Option Addr) (sl : Array (Option Value)) :
    Meets (Builtin.«int.__rmul__» ⟨[.int a t, .ref l], []⟩) (fun u1 R s => s.heap.get? l = some { cls := .type "tuple", dict := d, data := .seq items n, slots := sl } ∧ R (.ok (.ret Value.notImplemented)) s) :=
  .of_wp fun prog w A R s h => by obtain ⟨hp, g, dr, tk, os⟩ := s; obtain ⟨hl, h⟩ := h; wp_walk; exact ⟨_, rfl, h⟩
theorem mul_tup (l : Addr) (x : Value) (n : Nat) (d : Option Addr) (sl : Array (Option Value)) (k : Int) (u : Tok) (h0 : 2 ≤ k) (hk : k ≤ lim) :
    Meets (Builtin.«tuple.__mul__» ⟨[.ref l, .int k u], []⟩) (fun u1 R s => s.heap.get? l = some { cls := .type "tuple", dict := d, data := .seq #[x] n, slots := sl } ∧
      R (.ok (.ret (Value.ref s.heap.objs.size))) { s with heap := s.heap.push { cls := Value.type "tuple", data := Data.seq (List.foldl (fun x1 x2 => x1 ++ x2) #[] (List.replicate k.toNat #[x])) }, toks := s.toks }) :=
  .of_wp fun prog w A R s h => by
    obtain ⟨hp, g, dr, tk, os⟩ := s; obtain ⟨hl, h⟩ := h
    have hk' : k.toNat ≤ 100000 := by unfold lim at hk; lia
    have hk2 : k ≤ 100000 := by unfold lim at hk; omega
    have hsz : (List.foldl (fun x1 x2 => x1 ++ x2) #[] (List.replicate k.toNat (#[x] : Array Value))).size ≤ sizeLine := by
      rw [← Array.length_toList, joined_one, sizeLine_eq]; simp; (with_reducible exact Int.le_trans (by assumption) (by decide))
    show wpAny _ _ (asIndex (.int k u) >>= _) _ _ _
    refine wpAny_bind (wpAny_of_eq (a := k) rfl ?_)
    show wpAny _ _ (if (decide (k < -(2 ^ 63)) || decide (k ≥ 2 ^ 63)) = true then _ else _) _ _ _
    rw [if_neg (by simp; lia)]
    refine wpAny_bind (tupleItemsOf_ (items := #[x]) ⟨_, hl, rfl, n, rfl⟩ ?_)
    show wpAny _ _ (if ((#[x] : Array Value).isEmpty || k == 1) = true then _ else _) _ _ _
    rw [if_neg (by simp; lia)]
    show wpAny _ _ (if (decide (k ≤ 0) || (#[x] : Array Value).isEmpty) = true then _ else _) _ _ _
    rw [if_neg (by simp; lia)]
    show wpAny _ _ (if ((#[x] : Array Value).size : Int) * k > (2 ^ 63 - 1) / 8 then _ else _) _ _ _
    rw [if_neg (by simp; (with_reducible exact Int.le_trans (by assumption) (by decide)))]
    show wpAny _ _ (if Builtin.Tuple.tupleTooMany _ = true then _ else _) _ _ _
    rw [if_neg (by simp [Builtin.Tuple.tupleTooMany, sizeLine]; (with_reducible exact Int.le_trans (by assumption) (by decide)))]
    show wpAny _ _ (Builtin.Tuple.tupleExact _ >>= _) _ _ _
    refine wpAny_bind (wpAny_newObj_type ?_ hsz)
    exact wpAny_pure ⟨_, rfl, h⟩
end
end Mine

end
/-! SD -/
section
open PySem PySem.W PyProof.Rows
set_option linter.unusedVariables false
set_option maxRecDepth 20000
namespace Mine

section
variable {c : Cw} {l : Loc} {H H1 H2 H3 : MH}

theorem Aft.tok {h' : Heap} {μ : Ads} {T X : Led} (r : Rel c h' μ H T X) : Aft c h' μ T μ H T X := .same r

theorem BinOk.ints {o : Bop} {a b r : Int} (g : ∀ (A : Around) (s : Shared) (t u : Tok) (Q E : Value → Shared → Prop), Q (.int r s.toks) { s with toks := s.toks + 1 } → wpAny (Km c) A (binaryOp o.op (.int a t) (.int b u)) Q E s) : BinOk c H o (.int a) (.int b) (.int r) H := by
  intro A s μ T X p q Q E hh hu R vx vy k
  have z := fun t u => g A s t u Q E (k _ μ T _ (Stp.of s _ _) (.same R) (.ofInt _ _))
  exact vx.intE fun t => vy.intE fun u => z t u
theorem bin_ok {o : Bop} {x y v : MV} {H' : MH} (b : BinR H o x y v H') : BinOk c H o x y v H' := by
  induction b with
  | add => exact .ints fun A s t u Q E z => add_int z
  | sub => exact .ints fun A s t u Q E z => sub_int z
  | mul hb => exact .ints fun A s t u Q E z => mul_int z (hb.elim (fun z => IntMulOk.of_left (big_bits z)) fun z => IntMulOk.of_right (big_bits z))
  | fdiv hy hs => exact .ints fun A s t u Q E z => floordiv_int hy z (.inl (PyProof.noPylong_small hs))
  | mod hy => exact .ints fun A s t u Q E z => mod_int' hy z
  | pow h0 h1 hb => exact .ints fun A s t u Q E z => pow_int_small h0 (by (with_reducible exact Int.le_trans (by assumption) (by decide))) hb z
  | shl h0 h1 hb => exact .ints fun A s t u Q E z => lshift_int_small h0 (by (with_reducible exact Int.le_trans (by assumption) (by decide))) hb z
  | shr h0 => exact .ints fun A s t u Q E z => rshift_int h0 z
  | addL e1 e2 hl =>
    intro A s μ T X p q Q E hh hu R vx vy k
    refine (R.list e1 vx).out fun a its n m1 g1 r1 => ?_
    refine (R.list e2 vy).out fun b its2 n2 m2 g2 r2 => ?_
    have hl1 := r1.len.trans Array.length_toList; have hl2 := r2.len.trans Array.length_toList
    refine P.add_list g1 g2 ?_ (size_of_lim (by rw [← hl1, ← hl2]; exact hl))
    obtain ⟨a1, a2⟩ := push_list (s := s) (its := its ++ its2) (n := 0) R (by simpa using r1.append r2)
    exact k _ _ T _ (Stp.of s _ s.toks) a1 a2
  | addT n1 n2 hl =>
    intro A s μ T X p q Q E hh hu R vx vy k
    refine (R.tup vx).out fun a o its n g1 c1 d1 r1 u1 => ?_
    refine (R.tup vy).out fun b o2 its2 n2' g2 c2 d2 r2 u1 => ?_
    obtain ⟨cls, dd, data, sl⟩ := o
    obtain ⟨cls2, dd2, data2, sl2⟩ := o2
    simp only at c1 d1 c2 d2
    subst c1 d1 c2 d2
    have hl1 := r1.len.trans Array.length_toList; have hl2 := r2.len.trans Array.length_toList
    refine concat_meets ⟨_, g1, rfl⟩ ⟨_, g2, rfl⟩ noFill_tuple_add seq_tuple_add F.slot_tuple_add F.entry_tuple_add (F.args_tuple_add_2 _ _)
      (tuple_addW2 a b its its2 n n2' dd dd2 sl sl2 ?_ ?_ (size_of_lim (by rw [← hl1, ← hl2]; exact hl))) ⟨g1, g2, ?_⟩
    · intro z; apply n1; simp at z; subst z; simpa using hl1
    · intro z; apply n2; simp at z; subst z; simpa using hl2
    · have f := R.fresh (Nat.le_refl _)
      refine k _ μ ((s.heap.objs.size, _) :: T) _ (Stp.of s _ s.toks) ⟨(R.push _).addT (Heap.get?_push_size _ rfl) f.1 (fun q hq e => f.2.2.1 q hq e.symm), List.prefix_refl _, fun u1 h => .tail _ h⟩ ?_
      exact ⟨_, _, _, _, rfl, .head _, rfl, rfl, by simpa using (r1.append r2).mono (List.prefix_refl _) fun u1 h => .tail _ h⟩
  | mulL e h0 hn =>
    intro A s μ T X p q Q E hh hu R vx vy k
    refine (R.list e vx).out fun a its n m1 g1 r1 => ?_
    refine vy.intE fun u => ?_
    obtain ⟨x, r, e1, vx', rfl⟩ := r1
    have e2 : its = #[x] := by apply Array.toList_inj.mp; rw [e1]
    subst e2
    refine mulL_raw g1 h0 hn ?_
    obtain ⟨a1, a2⟩ := push_list (s := s) (its := (List.replicate (Int.toNat _) x).toArray) (n := 0) R (VRs.replicate _ vx')
    exact k _ _ T _ (Stp.of s _ s.toks) a1 a2
  | mulT h0 hn =>
    intro A s μ T X p q Q E hh hu R vx vy k
    refine (R.tup vx).out fun a o its n g1 c1 d1 r1 u1 => ?_
    refine vy.intE fun u => ?_
    obtain ⟨x, r, e1, vx', rfl⟩ := r1
    have e2 : its = #[x] := by apply Array.toList_inj.mp; rw [e1]
    subst e2
    obtain ⟨cls, dd, data, sl⟩ := o
    simp only at c1 d1
    subst c1 d1
    refine wpAny_binaryOp_repeat_ref (T := "tuple") (U := "int") (by decide) ⟨_, g1, rfl⟩ (fun s' => typeIs_int s' _ u) noFill_tuple_mul F.fills_int_mul F.slot_int_rmul repeat_tuple F.slot_int_index.lookup
      (call_meets F.slot_int_rmul (typeIs_int s _ u) F.entry_int_rmul (F.args_int_rmul_2 _ _) (rmul_tup _ u a #[x] n dd sl)
        ⟨g1, rfl, ⟨_, g1, rfl⟩, call_meets F.slot_tuple_mul ⟨_, g1, rfl⟩ F.entry_tuple_mul (F.args_tuple_mul_2 _ _) (mul_tup a x n dd sl _ u h0 hn) ⟨g1, ?_⟩⟩)
    have f := R.fresh (Nat.le_refl _)
    refine k _ μ ((s.heap.objs.size, _) :: T) _ (Stp.of s _ s.toks) ⟨(R.push _).addT (Heap.get?_push_size _ rfl) f.1 (fun q hq e => f.2.2.1 q hq e.symm), List.prefix_refl _, fun u1 h => .tail _ h⟩ ?_
    refine ⟨_, _, _, _, rfl, .head _, rfl, rfl, ?_⟩
    rw [joined_one]
    simpa using VRs.replicate _ (vx'.mono (List.prefix_refl _) fun u1 h => .tail _ h)
end
end Mine

end
/-! SE -/
section
open PySem PySem.W PyProof.Rows
set_option linter.unusedVariables false
set_option maxRecDepth 20000
namespace Mine

section
variable {c : Cw} {l : Loc} {H H1 H2 H3 : MH}

theorem sameAll_ints : ∀ ns ms : List Int, PySem.Spec.sameAll (ns.map PyData.int) (ms.map PyData.int) = decide (ns = ms)
  | [], [] => by simp [PySem.Spec.sameAll]
  | [], _ :: _ => by simp [PySem.Spec.sameAll]
  | _ :: _, [] => by simp [PySem.Spec.sameAll]
  | a :: r, b :: t => by
    simp only [List.map_cons, PySem.Spec.sameAll, PySem.Spec.same, sameAll_ints r t]
    by_cases h : a = b <;> by_cases h' : r = t <;> simp [h, h']
theorem shaped_tup (ns : List Int) : SeqAt.shaped (.tuple (ns.map PyData.int)) = true := by
  have h1 := PySem.W.depthAll_ints ns
  have h2 : PyData.depth (.tuple (ns.map PyData.int)) ≤ 64 := by simp only [PyData.depth]; lia
  show (PyData.canLay0 (.tuple (ns.map PyData.int)) && decide (PyData.depth (.tuple (ns.map PyData.int)) ≤ 64)) = true
  rw [Bool.and_eq_true]
  exact ⟨by simp only [PyData.canLay0]; exact canLayAll0_ints ns, decide_eq_true h2⟩
theorem reads_tup {h : Heap} {a : Addr} {o : Obj} {its : Array Value} {n : Nat} {ns : List Int} (ho : h.get? a = some o) (hc : o.cls = .type "tuple") (hd : o.data = .seq its n) (hi : IntsAre its.toList ns) :
    Reads h (.ref a) (.tuple (ns.map PyData.int)) [] := Reads.tuple ho hc hd (readsAll_of_ints hi)

theorem cmp_ok {o : Cop} {x y : MV} {r : Bool} (b : CmpR H o x y r) : ∀ (A : Around) (s : Shared) (μ : Ads) (T X : Led) (p q : Value) (Q : Value → Shared → Prop) (E : Value → Shared → Prop), A.units + 64 < cLine → Rel c s.heap μ H T X → VR μ T x p → VR μ T y q →
    (∀ s', Stp s s' → Rel c s'.heap μ H T X → Q (.bool r) s') → wpAny (Km c) A (compareOp o.op p q) Q E s := by
  induction b with
  | @int o x y r e =>
    intro A s μ T X p q Q E hu R vx vy k
    refine vx.intE fun t => ?_; refine vy.intE fun u => ?_
    cases o <;> first | (have e := Option.some.inj (show some _ = some _ from e); subst e) | (cases e; done)
    · exact lt_int (k _ (Stp.refl s) R)
    · exact le_int (k _ (Stp.refl s) R)
    · exact gt_int (k _ (Stp.refl s) R)
    · exact ge_int (k _ (Stp.refl s) R)
    · exact eq_int (k _ (Stp.refl s) R)
    · exact ne_int (k _ (Stp.refl s) R)
  | isNone =>
    intro A s μ T X p q Q E hu R vx vy k
    unfold VR at vx vy; subst vx; subst vy
    exact is_none_none (k _ (Stp.refl s) R)
  | isRef =>
    intro A s μ T X p q Q E hu R vx vy k
    unfold VR at vx vy; obtain ⟨a, z, rfl, _⟩ := vx; subst vy
    exact is_ref_none (k _ (Stp.refl s) R)
  | notin =>
    intro A s μ T X p q Q E hu R vx vy k
    refine vx.intE fun t => ?_
    refine (R.tup vy).out fun a o its n g c1 d1 r1 ht => ?_
    exact notin_tuple_ints ht (VRs.ints.mp r1) (k _ (Stp.refl s) R)
  | eqT hl =>
    intro A s μ T X p q Q E hu R vx vy k
    refine (R.tup vx).out fun a o its n g c1 d1 r1 ht => ?_
    refine (R.tup vy).out fun b o2 its2 n2 g2 c2 d2 r2 ht2 => ?_
    exact eq_dataH_same (reads_tup g c1 d1 (VRs.ints.mp r1)) (reads_tup g2 c2 d2 (VRs.ints.mp r2)) (shaped_tup _) (shaped_tup _) hu (by simp only [PySem.SeqAt.noMix]; exact noMix_ints _ _)
      (by simp only [PySem.Spec.same]; rw [sameAll_ints]; exact k _ (Stp.refl s) R)
  | neT hl =>
    intro A s μ T X p q Q E hu R vx vy k
    refine (R.tup vx).out fun a o its n g c1 d1 r1 ht => ?_
    refine (R.tup vy).out fun b o2 its2 n2 g2 c2 d2 r2 ht2 => ?_
    exact ne_dataH_same (reads_tup g c1 d1 (VRs.ints.mp r1)) (reads_tup g2 c2 d2 (VRs.ints.mp r2)) (shaped_tup _) (shaped_tup _) hu (by simp only [PySem.SeqAt.noMix]; exact noMix_ints _ _)
      (by simp only [PySem.Spec.same]; rw [sameAll_ints]; exact k _ (Stp.refl s) R)
  | eqL e1 e2 =>
    intro A s μ T X p q Q E hu R vx vy k
    refine (R.list e1 vx).out fun a its n m1 g1 r1 => ?_
    refine (R.list e2 vy).out fun b its2 n2 m2 g2 r2 => ?_
    have i1 : s.heap.IsList a its.toList.toArray := by rw [Array.toArray_toList]; exact IsL.isList (n := n) g1
    have i2 : s.heap.IsList b its2.toList.toArray := by rw [Array.toArray_toList]; exact IsL.isList (n := n2) g2
    exact eq_intsK i1 (VRs.ints.mp r1) i2 (VRs.ints.mp r2) hu (k _ (Stp.refl s) R)

/-! ### items -/
set_option tactic.hygienic true in
theorem subs_ops (slice : Expr) (o i : Value) : ∃ ops, subscripted slice false o i = operate ops (getItem o i) := by
  cases slice <;> first | exact ⟨_, rfl⟩ | skip
  rename_i a b d p
  cases d <;> exact ⟨_, rfl⟩
theorem fits_idx {n : Nat} {i : Int} (h : i.toNat < n) (hn : n ≤ lim) : i < 2 ^ 63 := by unfold lim at hn; lia

theorem itemsAre_ints {prog : Program} {w : World} : ∀ {xs : List Value} {is : List Int}, IntsAre xs is → ItemsAre (intKind prog w) is xs
  | _, _, .nil => .nil
  | _, _, .cons n t h => .cons (by simp [intKind, Value.isInt]) (itemsAre_ints h)
theorem DR.keys {μ : Ads} {T : Led} : ∀ {es : List ((Int × Int) × MV)} {xs : List (List Int × Addr × Value)}, DR μ T es xs → ∀ x ∈ xs, ∃ i j o its n, x.1 = [i, j] ∧ (x.2.1, o) ∈ T ∧ o.cls = .type "tuple" ∧ o.data = .seq its n ∧ IntsAre its.toList [i, j]
  | [], _, h, x, hx => by have h : _ = _ := h; subst h; cases hx
  | e :: es, _, hz, x, hx => by
    obtain ⟨y, r, q, k1, ⟨o, its, n, m, g1, g2, g3⟩, v, rest⟩ := hz
    subst q
    rcases List.mem_cons.mp hx with rfl | hx
    · exact ⟨_, _, o, its, n, k1, m, g1, g2, g3⟩
    · exact DR.keys rest x hx
theorem DR.look {μ : Ads} {T : Led} : ∀ {es : List ((Int × Int) × MV)} {xs : List (List Int × Addr × Value)} {a b : Int} {v : MV}, DR μ T es xs → es.lookup (a, b) = some v → ∃ z, atKey xs [a, b] = some z ∧ VR μ T v z.2
  | [], _, _, _, _, _, e => by simp at e
  | e :: es, _, a, b, v, hz, ev => by
    obtain ⟨y, r, q, k1, _, vr, rest⟩ := hz
    subst q
    obtain ⟨⟨i, j⟩, w⟩ := e
    simp only at k1 vr
    rw [List.lookup_cons] at ev
    by_cases h : (a, b) = (i, j)
    · cases h
      simp at ev; subst ev
      exact ⟨y.2, by simp [atKey, k1], vr⟩
    · have h' : ((a, b) == (i, j)) = false := by simpa using h
      rw [h'] at ev
      obtain ⟨z, e1, e2⟩ := DR.look rest ev
      refine ⟨z, ?_, e2⟩
      have : ¬ y.1 = [a, b] := by rw [k1]; intro q; apply h; simp at q; rw [q.1, q.2]
      simp only [atKey, List.find?_cons, this, decide_false] at e1 ⊢
      exact e1
inductive DictW (c : Cw) (h : Heap) (μ : Ads) (T : Led) (k : Nat) (es : List ((Int × Int) × MV)) : Value → Prop where
  | mk (a : Addr) (xs : List (List Int × Addr × Value)) (m : μ[k]? = some [a]) (g : h.DictOfH (tupleKind (intKind c.prog c.w)) a xs) (r : DR μ T es xs) : DictW c h μ T k es (.ref a)
@[elab_as_elim] theorem DictW.out {c : Cw} {h : Heap} {μ : Ads} {T : Led} {k : Nat} {es : List ((Int × Int) × MV)} {p : Value} {M : Value → Prop} (w : DictW c h μ T k es p) (f : ∀ a xs, μ[k]? = some [a] → h.DictOfH (tupleKind (intKind c.prog c.w)) a xs → DR μ T es xs → M (.ref a)) : M p := by
  induction w with | mk a xs m g r => exact f a xs m g r
theorem Rel.dict {h : Heap} {μ : Ads} {T X : Led} {k : Nat} {es : List ((Int × Int) × MV)} {p : Value} (R : Rel c h μ H T X) (e : H[k]? = some (.dict es)) (v : VR μ T (.ref k) p) :
    DictW c h μ T k es p := by
  obtain ⟨a, r, rfl, hm⟩ := v
  obtain ⟨as, hm', o⟩ := R.objAt e
  obtain ⟨b, n, xs, rfl, g, nd, z⟩ := o
  rw [hm] at hm'; cases hm'
  refine ⟨a, xs, hm, ⟨_, _, n, g, ⟨rfl, rfl, rfl⟩, rfl, by simp, fun x hx => ?_, nd⟩, z⟩
  obtain ⟨i, j, o, its, n, k1, m, g1, g2, g3⟩ := z.keys x hx
  rw [k1]
  exact ⟨o, its, n, R.tl _ m, g1, g2, itemsAre_ints g3⟩

theorem item_ok {x y v : MV} (b : ItemR H x y v) : ∀ (A : Around) (s : Shared) (μ : Ads) (T X : Led) (p q : Value) (value slice : Expr) (Q : Value → Shared → Prop) (E : Value → Shared → Prop), A.handled = none → A.units + 64 < cLine →
    Rel c s.heap μ H T X → VR μ T x p → VR μ T y q → (∀ s' z, Stp s s' → Rel c s'.heap μ H T X → VR μ T v z → Q z s') → wpAny (Km c) A (subscriptTail value slice p q) Q E s := by
  induction b with
  | list e h0 ev hl =>
    intro A s μ T X p q value slice Q E hh hu R vx vy k
    refine (R.list e vx).out fun a its n m1 g1 r1 => ?_
    refine vy.intE fun t => ?_
    obtain ⟨z, ez, rz⟩ := r1.get ev
    have hlt := (List.getElem?_eq_some_iff.mp ev).1
    have hl' : s.heap.IsList a its := IsL.isList (n := n) g1
    exact tail_any hl'.typeIs slot_list_getitem.lookup (wpAny_getItem_list hl' h0 (fits_idx hlt hl) (by rw [← Array.getElem?_toList]; exact ez) (k _ _ (Stp.refl s) R rz)) (subs_ops slice _ _).choose_spec
  | tup h0 ev hl =>
    intro A s μ T X p q value slice Q E hh hu R vx vy k
    refine (R.tup vx).out fun a o its n g c1 d1 r1 ht => ?_
    refine vy.intE fun t => ?_
    obtain ⟨z, ez, rz⟩ := r1.get ev
    have hlt := (List.getElem?_eq_some_iff.mp ev).1
    have hlen := r1.len.trans Array.length_toList
    have hf := fits_idx hlt hl
    rw [hlen] at hlt
    exact tail_any ht.typeIs slot_tuple_getitem.lookup (PyProof.Rows.getItem_tuple ht (by lia) hf (PySem.seqIndex_of h0 (by lia)) (by rw [← Array.getElem?_toList]; exact ez) (k _ _ (Stp.refl s) R rz)) (subs_ops slice _ _).choose_spec
  | fl h0 ev hl =>
    intro A s μ T X p q value slice Q E hh hu R vx vy k
    obtain ⟨a, o, its, n, rfl, m, c1, d1, r1⟩ := vx
    refine vy.intE fun t => ?_
    have r2 : VRs μ T _ its.toList := VRs.ints.mpr r1
    obtain ⟨z, ez, rz⟩ := r2.get (i := Int.toNat _) (v := .int _) (by rw [List.getElem?_map, ev]; rfl)
    have hlt := (List.getElem?_eq_some_iff.mp ev).1
    have hl' : s.heap.IsList a its := ⟨o, R.tl _ m, c1, n, d1⟩
    exact tail_any hl'.typeIs slot_list_getitem.lookup (wpAny_getItem_list hl' h0 (fits_idx hlt hl) (by rw [← Array.getElem?_toList]; exact ez) (k _ _ (Stp.refl s) R rz)) (subs_ops slice _ _).choose_spec
  | dict e ev =>
    intro A s μ T X p q value slice Q E hh hu R vx vy k
    refine (R.dict e vx).out fun d xs m1 g1 r1 => ?_
    refine (R.tup vy).out fun a o its n g c1 d1 r2 ht => ?_
    have hi : IntsAre its.toList [_, _] := (VRs.ints (is := [_, _])).mp r2
    obtain ⟨z, ez, rz⟩ := DR.look r1 ev
    refine tail_any g1.typeIs slot_dict_getitem.lookup (wpAny_getItem_heap (knd := tupleKind (intKind c.prog c.w)) (tupleKind_room_in1 (by lia)) (k := [_, _]) ⟨o, its, n, g, c1, d1, itemsAre_ints hi⟩ g1 ez ?_) (subs_ops slice _ _).choose_spec
    exact k _ _ ⟨rfl, rfl, rfl⟩ R rz
end
end Mine

end
/-! SF -/
section
open PySem PySem.W PyProof.Rows
set_option linter.unusedVariables false
set_option maxRecDepth 20000
namespace Mine

section
variable {c : Cw} {l : Loc} {H H1 H2 H3 H4 : MH}

theorem CmpR.ok {o : Cop} {x y : MV} {r : Bool} (b : CmpR H o x y r) : CmpOk c H o x y r := fun A s μ T X p q Q E hh hu R vx vy k => cmp_ok b A s μ T X p q Q E hu R vx vy k

theorem E_item {a i : ME} {x y v : MV} (h1 : MeE c l H a x H1) (h2 : MeE c l H1 i y H2) (h3 : ItemR H2 x y v) : MeE c l H (.item a i) v H2 := by
  intro C pe hm; refine v_item hm fun x y q m1 m2 => ?_; intro A env s μ T X Q E P k
  refine Subscript_ (h1 C _ m1 A env s μ T X _ _ P fun s1 μ1 T1 p st1 a1 v1 => ?_)
  refine h2 C _ m2 A env s1 μ1 T1 X _ _ (P.aft a1) fun s2 μ2 T2 q st2 a2 v2 => ?_
  refine item_ok h3 A s2 μ2 T2 X p q _ _ _ _ P.a.h P.a.cl a2.r (v1.mono a2.m a2.t) v2 fun s3 z st3 r3 v3 => ?_
  exact k s3 μ2 T2 z ((st1.trans st2).trans st3) ⟨r3, (a1.trans a2).m, (a1.trans a2).t⟩ v3

theorem VRs.pick {μ : Ads} {T : Led} {vs : List MV} {xs : List Value} (h : VRs μ T vs xs) : ∀ is : List Nat, VRs μ T (is.filterMap (vs[·]?)) (is.filterMap (xs[·]?))
  | [] => by simpa using VRs.nil
  | i :: is => by
    have ih := VRs.pick h is
    have hl := h.len
    by_cases hi : i < vs.length
    · obtain ⟨x, e, r⟩ := h.get (i := i) (v := vs[i]) (by simp)
      rw [List.filterMap_cons, List.filterMap_cons, e, List.getElem?_eq_getElem hi]
      exact .cons r ih
    · rw [List.filterMap_cons, List.filterMap_cons, List.getElem?_eq_none (by (with_reducible exact Nat.ge_of_not_lt (by assumption))), List.getElem?_eq_none (by lia)]
      exact ih
theorem pick_step {its : Array Value} {vs : List MV} {μ : Ads} {T : Led} {a k : Int} (h : VRs μ T vs its.toList) (h0 : 0 ≤ a) (h1 : a ≤ vs.length) (hk : 0 < k) : VRs μ T (picks a k vs) (slicePick its (some a) none (some k)).toList := by
  have hl := h.len.trans Array.length_toList
  have e : (slicePick its (some a) none (some k)).toList = (sliceRange a its.size k).filterMap (its.toList[·]?) := by
    unfold slicePick sliceBounds
    simp only [Option.getD_some]
    have hk' : k > 0 := hk
    have ha : ¬ a < 0 := by lia
    simp only [hk', ha, if_true, if_false]
    have : max 0 (min a (its.size : Int)) = a := by lia
    rw [this]
    simp
  rw [e]
  have e2 : picks a k vs = (sliceRange a its.size k).filterMap (vs[·]?) := by
    unfold picks sliceRange
    simp only [gt_iff_lt, hk, if_true, List.filterMap_map, ← hl]
    rfl
  rw [e2]
  exact h.pick _

/-- the slice object is made, the part is read off it -/
theorem slice_get {A : Around} {s : Shared} {μ : Ads} {T X : Led} {k : Nat} {vs ws : List MV} {p vl vu vst : Value} {lo hi st : Option Int} {value slice : Expr} {Q : Value → Shared → Prop} {E : Value → Shared → Prop} (R : Rel c s.heap μ H T X)
    (e : H[k]? = some (.list vs)) (v : VR μ T (.ref k) p) (pl : IsPart vl lo) (pu : IsPart vu hi) (ps : IsPart vst st) (h0 : st ≠ some 0) (hz : vs.length ≤ lim)
    (hw : ∀ its : Array Value, VRs μ T vs its.toList → VRs μ T ws (slicePick its lo hi st).toList)
    (kk : ∀ s' μ' T' z, Stp s s' → Aft c s'.heap μ T μ' (H ++ [.list ws]) T' X → VR μ' T' (.ref H.length) z → Q z s') :
    wpAny (Km c) A (subscriptTail value slice p (.ref s.heap.objs.size)) Q E { s with heap := s.heap.push { cls := .type "slice", data := .fields #[vl, vu, vst] } } := by
  refine (R.list e v).out fun a its n m1 g1 r1 => ?_
  have R' := R.push { cls := .type "slice", data := .fields #[vl, vu, vst] }
  have g1' : (s.heap.push { cls := .type "slice", data := .fields #[vl, vu, vst] }).get? a = some (listOf its n) := Heap.get?_push_of_some _ g1
  obtain ⟨ops, hs⟩ := subs_ops slice (.ref a) (.ref s.heap.objs.size)
  have hl' := PySem.IsL.isList (n := n) g1'
  have hlen := r1.len.trans Array.length_toList
  refine tail_any (s := { s with heap := s.heap.push { cls := .type "slice", data := .fields #[vl, vu, vst] } }) hl'.typeIs slot_list_getitem.lookup (wpAny_getItem_list_slice (lo := lo) (hi := hi) (st := st) hl' (Heap.IsSliceOf.new ..) pl pu ps h0 ?_ (size_of_lim (by lia))) hs
  obtain ⟨a1, a2⟩ := push_list (s := { s with heap := s.heap.push { cls := .type "slice", data := .fields #[vl, vu, vst] } }) (its := slicePick its lo hi st) (n := 0) R' (hw its r1)
  exact kk _ _ T _ ⟨rfl, rfl, rfl⟩ a1 a2

theorem E_slice2 {e lo hi : ME} {k : Nat} {vs : List MV} {a b : Int} (h1 : MeE c l H e (.ref k) H1) (h2 : MeE c l H1 lo (.int a) H2) (h3 : MeE c l H2 hi (.int b) H3)
    (hk : H3[k]? = some (.list vs)) (h0 : 0 ≤ a) (hab : a ≤ b) (hb : b ≤ vs.length) (hz : vs.length ≤ lim) :
    MeE c l H (.slice2 e lo hi) (.ref H3.length) (H3 ++ [.list ((vs.drop a.toNat).take (b - a).toNat)]) := by
  intro C pe hm; refine v_slice2 hm fun x lo hi q q2 m1 m2 m3 => ?_; intro A env s μ T X Q E P kk
  refine Subscript_ (h1 C _ m1 A env s μ T X _ _ P fun s1 μ1 T1 p st1 a1 v1 => ?_)
  refine wpAny_Slice ?_
  rw [evalPart_some]
  refine h2 C _ m2 A env s1 μ1 T1 X _ _ (P.aft a1) fun s2 μ2 T2 q st2 a2 v2 => ?_
  rw [evalPart_some]
  refine h3 C _ m3 A env s2 μ2 T2 X _ _ (P.aft (a1.trans a2)) fun s3 μ3 T3 r st3 a3 v3 => ?_
  rw [evalPart_none]
  refine wpAny_pure ?_
  refine v2.intE fun t => ?_
  refine v3.intE fun u => ?_
  have am := a1.trans (a2.trans a3)
  have v1' := v1.mono (a2.trans a3).m (a2.trans a3).t
  refine slice_get a3.r hk v1' (.int a t) (.int b u) .none (by decide) hz (fun its r => ?_) fun s' μ' T' z st aa vv => kk s' μ' T' z (((st1.trans st2).trans st3).trans st) (am.trans aa) vv
  have hlen := r.len.trans Array.length_toList
  have e1 : slicePick its (some a) (some b) none = ((its.toList.drop a.toNat).take (b.toNat - a.toNat)).toArray := by
    have := slicePick_run its a.toNat b.toNat (by lia) (by lia)
    rw [Int.toNat_of_nonneg h0, Int.toNat_of_nonneg (by lia)] at this
    exact this
  rw [e1]
  have e2 : (b - a).toNat = b.toNat - a.toNat := Int.toNat_sub'' (Int.le_trans h0 hab) h0
  rw [e2]
  simpa using (r.drop a.toNat).take (b.toNat - a.toNat)

theorem E_slice3 {e lo st : ME} {k : Nat} {vs : List MV} {a b : Int} (h1 : MeE c l H e (.ref k) H1) (h2 : MeE c l H1 lo (.int a) H2) (h3 : MeE c l H2 st (.int b) H3)
    (hk : H3[k]? = some (.list vs)) (h0 : 0 ≤ a) (hab : a ≤ vs.length) (hb : 0 < b) (hz : vs.length ≤ lim) :
    MeE c l H (.slice3 e lo st) (.ref H3.length) (H3 ++ [.list (picks a b vs)]) := by
  intro C pe hm; refine v_slice3 hm fun x lo hi q q2 m1 m2 m3 => ?_; intro A env s μ T X Q E P kk
  refine Subscript_ (h1 C _ m1 A env s μ T X _ _ P fun s1 μ1 T1 p st1 a1 v1 => ?_)
  refine wpAny_Slice ?_
  rw [evalPart_some]
  refine h2 C _ m2 A env s1 μ1 T1 X _ _ (P.aft a1) fun s2 μ2 T2 q st2 a2 v2 => ?_
  rw [evalPart_none]
  refine wpAny_pure ?_
  rw [evalPart_some]
  refine h3 C _ m3 A env s2 μ2 T2 X _ _ (P.aft (a1.trans a2)) fun s3 μ3 T3 r st3 a3 v3 => ?_
  refine v2.intE fun t => ?_
  refine v3.intE fun u => ?_
  have am := a1.trans (a2.trans a3)
  have v1' := v1.mono (a2.trans a3).m (a2.trans a3).t
  refine slice_get a3.r hk v1' (.int a t) .none (.int b u) (by simp; lia) hz (fun its r => ?_) fun s' μ' T' z st aa vv => kk s' μ' T' z (((st1.trans st2).trans st3).trans st) (am.trans aa) vv
  exact pick_step r h0 hab hb
end
end Mine

end
/-! SG -/
section
open PySem PySem.W PyProof.Rows Builtin Builtin.ObjectAttr
set_option linter.unusedVariables false
set_option maxRecDepth 20000
namespace Mine

/-- what the top tells of a class's attribute -/
structure AtOk (K : Frag) (C : Addr) (nm : Str) : Prop where
  plain : plainGet K C nm = true
  dict : hasDictIn K C = true
  none : ∃ attr, findIn K (.ref C) nm = some attr ∧ noGet K attr = true
  set : findIn K (.ref C) "__setattr__" = some (some (.builtin "object.__setattr__"))
  over : plainOver K C = true
  taker : takerIn K C nm = some Option.none
structure MeOk (K : Frag) (C : Addr) (nm : Str) (fa : Addr) : Prop where
  plain : plainGet K C nm = true
  dict : hasDictIn K C = true
  find : findIn K (.ref C) nm = some (some (.ref fa))
  fn : isFn K (.ref fa) = true

structure Cw.OkA (c : Cw) : Prop extends c.Ok where
  at_ : ∀ k C a nm, c.clsA k = some C → c.G.atN a = some nm → c.P.dat k a = true → AtOk c.K C nm
  inj : ∀ a b nm, c.G.atN a = some nm → c.G.atN b = some nm → a = b

section
variable {c : Cw} {l : Loc} {H H1 H2 H3 H4 : MH}

theorem AR.len {G : GI} {μ : Ads} {T : Led} : ∀ {fs : List (Nat × MV)} {es : List DictEntry}, AR G μ T fs es → es.length = fs.length
  | [], _, h => by unfold AR at h; subst h; rfl
  | f :: fs, _, hz => by obtain ⟨e, r, q, k, v, rest⟩ := hz; subst q; simp [AR.len rest]
theorem AR.noRef {G : GI} {μ : Ads} {T : Led} : ∀ {fs : List (Nat × MV)} {es : List DictEntry}, AR G μ T fs es → es.any (·.refKey) = false
  | [], _, h => by unfold AR at h; subst h; rfl
  | f :: fs, _, hz => by obtain ⟨e, r, q, ⟨nm, t, _, hk⟩, v, rest⟩ := hz; subst q; simp only [List.any_cons, AR.noRef rest, Bool.or_false]; simp [DictEntry.refKey, hk]
theorem AR.look {G : GI} {μ : Ads} {T : Led} (inj : ∀ a b nm, G.atN a = some nm → G.atN b = some nm → a = b) {a : Nat} {nm : Str} (ha : G.atN a = some nm) : ∀ {fs : List (Nat × MV)} {es : List DictEntry}, AR G μ T fs es →
    match fs.lookup a with
    | some v => ∃ e, es.find? (·.key.isStr nm) = some e ∧ VR μ T v e.val
    | none => es.find? (·.key.isStr nm) = none
  | [], _, h => by have h : _ = _ := h; subst h; simp
  | f :: fs, _, hz => by
    obtain ⟨e, r, q, ⟨nm', t, hn, hk⟩, v, rest⟩ := hz
    subst q
    obtain ⟨b, w⟩ := f
    simp only at hn v
    have ih := AR.look inj ha rest
    rw [List.lookup_cons, List.find?_cons, hk]
    by_cases h : a = b
    · subst h
      rw [ha] at hn; cases hn
      simp only [beq_self_eq_true, Value.isStr]
      exact ⟨e, rfl, v⟩
    · have h1 : (a == b) = false := by simpa using h
      have h2 : (nm' == nm) = false := by
        simp only [beq_eq_false_iff_ne, ne_eq]
        intro q; subst q; exact h (inj _ _ _ ha hn)
      simp only [h1, Value.isStr, h2]
      exact ih
theorem AR.lookIn {G : GI} {μ : Ads} {T : Led} (inj : ∀ a b nm, G.atN a = some nm → G.atN b = some nm → a = b) {a : Nat} {nm : Str} (ha : G.atN a = some nm) {fs : List (Nat × MV)} {es : List DictEntry} {n : Nat} (r : AR G μ T fs es) :
    match fs.lookup a with
    | some v => ∃ val, W.lookIn nm (dictOf es n) = some (some val) ∧ VR μ T v val
    | none => W.lookIn nm (dictOf es n) = some Option.none := by
  have h := r.look inj ha
  have hr := r.noRef
  unfold W.lookIn
  cases q : fs.lookup a with
  | some v =>
    rw [q] at h
    obtain ⟨e, e1, e2⟩ := h
    simp only [dictOf, e1]
    exact ⟨e.val, rfl, e2⟩
  | none =>
    rw [q] at h
    simp only [dictOf, h, hr]
    simp

theorem VR.handed {μ : Ads} {T : Led} : ∀ {v : MV} {x : Value}, VR μ T v x → handedIn x = true
  | .int _, _, h => by obtain ⟨t, rfl⟩ := h; rfl
  | .bool _, _, h => by unfold VR at h; subst h; rfl
  | .none, _, h => by unfold VR at h; subst h; rfl
  | .str, _, h => by obtain ⟨a, b, rfl⟩ := h; rfl
  | .tup vs, _, h => by obtain ⟨a, o, its, n, rfl, _⟩ := h; rfl
  | .rng .., _, h => by obtain ⟨r, t, u, v, rfl, _⟩ := h; rfl
  | .fl _, _, h => by obtain ⟨a, o, its, n, rfl, _⟩ := h; rfl
  | .ref _, _, h => by obtain ⟨a, l, rfl, _⟩ := h; rfl

/-- an object of a class, of the small heap, as the model has it -/
inductive InstW (c : Cw) (h : Heap) (μ : Ads) (T : Led) (k m : Nat) (fs : List (Nat × MV)) : Value → Prop where
  | mk (a d : Addr) (es : List DictEntry) (n : Nat) (C : Addr) (hm : μ[k]? = some [a, d]) (hc : c.clsA m = some C) (g1 : h.get? a = some (instObj C d)) (g2 : h.get? d = some (dictOf es n)) (z : AR c.G μ T fs es) (I : InstAt h a (instObj C d) C (some (dictOf es n))) : InstW c h μ T k m fs (.ref a)
theorem Rel.inst {h : Heap} {μ : Ads} {T X : Led} {k m : Nat} {fs : List (Nat × MV)} {p : Value} (R : Rel c h μ H T X) (e : H[k]? = some (.inst m fs)) (v : VR μ T (.ref k) p) :
    InstW c h μ T k m fs p := by
  obtain ⟨a, r, rfl, hm⟩ := v
  obtain ⟨as, hm', o⟩ := R.objAt e
  obtain ⟨b, d, es, n, C, rfl, hc, g1, g2, z⟩ := o
  rw [hm] at hm'; cases hm'
  exact ⟨a, d, es, n, C, hm, hc, g1, g2, z, ⟨g1, rfl, rfl, g2⟩⟩

set_option tactic.hygienic true in
theorem attrBase_whole {o : Expr} {attr : Str} {env : Env} {w : Sem Value} (h : notSuper o = true) : attributeBase o attr env w = w := by
  cases o <;> first | exact rfl | skip
  rename_i f xs ks p
  cases xs with
  | cons a b => first | exact rfl | (cases f <;> exact rfl)
  | nil => cases ks with
    | cons a b => first | exact rfl | (cases f <;> exact rfl)
    | nil => cases f <;> first | exact rfl | exact noF h

theorem E_attr (ok : c.OkA) {e : ME} {a k m : Nat} {fs : List (Nat × MV)} {v : MV} (h1 : MeE c l H e (.ref k) H1) (hk : H1[k]? = some (.inst m fs)) (hv : fs.lookup a = some v) (hm : c.P.dat m a = true) : MeE c l H (.attr e a) v H1 := by
  intro C pe hme; refine v_attr hme fun x nm pos hn hsup hx => ?_; intro A env s μ T X Q E P kk
  refine Attribute_any_ (h1 C _ hx A env s μ T X _ _ P fun s1 μ1 T1 p st1 a1 v1 => ?_) (by rw [arm_eval_Attribute, attrBase_whole hsup])
  obtain ⟨a', d, es, n, Cc, hμ, hc, g1, g2, z, I⟩ := a1.r.inst hk v1
  have F := ok.at_ m Cc a nm hc hn hm
  obtain ⟨attr, f1, f2⟩ := F.none
  have hl := z.lookIn ok.inj hn (n := n)
  rw [hv] at hl
  obtain ⟨val, e1, e2⟩ := hl
  exact get_value (fun b o e => a1.r.keep b o (ok.KX b o e)) I (plainGet_of F.plain).1 (findObj_own F.dict f1 f2 e1) e2.handed (kk _ μ1 T1 val (st1.trans ⟨rfl, rfl, rfl⟩) ⟨a1.r, a1.m, a1.t⟩ e2)

theorem putL_len {nm : Str} {kh : Int} {k v : Value} : ∀ (es : List DictEntry), (putL nm kh k v es).length ≤ es.length + 1
  | [] => by simp [putL]
  | e :: r => by
    have := putL_len (nm := nm) (kh := kh) (k := k) (v := v) r
    unfold putL
    split <;> simp <;> (with_reducible assumption)
theorem AR.put {G : GI} {μ : Ads} {T : Led} {kh : Int} {tk : Tok} {v : MV} {x : Value} (inj : ∀ a b nm, G.atN a = some nm → G.atN b = some nm → a = b) {a : Nat} {nm : Str} (ha : G.atN a = some nm) (hv : VR μ T v x) :
    ∀ {fs : List (Nat × MV)} {es : List DictEntry}, AR G μ T fs es → AR G μ T (putF a v fs) (putL nm kh (.str nm tk) x es)
  | [], _, h => by have h : _ = _ := h; subst h; exact ⟨_, _, rfl, ⟨nm, tk, ha, rfl⟩, hv, rfl⟩
  | f :: fs, _, hz => by
    obtain ⟨e, r, q, ⟨nm', t, hn, hk⟩, w, rest⟩ := hz
    subst q
    obtain ⟨b, z⟩ := f
    simp only at hn w
    unfold putF putL
    by_cases h : b = a
    · subst h
      rw [ha] at hn; cases hn
      rw [hk]
      simp only [Value.isStr, beq_self_eq_true, if_true]
      exact ⟨_, _, rfl, ⟨nm, t, ha, rfl⟩, hv, rest⟩
    · have h2 : (nm' == nm) = false := by
        simp only [beq_eq_false_iff_ne, ne_eq]
        intro q; subst q; exact h (inj _ _ _ hn ha)
      rw [hk]
      simp only [Value.isStr, h2, if_neg h]
      exact ⟨_, _, rfl, ⟨nm', t, hn, hk⟩, w, AR.put inj ha hv rest⟩

/-- the part of object.__setattr__ -/
theorem osa_raw {prog : Program} {w : World} {A : Around} {s : Shared} {K : Frag} {x dx C : Addr} {es : List DictEntry} {n : Nat} {nm : Str} {tk : Tok} {v : Value} {R : Except Value Flow → Shared → Prop} (X : K.In s.heap)
    (g1 : s.heap.get? x = some (instObj C dx)) (g2 : s.heap.get? dx = some (dictOf es n)) (F : AtOk K C nm) (hr : es.any (·.refKey) = false) (hz : es.length ≤ 900)
    (h : R (.ok (.ret .none)) { s with heap := s.heap.update dx (Obj.putName nm (PyData.keyHash w.params nm) (.str nm s.toks) v), toks := s.toks + 1 }) :
    codeAny (model prog w) A (.call (.builtin "object.__setattr__") ⟨[.ref x, .str nm tk, v], []⟩) R s := by
  have I : InstAt s.heap x (instObj C dx) C (some (dictOf es n)) := ⟨g1, rfl, rfl, g2⟩
  refine osa_open X I F.over F.taker fun b => ?_
  obtain ⟨cd, hc, hd⟩ := any_some F.dict
  unfold storeInOwnDict
  refine wpAny_bind (wpAny_pure (wpAny_bind (wpAny_bind (wpAny_loadPart g1 (wpAny_bind ((looks_clsIn X hc).here ?_))))))
  rw [hd]
  refine wpAny_pure (a := some dx) (wpAny_bind (wpAny_pure (wpAny_bind ?_)))
  unfold nsSet
  refine wpAny_bind (wpAny_bind (wpAny_askSetting (wpAny_pure (wpAny_bind (wpAny_mkText (wpAny_bind (wpAny_loadPart g2 ?_)))))))
  dsimp only
  rw [aRefKeyMayBeTheName_at, ← Array.any_toList, ← Array.any_toList, hr, Bool.and_false]
  refine wpAny_updatePart g2 ?_
  have hp : Obj.putName nm (PyData.keyHash w.params nm) (.str nm s.toks) v (dictOf es n) = dictOf (putL nm (PyData.keyHash w.params nm) (.str nm s.toks) v es) (putN nm es n) := putName_dict ..
  have D' : (s.heap.update dx (Obj.putName nm (PyData.keyHash w.params nm) (.str nm s.toks) v)).get? dx = some (dictOf (putL nm (PyData.keyHash w.params nm) (.str nm s.toks) v es) (putN nm es n)) := by
    rw [Heap.get?_update_self _ g2 (by rw [hp]; rfl), hp]
  refine wpAny_bind (wpAny_lookBehind D' (pastItsLine_dict ?_) ?_)
  · rw [List.size_toArray, sizeLine_eq]
    have := putL_len (nm := nm) (kh := PyData.keyHash w.params nm) (k := .str nm s.toks) (v := v) es
    lia
  · exact wpAny_pure h

/-- a field is stored -/
theorem set_raw {prog : Program} {w : World} {A : Around} {s : Shared} {K : Frag} {x dx C : Addr} {es : List DictEntry} {n : Nat} {nm : Str} {v : Value} {Q : Unit → Shared → Prop} {E : Value → Shared → Prop} (X : K.In s.heap)
    (g1 : s.heap.get? x = some (instObj C dx)) (g2 : s.heap.get? dx = some (dictOf es n)) (F : AtOk K C nm) (hr : es.any (·.refKey) = false) (hz : es.length ≤ 900)
    (h : Q () { s with heap := s.heap.update dx (Obj.putName nm (PyData.keyHash w.params nm) (.str nm (s.toks + 1)) v), toks := s.toks + 1 + 1 }) :
    wpAny (model prog w) A (setAttr (.ref x) nm v) Q E s := by
  have I : InstAt s.heap x (instObj C dx) C (some (dictOf es n)) := ⟨g1, rfl, rfl, g2⟩
  exact set_plain X I F.set (osa_raw (s := { s with toks := s.toks + 1 }) X g1 g2 F hr hz h)
end
end Mine

end
/-! SH -/
section
set_option maxRecDepth 4000
open PySem PySem.W PyProof.Rows
set_option linter.unusedVariables false
namespace Mine
theorem fm_congr {α β : Type} {f g : α → Option β} : ∀ {l : List α}, (∀ a ∈ l, f a = g a) → l.filterMap f = l.filterMap g
  | [], _ => rfl
  | a :: l, h => by
    rw [List.filterMap_cons, List.filterMap_cons, h a (by simp), fm_congr (l := l) fun b hb => h b (by simp [hb])]
theorem zip_lookup : ∀ {ns : List Str} {vs : List Value}, ns.Nodup → ns.length = vs.length → ns.filterMap (fun n => ((ns.zip vs).lookup n).map (n, ·)) = ns.zip vs := by
  intro ns
  induction ns with
  | nil => intro vs _ h; simp
  | cons n ns ih =>
    intro vs hn h
    cases vs with
    | nil => simp at h
    | cons v vs =>
      simp only [List.length_cons, Nat.add_right_cancel_iff] at h
      obtain ⟨h1, h2⟩ := List.nodup_cons.mp hn
      have := ih h2 h
      simp only [List.zip_cons_cons, List.filterMap_cons, List.lookup_cons, beq_self_eq_true, Option.map_some]
      congr 1
      conv => rhs; rw [← this]
      refine fm_congr fun m hm => ?_
      have : (m == n) = false := by simp only [beq_eq_false_iff_ne, ne_eq]; intro e; exact h1 (e ▸ hm)
      simp only [this]
set_option tactic.hygienic true in
theorem zip_some : ∀ {ns : List Str} {vs : List Value} {n : Str}, ns.length = vs.length → n ∈ ns → ((ns.zip vs).lookup n).isNone = false := by
  intro ns
  induction ns with
  | nil => intro vs n _ h; simp at h
  | cons m ns ih =>
    intro vs n h hm
    cases vs with
    | nil => simp at h
    | cons v vs =>
      simp only [List.zip_cons_cons, List.lookup_cons]
      split
      · rfl
      · rename_i q
        rcases List.mem_cons.mp hm with rfl | hm
        · simp at q
        · exact ih (by simpa using h) hm
theorem fnb {α β γ : Type} {l : List α} {b : β} {f : α → β → Sem (ForInStep β)} {g : β → Sem γ} {r : Sem γ} (e : l = []) (h : g b = r) : (forIn l b f >>= g) = r := by subst e; exact h
theorem pb {α β : Type} {m : Sem α} {a : α} {g : α → Sem β} {r : Sem β} (e : m = pure a) (h : g a = r) : (m >>= g) = r := by subst e; exact h
theorem ifn {α : Type} {c : Prop} [Decidable c] {a b r : α} (n : ¬ c) (h : b = r) : (if c then a else b) = r := (if_neg n).trans h
theorem zipn {α β : Type} {l : List α} {m : List β} (h : m = []) : l.zip m = [] := by subst h; exact List.zip_nil_right
theorem miss {α : Type} {l : List α} {k : Nat} {f : α → Bool} (h : ∀ n ∈ l, f n = false) : ¬ (!(List.filter f (l.take k)).isEmpty) = true := by
  rw [List.filter_eq_nil_iff.mpr fun n hm => by rw [h n (List.mem_of_mem_take hm)]; exact Bool.noConfusion]
  exact Bool.noConfusion
theorem many {n m : Nat} (b : Bool) (h : m ≤ n) : ¬ (decide (m > n) && b) = true := fun e => absurd (of_decide_eq_true ((Bool.and_eq_true _ _).mp e).1) (Nat.not_lt.mpr h)
theorem fmn {α β : Type} {l : List α} {f : α → Option β} {z : List β} (h : l.filterMap f = z) : (l ++ []).filterMap f = z := by rw [List.append_nil]; exact h
theorem bind_plain {fd : FuncData} {as : List Arg} {vals : List Value} {kd : List (Option Expr)} {df : List Expr} (hp : fd.params = ⟨[], as, none, [], kd, none, df⟩) (hd : fd.defaults = .none) (hn : (as.map (·.arg)).Nodup) (hl : as.length = vals.length) :
    bindArgs fd ⟨vals, []⟩ = pure ((as.map (·.arg)).zip vals) := by
  have hl' : (as.map (·.arg)).length = vals.length := (List.length_map _).trans hl
  have hz := zip_lookup (vs := vals) hn hl'
  obtain ⟨⟩ := fd
  cases hp
  cases hd
  unfold bindArgs
  refine fnb rfl ?_
  refine pb (a := none) rfl ?_
  refine ifn (many _ (Nat.le_of_eq hl'.symm)) ?_
  refine ifn (miss fun n hm => zip_some hl' hm) ?_
  refine fnb (zipn List.drop_nil) ?_
  refine fnb rfl ?_
  refine ifn Bool.noConfusion ?_
  exact congrArg (pure (f := Sem)) (fmn hz)

theorem bindL_not {kindOf : Str → Option NameKind} {x : Str} : ∀ {bs : List (Str × Value)} {m : Str → Option Value}, x ∉ bs.map (·.1) → bindL kindOf bs m x = m x
  | [], _, _ => rfl
  | (n, v) :: r, m, h => by
    simp only [List.map_cons, List.mem_cons, not_or] at h
    unfold bindL
    rw [bindL_not h.2]
    split
    · exact if_neg h.1
    · rfl
theorem bindC_not {kindOf : Str → Option NameKind} {x : Str} : ∀ {bs : List (Str × Value)} {m : Str → Option Value}, x ∉ bs.map (·.1) → bindC kindOf bs m x = m x
  | [], _, _ => rfl
  | (n, v) :: r, m, h => by
    simp only [List.map_cons, List.mem_cons, not_or] at h
    unfold bindC
    rw [bindC_not h.2]
    split
    · rfl
    · exact if_neg h.1
theorem bindL_at {kindOf : Str → Option NameKind} {x : Str} (hk : kindOf x = some .local) : ∀ {ns : List Str} {vs : List Value} {m : Str → Option Value} {i : Nat} {v : Value}, ns.Nodup → ns[i]? = some x → vs[i]? = some v → bindL kindOf (ns.zip vs) m x = some v
  | [], _, _, _, _, _, h, _ => by simp at h
  | n :: ns, [], _, _, _, _, _, h => by simp at h
  | n :: ns, v :: vs, m, 0, w, hn, h1, h2 => by
    simp at h1 h2; subst h1; subst h2
    obtain ⟨h3, h4⟩ := List.nodup_cons.mp hn
    rw [List.zip_cons_cons]
    unfold bindL
    rw [bindL_not (fun hm => h3 (by obtain ⟨p, hp, rfl⟩ := List.mem_map.mp hm; exact (List.of_mem_zip hp).1)), if_pos hk]
    simp
  | n :: ns, v :: vs, m, i + 1, w, hn, h1, h2 => by
    simp at h1 h2
    rw [List.zip_cons_cons]
    unfold bindL
    exact bindL_at hk (List.nodup_cons.mp hn).2 h1 h2
theorem bindC_at {kindOf : Str → Option NameKind} {x : Str} (hk : kindOf x ≠ some .local) : ∀ {ns : List Str} {vs : List Value} {m : Str → Option Value} {i : Nat} {v : Value}, ns.Nodup → ns[i]? = some x → vs[i]? = some v → bindC kindOf (ns.zip vs) m x = some v
  | [], _, _, _, _, _, h, _ => by simp at h
  | n :: ns, [], _, _, _, _, _, h => by simp at h
  | n :: ns, v :: vs, m, 0, w, hn, h1, h2 => by
    simp at h1 h2; subst h1; subst h2
    obtain ⟨h3, h4⟩ := List.nodup_cons.mp hn
    rw [List.zip_cons_cons]
    unfold bindC
    rw [bindC_not (fun hm => h3 (by obtain ⟨p, hp, rfl⟩ := List.mem_map.mp hm; exact (List.of_mem_zip hp).1)), if_neg hk]
    simp
  | n :: ns, v :: vs, m, i + 1, w, hn, h1, h2 => by
    simp at h1 h2
    rw [List.zip_cons_cons]
    unfold bindC
    exact bindC_at hk (List.nodup_cons.mp hn).2 h1 h2
set_option tactic.hygienic true in
theorem cells_some {x : Str} : ∀ {ks : List (Str × NameKind)} {n : Nat} {acc : List (Str × Addr)}, (acc.lookup x).isSome = true ∨ (x, .cell) ∈ ks → ((cellsFrom n ks acc).lookup x).isSome = true
  | [], _, _, h => by rcases h with h | h; exact h; simp at h
  | (y, k) :: r, n, acc, h => by
    unfold cellsFrom
    split
    · rename_i q
      refine cells_some ?_
      rw [List.lookup_cons]
      rcases h with h | h
      · left; split; rfl; exact h
      · rcases List.mem_cons.mp h with e | h
        · cases e; left; simp
        · exact .inr h
    · rename_i q
      refine cells_some ?_
      rcases h with h | h
      · exact .inl h
      · rcases List.mem_cons.mp h with e | h
        · cases e; simp at q
        · exact .inr h

noncomputable def Own (C : Cx) (env : Env) (a : Addr) : Prop := a = env.locals ∨ ∃ (i : Nat) (x : Str), C.names[i]? = some x ∧ C.kinds.lookup x = some .cell ∧ env.cells.lookup x = some a
/-- nothing but the block's own frame has changed -/
noncomputable def Off (C : Cx) (env : Env) (X X' : Led) : Prop := ∀ p ∈ X, ¬ Own C env p.1 → p ∈ X'
theorem Off.refl {C : Cx} {env : Env} (X : Led) : Off C env X X := fun u1 h u2 => h
theorem Off.trans {C : Cx} {env : Env} {X Y Z : Led} (a : Off C env X Y) (b : Off C env Y Z) : Off C env X Z := fun p h n => b p (a p h n) n

noncomputable def flOk (μ : Ads) (T : Led) (o : Option MV) (fl : Flow) : Prop := match o with
  | some v => ∃ x, fl = .ret x ∧ VR μ T v x
  | none => fl = .next
theorem flOk.mono {μ μ' : Ads} {T T' : Led} (hm : μ <+: μ') (hT : ∀ p ∈ T, p ∈ T') {o : Option MV} {fl : Flow} (h : flOk μ T o fl) : flOk μ' T' o fl := by
  cases o with
  | none => exact h
  | some v => obtain ⟨x, e, r⟩ := h; exact ⟨x, e, r.mono hm hT⟩

structure AftS (c : Cw) (C : Cx) (env : Env) (h' : Heap) (l' : Loc) (μ : Ads) (T X : Led) (μ' : Ads) (H' : MH) (T' X' : Led) : Prop where
  r : Rel c h' μ' H' T' X'
  m : μ <+: μ'
  t : ∀ p ∈ T, p ∈ T'
  f : FR C env l' μ' T' X'
  o : Off C env X X'
theorem AftS.trans {c : Cw} {C : Cx} {env : Env} {h1 h2 : Heap} {l1 l2 : Loc} {μ μ1 μ2 : Ads} {T T1 T2 X X1 X2 : Led} {H1 H2 : MH} (x : AftS c C env h1 l1 μ T X μ1 H1 T1 X1) (y : AftS c C env h2 l2 μ1 T1 X1 μ2 H2 T2 X2) : AftS c C env h2 l2 μ T X μ2 H2 T2 X2 :=
  ⟨y.r, x.m.trans y.m, fun p hp => y.t p (x.t p hp), y.f, x.o.trans y.o⟩
theorem Aft.s {c : Cw} {C : Cx} {env : Env} {l : Loc} {h' : Heap} {μ μ' : Ads} {T T' X : Led} {H' : MH} (x : Aft c h' μ T μ' H' T' X) (f : FR C env l μ T X) : AftS c C env h' l μ T X μ' H' T' X :=
  ⟨x.r, x.m, x.t, f.mono x.m x.t, .refl X⟩
theorem AftS.pre {c : Cw} {C : Cx} {A : Around} {env : Env} {h1 : Heap} {l1 : Loc} {μ μ1 : Ads} {T T1 X X1 : Led} {H1 : MH} (x : AftS c C env h1 l1 μ T X μ1 H1 T1 X1) (a : AOk A C.rank) : Pre c C A env l1 h1 μ1 H1 T1 X1 := ⟨a, x.r, x.f⟩

noncomputable def MeS (c : Cw) (l : Loc) (H : MH) (st : MS) (o : Option MV) (l' : Loc) (H' : MH) : Prop :=
  ∀ (C : Cx) (ps : Stmt), mS c.G C st ps = true → ∀ (A : Around) (env : Env) (s : Shared) (μ : Ads) (T X : Led) (Q : Flow → Shared → Prop) (E : Value → Shared → Prop),
    Pre c C A env l s.heap μ H T X → (∀ s' μ' T' X' fl, Stp s s' → AftS c C env s'.heap l' μ T X μ' H' T' X' → flOk μ' T' o fl → Q fl s') → wpAny (Km c) A (exec ps env) Q E s
noncomputable def MeSs (c : Cw) (l : Loc) (H : MH) (ss : List MS) (o : Option MV) (l' : Loc) (H' : MH) : Prop :=
  ∀ (C : Cx) (ps : List Stmt), mSs c.G C ss ps = true → ∀ (A : Around) (env : Env) (s : Shared) (μ : Ads) (T X : Led) (Q : Flow → Shared → Prop) (E : Value → Shared → Prop),
    Pre c C A env l s.heap μ H T X → (∀ s' μ' T' X' fl, Stp s s' → AftS c C env s'.heap l' μ T X μ' H' T' X' → flOk μ' T' o fl → Q fl s') → wpAny (Km c) A (execs ps env) Q E s

structure COk (A : Around) (r : Nat) : Prop where
  h : A.handled = none
  d : A.depth + 10 * r + 25 ≤ 900
  u : A.units + 100 * r + 250 ≤ 9000
noncomputable def MeCall (c : Cw) (f : Nat) (vs : List MV) (H : MH) (v : MV) (H' : MH) : Prop :=
  ∀ (fa : Addr), c.fnA f = some fa → ∀ (A : Around) (s : Shared) (μ : Ads) (T X : Led) (xs : List Value) (R : Result → Shared → Prop), COk A (c.G.rank f) → Rel c s.heap μ H T X → VRs μ T vs xs →
    (∀ s' μ' T' x, Stp s s' → Aft c s'.heap μ T μ' H' T' X → VR μ' T' v x → R (.ok (.ret x)) s') → codeAny (Km c) A (.call (.ref fa) ⟨xs, []⟩) R s

noncomputable def asFunc (d : Data) : Option { x : FuncData // d = .func x } := match d with | .func x => some ⟨x, rfl⟩ | _ => none
noncomputable def fnChk (K : Frag) (G : GI) (P : Prg) (f : Nat) (names : List Str) (fa : Addr) : Bool := (o1 (K.lookup fa)).any fun o => (asFunc o.1.data).any fun fd => fdChk G P f names fd.1 && (fd.1.globals == mainGlobals && (fd.1.builtins == builtinsNs && codeIn K fd.1.code fd.1.qualname))
theorem argEta (a : Arguments) : a = ⟨a.posonlyargs, a.args, a.vararg, a.kwonlyargs, a.kw_defaults, a.kwarg, a.defaults⟩ := by cases a; rfl
theorem sto2_or {o : Option NameKind} (h : sto2 o = true) : o = some .local ∨ o = some .cell := by
  cases o with
  | none => exact noF h
  | some k => cases k <;> first | exact .inl rfl | exact .inr rfl | exact noF h
theorem noneV_ok {v : Value} (h : (noneV v).isSome = true) : v = .none := match noneV v, h with | some x, _ => x.2
structure FdW (G : GI) (f : Nat) (names : List Str) (fd : FuncData) (fn : Fn) (body : List Stmt) : Prop where
  bd : fd.body = .stmts body
  ps : fd.params = ⟨[], fd.params.args, none, [], fd.params.kw_defaults, none, fd.params.defaults⟩
  cl : fd.closure = []
  df : fd.defaults = .none
  b1 : fd.scope.kind = .function
  b2 : fd.scope.isCoroutine = false
  b3 : fd.scope.isGenerator = false
  b4 : fd.params.args.map (·.arg) = names.take fn.np
  b5 : fn.np ≤ fn.nl
  b6 : names.length = fn.nl
  b7 : names.Nodup
  b8 : ∀ x ∈ names.take fn.np, fd.scope.names.lookup x = some .local ∨ fd.scope.names.lookup x = some .cell
  b9 : ∀ y ∈ fd.scope.names, y.2 ≠ .free
  b10 : mSs G ⟨names, fd.scope.names, G.rank f⟩ fn.body body = true
theorem fdW {G : GI} {f : Nat} {names : List Str} {fd : FuncData} {fn : Fn} {body : List Stmt} (hb : fd.body = .stmts body) (h : fdOk G f names fd fn body = true) : FdW G f names fd fn body := by
  have h2 := tl1 h; have h3 := tl1 h2; have h4 := tl1 h3; have h5 := tl1 h4; have h6 := tl1 h5; have h7 := tl1 h6; have h8 := tl1 h7; have h9 := tl1 h8; have h10 := tl1 h9; have h11 := tl1 h10; have h12 := tl1 h11; have h13 := tl1 h12; have h14 := tl1 h13; have h15 := tl1 h14
  have e := argEta fd.params
  rw [nl h, nn h2, nl h3, nn h4] at e
  exact ⟨hb, e, nl h5, noneV_ok (hd1 h6), bq h7, notT (hd1 h8), notT (hd1 h9), bq h10, dq h11, bq h12, dq h13, fun x hx => sto2_or (List.all_eq_true.mp (hd1 h14) x hx), fun y hy q => by
    have := List.all_eq_true.mp (hd1 h15) y hy; rw [q] at this; exact noF this, tl1 h15⟩

theorem Rel.addXs {c : Cw} {h h' : Heap} {μ : Ads} {H : MH} {T X : Led} (R : Rel c h μ H T X) (hg : Grow h h') (hs : h.objs.size ≤ h'.objs.size) : ∀ (Y : Led), (∀ p ∈ Y, h'.get? p.1 = some p.2 ∧ h.objs.size ≤ p.1) → Rel c h' μ H T (Y ++ X)
  | [], _ => R.grow hg (Nat.le_trans R.size hs)
  | p :: Y, hp => by
    obtain ⟨p1, p2⟩ := hp p (by simp)
    have R1 := Rel.addXs R hg hs Y fun q hq => hp q (by simp [hq])
    obtain ⟨a, o⟩ := p
    obtain ⟨f1, f2, f3, f4⟩ := R.fresh p2
    exact R1.addX p1 f1 f2 f4

theorem Call_ok {c : Cw} (ok : c.Ok) {f : Nat} {fn : Fn} {vs : List MV} {H H' : MH} {o : Option MV} {l' : Loc} (hP : c.P.fn f = some fn) (hF : ∀ fa, c.fnA f = some fa → fnChk c.K c.G c.P f (c.names f) fa = true) (hl : vs.length = fn.np)
    (hb : MeSs c (vs.map some ++ List.replicate (fn.nl - fn.np) Option.none) H fn.body o l' H') : MeCall c f vs H (o.getD .none) H' := by
  intro fa hfa A s μ T X xs R a r v k
  refine anyE (hF fa hfa) fun ob hc => anyE hc fun fd hc => anyE (hd1 hc) fun fn' hf => anyE hf fun body hf => ?_
  have e : fn'.1 = fn := Option.some.inj (fn'.2.symm.trans hP)
  rw [e] at hf
  have W := fdW body.2 hf
  have b5 := W.b5; have b6 := W.b6
  have hg : fd.1.globals = mainGlobals := bq (tl1 hc)
  have hbl : fd.1.builtins = builtinsNs := bq (tl1 (tl1 hc))
  have hcode : codeIn c.K fd.1.code fd.1.qualname = true := tl1 (tl1 (tl1 hc))
  have hK := ob.2; have hD := fd.2; have hbd := body.2
  generalize body.1 = body at W hbd
  clear hf e
  generalize fd.1 = fd at W hg hbl hcode hD hbd
  generalize ob.1 = ob at hK hD
  have b4 := W.b4
  generalize has0 : fd.params.args = as at b4
  have KX : c.K.In s.heap := fun b o e => r.keep b o (ok.KX b o e)
  have hlx : xs.length = fn.np := by rw [← v.len, hl]
  have has : (as.map (·.arg)).length = fn.np := by rw [b4, List.length_take, W.b6]; lia
  have hnd : (as.map (·.arg)).Nodup := by rw [b4]; exact W.b7.sublist (List.take_sublist _ _)
  have hbnd := bind_plain (vals := xs) (has0 ▸ W.ps) W.df hnd (by rw [List.length_map] at has; lia)
  have hmem : ∀ y ∈ (as.map (·.arg)).zip xs, y.1 ∈ (c.names f).take fn.np := fun y hy => by rw [← b4]; exact (List.of_mem_zip hy).1
  have hkinds := W.b8
  refine codeAny_call_cells (binds := (as.map (·.arg)).zip xs) (by have := a.d; simp only [recursionLimit]; lia) (KX _ _ hK) hD (ok.lim.keeps r.keep) (codeRec_of KX hcode) W.bd hbnd W.cl ?_ ?_ W.b2 W.b3 W.b1
  · intro y hy
    rcases hkinds _ (hmem y hy) with q | q
    · exact .inl q
    · exact .inr ⟨q, cells_some (.inr (mem_of_lookup q))⟩
  · intro s₁ I
    obtain ⟨⟨⟨g1, tk, e1⟩, ⟨oL, es, ep, n1, n2, n3, n4⟩, ik, ifr⟩, icell, iap, iab⟩ := I
    generalize henv : callEnvC fd s.heap.objs.size fa = env at *
    have hk : ∀ x, env.kindOf x = fd.scope.names.lookup x := by subst henv; intro x; rfl
    have es1 : s₁.heap = g1 := by rw [e1]
    have hsz : s.heap.objs.size ≤ s₁.heap.objs.size := Nat.le_of_lt (Nat.lt_of_le_of_lt ifr (Heap.lt_size n1))
    have hY : ∀ (x : Str) a, env.cells.lookup x = some a → x ∈ c.names f → (a, (s₁.heap.get? a).getD default) ∈ ((env.locals :: (c.names f).filterMap fun x => env.cells.lookup x).map fun a => (a, (s₁.heap.get? a).getD default)) := fun x a h1 h2 =>
      List.mem_map.mpr ⟨a, .tail _ (List.mem_filterMap.mpr ⟨x, h2, h1⟩), rfl⟩
    have hZ : ∀ p ∈ ((env.locals :: (c.names f).filterMap fun x => env.cells.lookup x).map fun a => (a, (s₁.heap.get? a).getD default)), s₁.heap.get? p.1 = some p.2 ∧ s.heap.objs.size ≤ p.1 := fun p hp => by
      obtain ⟨b, hb, rfl⟩ := List.mem_map.mp hp
      rcases List.mem_cons.mp hb with rfl | hb
      · exact ⟨by simp only [n1, Option.getD_some], ifr⟩
      · obtain ⟨n, _, hn⟩ := List.mem_filterMap.mp hb
        obtain ⟨oc, h7, h8⟩ := icell n b hn
        have := iab n b (mem_of_lookup hn)
        exact ⟨by simp only [h7, Option.getD_some], Nat.le_of_lt (Nat.lt_of_le_of_lt ifr this)⟩
    have hL : (env.locals, oL) ∈ ((env.locals :: (c.names f).filterMap fun x => env.cells.lookup x).map fun a => (a, (s₁.heap.get? a).getD default)) := List.mem_map.mpr ⟨env.locals, .head _, by simp only [n1, Option.getD_some]⟩
    generalize ((env.locals :: (c.names f).filterMap fun x => env.cells.lookup x).map fun a => (a, (s₁.heap.get? a).getD default)) = Y at hY hZ hL
    have R1 := r.addXs (h' := s₁.heap) ik hsz Y hZ
    have hdef : ∀ (i : Nat) v x, getL (vs.map some ++ List.replicate (fn.nl - fn.np) Option.none) i = some v → (c.names f)[i]? = some x → ∃ val, xs[i]? = some val ∧ VR μ T v val ∧ (as.map (·.arg))[i]? = some x := fun i w x q1 q2 => by
      unfold getL at q1
      by_cases hi : i < vs.length
      · rw [List.getElem?_append_left (by simpa using hi), List.getElem?_map] at q1
        cases q3 : vs[i]? with
        | none => rw [q3] at q1; simp at q1
        | some w' =>
          rw [q3] at q1
          simp at q1; subst q1
          obtain ⟨val, q4, q5⟩ := v.get q3
          refine ⟨val, q4, q5, ?_⟩
          rw [b4, List.getElem?_take, if_pos (by lia)]; exact q2
      · rw [List.getElem?_append_right (by simpa using hi)] at q1
        simp [List.getElem?_replicate] at q1
        split at q1 <;> simp at q1
    have F1 : FR ⟨c.names f, fd.scope.names, c.G.rank f⟩ env (vs.map some ++ List.replicate (fn.nl - fn.np) Option.none) μ T (Y ++ X) := by
      refine ⟨by subst henv; exact W.b1, by subst henv; rfl, by subst henv; exact hg, by subst henv; exact hbl, ?_, W.b7, ?_, ?_, ?_⟩
      · simp; lia
      · refine ⟨oL, es, ep, List.mem_append_left _ hL, n2, n3, fun i w x q1 q2 q3 => ?_⟩
        obtain ⟨val, q4, q5, q6⟩ := hdef i w x q1 q2
        refine ⟨val, ?_, q5⟩
        rw [n4]
        exact bindL_at (by rw [hk]; exact q3) hnd q6 q4
      · intro i x q2 q3
        have q3' : fd.scope.names.lookup x = some .cell := by
          rcases q3 with q3 | q3
          · exact q3
          · exact absurd rfl (W.b9 _ (mem_of_lookup q3))
        have := cells_some (x := x) (ks := fd.scope.names) (n := s.heap.objs.size + 1) (acc := []) (.inr (mem_of_lookup q3'))
        obtain ⟨a', ha'⟩ := Option.isSome_iff_exists.mp this
        have ha2 : env.cells.lookup x = some a' := by subst henv; exact ha'
        obtain ⟨oc, h7, h8⟩ := icell x a' ha2
        refine ⟨a', oc, _, ha2, List.mem_append_left _ ?_, h8, fun w q1 => ?_⟩
        · have := hY x a' ha2 (List.mem_of_getElem? q2)
          rw [h7] at this; exact this
        · obtain ⟨val, q4, q5, q6⟩ := hdef i w x q1 q2
          refine ⟨val, ?_, q5⟩
          exact bindC_at (by rw [hk, q3']; simp) hnd q6 q4
      · intro x y a' h1 h2
        exact name_of_addr iap (mem_of_lookup h1) (mem_of_lookup h2)
    refine hb ⟨c.names f, fd.scope.names, c.G.rank f⟩ body W.b10 (A.deeper env) env s₁ μ T (Y ++ X) _ _ ⟨⟨a.h, ?_, ?_⟩, R1, F1⟩ fun s' μ' T' X' fl st aa hfl => ?_
    · have := a.d; show A.depth + 1 + _ + _ ≤ _; simp only; lia
    · have := a.u; show A.units + 3 + _ + _ ≤ _; simp only; lia
    have haft : Aft c s'.heap μ T μ' H' T' X := ⟨aa.r.sub fun p hp => aa.o p (List.mem_append_right _ hp) fun ho => by
      have hlt : p.1 < s.heap.objs.size := Heap.lt_size (r.xl p hp)
      rcases ho with e | ⟨i, x, _, _, e⟩
      · rw [e] at hlt; exact absurd ifr (Nat.not_le_of_lt hlt)
      · have := iab x p.1 (mem_of_lookup e)
        exact Nat.lt_irrefl _ (Nat.lt_of_lt_of_le (Nat.lt_trans hlt (Nat.lt_of_le_of_lt ifr this)) (Nat.le_refl _)), aa.m, aa.t⟩
    have st' : Stp s s' := Stp.trans (by rw [e1]; exact ⟨rfl, rfl, rfl⟩) st
    cases o with
    | none => cases hfl; exact k s' μ' T' _ st' haft (by simp only [Option.getD_none]; unfold VR; rfl)
    | some v' => obtain ⟨x, rfl, hv⟩ := hfl; exact k s' μ' T' _ st' haft hv
end Mine

end
/-! SI -/
section
open PySem PySem.W PySem.Calls PyProof.Rows
set_option linter.unusedVariables false
set_option maxRecDepth 20000
namespace Mine

/-- what the top tells of a class that is called -/
structure ClsOk (c : Cw) (k : Nat) (C : Addr) : Prop where
  makes : makesIn c.K C = true
  keep : keepIn c.K (.ref C) = true
  name : ∀ nm, c.G.clsN k = some nm → c.mg nm = some (.ref C)
  init : ∀ f, c.P.init k = some (some f) → ∃ fa, c.fnA f = some fa ∧ findIn c.K (.ref C) "__init__" = some (some (.ref fa)) ∧ typeIn c.K (.ref fa) = some (.type "function") ∧ c.G.rank f < c.G.clsRank k
  init0 : c.P.init k = some Option.none → findIn c.K (.ref C) "__init__" = some (some (.builtin "object.__init__"))

structure Cw.OkC (c : Cw) : Prop extends c.OkA where
  fn : ∀ f nm, c.G.fnN f = some nm → ∃ fa, c.fnA f = some fa ∧ c.mg nm = some (.ref fa)
  keep : ∀ f fa, c.fnA f = some fa → keepIn c.K (.ref fa) = true
  meth : ∀ k C a nm f, c.clsA k = some C → c.G.atN a = some nm → c.P.meth k a = some f → ∃ fa, c.fnA f = some fa ∧ MeOk c.K C nm fa ∧ keepIn c.K (.ref fa) = true ∧ c.G.rank f ≤ c.G.atRank a
  cls : ∀ k nm, c.G.clsN k = some nm → ∃ C, c.clsA k = some C ∧ ClsOk c k C
  bi : ∀ b : Bi, c.mg b.nm = none

theorem mEs_plain {G : GI} {C : Cx} {pos : Pos} {env : Env} : ∀ {es : List ME} {ps : List Expr}, mEs G C es ps = true → (backTo pos (starEach ps env)).any (·.1) = false
  | [], ps, h => v_nil (M := fun ps => (backTo pos (starEach ps env)).any (·.1) = false) h rfl
  | e :: es, ps, h => v_cons (M := fun ps => (backTo pos (starEach ps env)).any (·.1) = false) h fun x r h1 h2 => by
    rw [star_cons h1]
    exact mEs_plain h2
theorem args_any {M : Model} {A : Around} {s : Shared} {f : Value} {G : GI} {C : Cx} {pos : Pos} {env : Env} {es : List ME} {ps : List Expr} {Q : Args → Shared → Prop} {E : Value → Shared → Prop} (hm : mEs G C es ps = true)
    (h : wpAny M A (spliced (backTo pos (starEach ps env))) (fun vs s' => Q ⟨vs, []⟩ s') E s) : wpAny M A (evalArgs f true (backTo pos (starEach ps env)) []) Q E s := by
  cases es with
  | nil =>
    revert h; refine v_nil hm ?_; intro h
    unfold evalArgs
    show wpAny M A (spliced [] >>= _) Q E s
    refine wpAny_bind (wpAny_mono h (fun vs s' h' => ?_) fun u1 u2 x => x)
    refine wpAny_holding ?_
    exact wpAny_bind (wpAny_pure (wpAny_bind (wpAny_pure (wpAny_pure h'))))
  | cons e es =>
    revert h; refine v_cons hm fun x r m1 m2 => ?_; intro h
    rw [star_cons m1] at h ⊢
    exact evalArgs_plain h
theorem with_K {M : Model} {A : Around} {s : Shared} {K : Frag} {f : Value} {first : List Value} {G : GI} {C : Cx} {pos : Pos} {env : Env} {es : List ME} {ps : List Expr} {Q : Value → Shared → Prop} {E : Value → Shared → Prop} (hm : mEs G C es ps = true)
    (hk : keepIn K f = true) (h : wpAny M A (spliced (backTo pos (starEach ps env))) (fun vs s₁ => K.In s₁.heap ∧ wpAny M A (call f (first ++ vs)) Q E s₁) E s) :
    wpAny M A (callWith pos f first (backTo pos (starEach ps env)) []) Q E s :=
  callWith_of (by rw [mEs_plain hm]; rfl) (keeps_K hk) (args_any hm h)
theorem with_B {M : Model} {A : Around} {s : Shared} {id : String} {first : List Value} {G : GI} {C : Cx} {pos : Pos} {env : Env} {es : List ME} {ps : List Expr} {Q : Value → Shared → Prop} {E : Value → Shared → Prop} (hm : mEs G C es ps = true)
    (h : wpAny M A (spliced (backTo pos (starEach ps env))) (fun vs s₁ => wpAny M A (call (.builtin id) (first ++ vs)) Q E s₁) E s) :
    wpAny M A (callWith pos (.builtin id) first (backTo pos (starEach ps env)) []) Q E s :=
  Calls.callWith_builtin (mEs_plain hm) (args_any hm h)
theorem with_T {M : Model} {A : Around} {s : Shared} {id : String} {first : List Value} {G : GI} {C : Cx} {pos : Pos} {env : Env} {es : List ME} {ps : List Expr} {Q : Value → Shared → Prop} {E : Value → Shared → Prop} (hm : mEs G C es ps = true)
    (h : wpAny M A (spliced (backTo pos (starEach ps env))) (fun vs s₁ => wpAny M A (call (.type id) (first ++ vs)) Q E s₁) E s) :
    wpAny M A (callWith pos (.type id) first (backTo pos (starEach ps env)) []) Q E s :=
  PyProof.Rows.callWith_type (mEs_plain hm) (args_any hm h)
theorem call_name (id : Str) (p : Pos) (args : List Expr) (pos : Pos) (env : Env) : eval (.Call (.Name id p) args [] pos) env = (do
    callWith pos (← eval (.Name id p) env) [] (backTo pos (starEach args env)) []) := rfl

section
variable {c : Cw} {l : Loc} {H H1 H2 H3 H4 : MH}

theorem AOk.call {A : Around} {C : Cx} {r : Nat} (a : AOk A C.rank) (h : r < C.rank) : COk A r := ⟨a.h, by have := a.d; lia, by have := a.u; lia⟩

theorem E_call (ok : c.OkC) {f : Nat} {es : List ME} {vs : List MV} {v : MV} (h1 : MeEs c l H es vs H1) (h2 : MeCall c f vs H1 v H2) : MeE c l H (.call f es) v H2 := by
  intro C pe hm; refine v_call hm fun x p ps pos m1 m2 m3 m4 m5 => ?_; intro A env s μ T X Q E P k
  obtain ⟨fa, e1, e2⟩ := ok.fn f x m1
  rw [call_name]
  refine wpAny_bind (glob_name ok.toOk P m2 e2 (with_K m5 (ok.keep f fa e1) (h1 C ps m5 pos A env s μ T X _ _ P fun s1 μ1 T1 xs st1 a1 v1 => ?_)))
  refine ⟨fun b o e => a1.r.keep b o (ok.KX b o e), wpAny_call (h2 fa e1 A s1 μ1 T1 X xs _ (P.a.call m3) a1.r v1 fun s2 μ2 T2 z st2 a2 v2 => ?_)⟩
  exact k s2 μ2 T2 z (st1.trans st2) (a1.trans a2) v2

theorem B_call {f : Nat} {es : List ME} {r : Bool} (h1 : MeE c l H (.call f es) (.bool r) H1) : MeB c l H (.call f es) r H1 := by
  intro C pe hm; have hm' := hm; revert hm'; refine v_call hm fun x p ps pos u1 u2 u3 u4 u5 => ?_; intro hm' A env s μ T X Q E P k
  refine isTrue_plain (h1 C _ hm' A env s μ T X _ _ P fun s1 μ1 T1 z st1 a1 v1 => ?_)
  unfold VR at v1; subst v1
  exact wpAny_truthy_bool (k s1 μ1 T1 st1 a1)

theorem tc_under {A : Around} {C : Addr} {xs : List Value} : (A.under (.builtin "type.__call__" ⟨.ref C :: xs, []⟩)).handled = A.handled ∧ (A.under (.builtin "type.__call__" ⟨.ref C :: xs, []⟩)).depth = A.depth + 1 ∧ (A.under (.builtin "type.__call__" ⟨.ref C :: xs, []⟩)).units = A.units + 1 :=
  ⟨rfl, rfl, rfl⟩

theorem new_inst {k : Nat} {C : Addr} {h : Heap} {μ : Ads} {T X : Led} (R : Rel c h μ H T X) (hC : c.clsA k = some C) :
    Aft c ((h.push emptyDict).push (instObj C h.objs.size)) μ T (μ ++ [[h.objs.size + 1, h.objs.size]]) (H ++ [.inst k []]) T X ∧ VR (μ ++ [[h.objs.size + 1, h.objs.size]]) T (.ref H.length) (.ref (h.objs.size + 1)) := by
  have f := R.fresh (Nat.le_refl _)
  have f1 := R.fresh (Nat.le_succ h.objs.size)
  refine ⟨⟨((R.push emptyDict).push (instObj C h.objs.size)).addH ⟨_, _, [], 0, C, rfl, hC, ?_, ?_, rfl⟩ (by simp) ?_ ?_ ?_ ?_, List.prefix_append _ _, fun u1 h => h⟩, ?_⟩
  · heap_get
  · heap_get
  · intro a ha; rcases List.mem_cons.mp ha with rfl | ha; exact f1.1; rw [List.mem_singleton.mp ha]; exact f.1
  · intro a ha; rcases List.mem_cons.mp ha with rfl | ha; exact f1.2.1; rw [List.mem_singleton.mp ha]; exact f.2.1
  · intro a ha; rcases List.mem_cons.mp ha with rfl | ha; exact f1.2.2.1; rw [List.mem_singleton.mp ha]; exact f.2.2.1
  · intro a ha; rcases List.mem_cons.mp ha with rfl | ha; exact f1.2.2.2; rw [List.mem_singleton.mp ha]; exact f.2.2.2
  · unfold VR
    exact ⟨_, [h.objs.size], rfl, by rw [← R.len]; simp⟩

theorem E_new (ok : c.OkC) {k f : Nat} {es : List ME} {vs : List MV} (h1 : MeEs c l H es vs H1) (hf : c.P.init k = some (some f)) (h2 : MeCall c f (.ref H1.length :: vs) (H1 ++ [.inst k []]) .none H2) : MeE c l H (.new k es) (.ref H1.length) H2 := by
  intro C pe hm; refine v_new hm fun x p ps pos m1 m2 m3 m4 m5 => ?_; intro A env s μ T X Q E P kk
  obtain ⟨D, e1, e2⟩ := ok.cls k x m1
  obtain ⟨fa, e3, e4, e5, e6⟩ := e2.init f hf
  rw [call_name]
  refine wpAny_bind (glob_name ok.toOk P m2 (e2.name x m1) (with_K m5 e2.keep (h1 C ps m5 pos A env s μ T X _ _ P fun s1 μ1 T1 xs st1 a1 v1 => ?_)))
  have KX : c.K.In s1.heap := fun b o e => a1.r.keep b o (ok.KX b o e)
  refine ⟨KX, wpAny_call ?_⟩
  obtain ⟨b1, b2⟩ := new_inst a1.r e1
  refine make_core (rest := [] ++ xs) (makes_of KX e2.makes) (looks_findIn KX e4) (fun self => bind_fn KX self e5) (.inl rfl) ?_
  have u := tc_under (A := A) (C := D) (xs := [] ++ xs)
  have ha := P.a.call (Nat.lt_trans e6 m3)
  refine h2 fa e3 _ _ _ _ X (.ref (s1.heap.objs.size + 1) :: xs) _ ⟨u.1.trans ha.h, ?_, ?_⟩ b1.r (VRs.cons b2 (v1.mono b1.m b1.t)) fun s2 μ2 T2 z st2 a2 v2 => ?_
  · have := P.a.d; lia
  · have := P.a.u; lia
  · unfold VR at v2; subst v2
    refine ⟨rfl, kk s2 μ2 T2 _ (st1.trans ⟨st2.gens, st2.drawn, st2.os⟩) (a1.trans (b1.trans a2)) (b2.mono a2.m a2.t)⟩

theorem E_new0 (ok : c.OkC) {k : Nat} (hf : c.P.init k = some Option.none) : MeE c l H (.new k []) (.ref H.length) (H ++ [.inst k []]) := by
  intro C pe hm; refine v_new hm fun x p ps pos m1 m2 m3 m4 m5 => ?_; intro A env s μ T X Q E P kk
  obtain ⟨D, e1, e2⟩ := ok.cls k x m1
  have e3 := e2.init0 hf
  rw [call_name]
  refine wpAny_bind (glob_name ok.toOk P m2 (e2.name x m1) (with_K m5 e2.keep (Es_nil (l := l) C ps m5 pos A env s μ T X _ _ P fun s1 μ1 T1 xs st1 a1 v1 => ?_)))
  unfold VRs at v1; subst v1
  have KX : c.K.In s1.heap := fun b o e => a1.r.keep b o (ok.KX b o e)
  refine ⟨KX, wpAny_call ?_⟩
  obtain ⟨b1, b2⟩ := new_inst a1.r e1
  have Y := makes_of (M := Km c) KX e2.makes
  refine make_core (rest := []) Y (looks_findIn KX e3) (fun self => Looks.of_pure (oi_bind self)) (.inr ⟨rfl, rfl⟩) ?_
  have hx : ((s1.heap.push emptyDict).push (instObj D s1.heap.objs.size)).get? (s1.heap.objs.size + 1) = some (instObj D s1.heap.objs.size) := by heap_get
  have t1 : Looks (Km c) ((s1.heap.push emptyDict).push (instObj D s1.heap.objs.size)) (typeOf (.ref (s1.heap.objs.size + 1))) (.ref D) := (Looks.ld hx).andThen .now
  have t2 : Looks (Km c) ((s1.heap.push emptyDict).push (instObj D s1.heap.objs.size)) (isInstance (.ref (s1.heap.objs.size + 1)) (.type "object")) true := t1.andThen (Y.top.keeps fun b o e => Heap.get?_push_of_some _ (Heap.get?_push_of_some _ e))
  refine codeAny_call_builtin oi_plain entry_oi (@check_slot (Km c) _ _ _ "object.__init__" "object" "__init__" (.ref (s1.heap.objs.size + 1)) [] [] _ oi_kind oi_split t2 (oi_args (.ref (s1.heap.objs.size + 1))) ?_)
  rw [oi_run]
  exact wpAny_pure (And.intro rfl (kk ⟨_, _, _, _, _⟩ _ T1 _ (st1.trans ⟨rfl, rfl, rfl⟩) (a1.trans b1) b2))

theorem E_meth (ok : c.OkC) {e : ME} {m k i f : Nat} {fs : List (Nat × MV)} {es : List ME} {vs : List MV} {v : MV} (h1 : MeE c l H e (.ref k) H1) (hk : H1[k]? = some (.inst i fs)) (hn : fs.lookup m = Option.none) (hf : c.P.meth i m = some f)
    (h2 : MeEs c l H1 es vs H2) (h3 : MeCall c f (.ref k :: vs) H2 v H3) : MeE c l H (.meth e m es) v H3 := by
  intro C pe hm; refine v_meth hm fun x nm ap ps pos m0 m1 m2 m3 m4 m5 m6 => ?_; intro A env s μ T X Q E P kk
  rw [arm_eval_Call, attrBase_whole m2]
  refine wpAny_bind (h1 C _ m5 A env s μ T X _ _ P fun s1 μ1 T1 p st1 a1 v1 => wpAny_bind (wpAny_standAt ?_))
  obtain ⟨a', d, es', n, Cc, hμ, hc, g1, g2, z, I⟩ := a1.r.inst hk v1
  obtain ⟨fa, e1, e2, e3, e4⟩ := ok.meth i Cc m nm f hc m1 hf
  have KX : c.K.In s1.heap := fun b o e => a1.r.keep b o (ok.KX b o e)
  have hform : methodCallForm (ps.length + ([] : List Keyword).length) (backTo pos (starEach ps env)) (backToKw pos (keywordEach [] env)) = true := by
    have hp := mEs_plain (pos := pos) (env := env) m6
    have hl := mEs_len m6
    unfold methodCallForm
    have : (backTo pos (starEach ps env)).all (!·.1) = true := by
      rw [List.all_eq_true]; intro y hy
      rw [List.any_eq_false] at hp
      have := hp y hy
      simpa using this
    rw [this]
    have e0 : backToKw pos (keywordEach [] env) = [] := rfl
    rw [e0]; simp
    lia
  unfold methodCall
  rw [hform]
  have hl := z.lookIn ok.inj m1 (n := n)
  rw [hn] at hl
  have hs : shadowIn (some (dictOf es' n)) nm = some false := by unfold shadowIn; simp only [hl]; rfl
  have pg := plainGet_of e2.plain
  refine wpAny_bind (wpAny_holding (method_fn KX I pg.1 pg.2 e2.find (by have := e2.fn; unfold isFn at this; exact beq_iff_eq.mp this) hs ?_))
  refine wpAny_bind (m := methodCallPos true x env ap pos) ?_
  have hpos : methodCallPos true x env ap pos = pure pos := by unfold methodCallPos; simp [m0]
  rw [hpos]
  refine wpAny_pure ?_
  refine with_K m6 e3 (h2 C ps m6 pos A env s1 μ1 T1 X _ _ (P.aft a1) fun s2 μ2 T2 xs st2 a2 v2 => ?_)
  refine ⟨fun b o e => a2.r.keep b o (ok.KX b o e), wpAny_call (h3 fa e1 A s2 μ2 T2 X (.ref a' :: xs) _ (P.a.call (Nat.lt_of_le_of_lt e4 m3)) a2.r (VRs.cons (v1.mono a2.m a2.t) v2) fun s3 μ3 T3 z st3 a3 v3 => ?_)⟩
  exact kk s3 μ3 T3 z (st1.trans (st2.trans st3)) (a1.trans (a2.trans a3)) v3
end
end Mine

end
/-! SJ -/
section
open PySem PySem.W PySem.Calls PyProof.Rows
set_option linter.unusedVariables false
set_option maxRecDepth 20000
namespace Mine

noncomputable def biV : Bi → Value
  | .len => .builtin "len" | .max => .builtin "max" | .min => .builtin "min" | .sorted => .builtin "sorted"
  | .int => .type "int" | .range => .type "range" | .list => .type "list" | .tuple => .type "tuple"

structure Cw.OkB (c : Cw) : Prop extends c.OkC where
  mb : ∀ b : Bi, c.mb b.nm = some (biV b)
  tup : ∀ g is x, c.P.gtup g = some is → c.G.tupN g = some x → ∃ a o its n, c.mg x = some (.ref a) ∧ c.B.get? a = some o ∧ o.cls = .type "tuple" ∧ o.data = .seq its n ∧ IntsAre its.toList is

noncomputable def BiOk (c : Cw) (H : MH) (b : Bi) (vs : List MV) (v : MV) (H' : MH) : Prop :=
  ∀ (A : Around) (s : Shared) (μ : Ads) (T X : Led) (xs : List Value) (Q : Value → Shared → Prop) (E : Value → Shared → Prop), A.handled = none → A.units + 64 < cLine → (∃ p, p ∈ X) → Rel c s.heap μ H T X → VRs μ T vs xs →
    (∀ s' μ' T' z, Stp s s' → Aft c s'.heap μ T μ' H' T' X → VR μ' T' v z → Q z s') → wpAny (Km c) A (call (biV b) xs) Q E s

section
variable {c : Cw} {l : Loc} {H H1 H2 H3 H4 : MH}

theorem E_bi (ok : c.OkB) {b : Bi} {es : List ME} {vs : List MV} {v : MV} (h1 : MeEs c l H es vs H1) (h2 : BiOk c H1 b vs v H2) : MeE c l H (.bi b es) v H2 := by
  intro C pe hm; refine v_bi hm fun p ps pos m2 m3 m4 => ?_; intro A env s μ T X Q E P k
  rw [call_name]
  refine wpAny_bind (glob_builtin ok.toOk P m2 (ok.bi b) (ok.mb b) ?_)
  have go : ∀ {M : Model} {f : Value} , f = biV b → wpAny (Km c) A (spliced (backTo pos (starEach ps env))) (fun vs s₁ => wpAny (Km c) A (call (biV b) ([] ++ vs)) Q E s₁) E s := fun u1 => 
    h1 C ps m4 pos A env s μ T X _ _ P fun s1 μ1 T1 xs st1 a1 v1 => h2 A s1 μ1 T1 X xs _ _ P.a.h P.a.cl (let ⟨oL, _, _, h⟩ := P.f.loc; ⟨_, h.m⟩) a1.r v1 fun s2 μ2 T2 z st2 a2 v2 => k s2 μ2 T2 z (st1.trans st2) (a1.trans a2) v2
  have go := go (M := Km c) rfl
  cases b
  all_goals first | exact with_B m4 go | exact with_T m4 go

theorem VRs.one {μ : Ads} {T : Led} {v : MV} {xs : List Value} (h : VRs μ T [v] xs) : ∃ x, xs = [x] ∧ VR μ T v x := by
  obtain ⟨x, r, rfl, a, b⟩ := h; have b : _ = _ := b; subst b; exact ⟨x, rfl, a⟩
@[elab_as_elim] theorem VRs.oneE {μ : Ads} {T : Led} {v : MV} {xs : List Value} {M : List Value → Prop} (h : VRs μ T [v] xs) (k : ∀ x, VR μ T v x → M [x]) : M xs := by obtain ⟨x, rfl, z⟩ := h.one; exact k x z
theorem VRs.two {μ : Ads} {T : Led} {v w : MV} {xs : List Value} (h : VRs μ T [v, w] xs) : ∃ x y, xs = [x, y] ∧ VR μ T v x ∧ VR μ T w y := by
  obtain ⟨x, r, rfl, a, b⟩ := h; obtain ⟨y, e, z⟩ := VRs.one b; subst e; exact ⟨x, y, rfl, a, z⟩
theorem VRs.three {μ : Ads} {T : Led} {v w u : MV} {xs : List Value} (h : VRs μ T [v, w, u] xs) : ∃ x y z, xs = [x, y, z] ∧ VR μ T v x ∧ VR μ T w y ∧ VR μ T u z := by
  obtain ⟨x, r, rfl, a, b⟩ := h; obtain ⟨y, z, e, f, d⟩ := VRs.two b; subst e; exact ⟨x, y, z, rfl, a, f, d⟩

/-- a heap that has grown -/
theorem Rel.after {s : Shared} {h' : Heap} {μ : Ads} {T X : Led} (R : Rel c s.heap μ H T X) (hk : ∀ b o, s.heap.get? b = some o → h'.get? b = some o) (hs : c.B.objs.size ≤ h'.objs.size) : Aft c h' μ T μ H T X := .same (R.grow hk hs)
theorem Rel.sizeX {h h' : Heap} {μ : Ads} {T X : Led} (R : Rel c h μ H T X) (hX : ∃ p, p ∈ X) (hk : ∀ b o, h.get? b = some o → h'.get? b = some o) : c.B.objs.size ≤ h'.objs.size := by
  obtain ⟨p, hp⟩ := hX
  exact Nat.le_of_lt (Nat.lt_of_le_of_lt (R.xabove p hp) (Heap.lt_size (hk _ _ (R.xl p hp))))
/-- a new list of the small heap, wherever it lies -/
theorem Rel.newL {h h' : Heap} {μ : Ads} {T X : Led} {vs : List MV} {a : Addr} {its : Array Value} {n : Nat} (R : Rel c h μ H T X) (hk : ∀ b o, h.get? b = some o → h'.get? b = some o) (ha : h.objs.size ≤ a) (g : h'.get? a = some (listOf its n)) (hv : VRs μ T vs its.toList) :
    Aft c h' μ T (μ ++ [[a]]) (H ++ [.list vs]) T X ∧ VR (μ ++ [[a]]) T (.ref H.length) (.ref a) := by
  have f := R.fresh ha
  have hs : c.B.objs.size ≤ h'.objs.size := Nat.le_of_lt (Nat.lt_of_le_of_lt (Nat.le_trans R.size ha) (Heap.lt_size g))
  refine ⟨⟨(R.grow hk hs).addH ⟨a, its, n, rfl, g, hv.mono (List.prefix_append _ _) fun u1 h => h⟩ (by simp) (by simpa using f.1) (by simpa using f.2.1) (by simpa using f.2.2.1) (by simpa using f.2.2.2),
    List.prefix_append _ _, fun u1 h => h⟩, ?_⟩
  exact ⟨_, [], rfl, by rw [← R.len]; simp⟩

theorem items_of : ∀ {vs : List Value} {is : List Int}, IntsAre vs is → ∃ ps : List (Int × Tok), vs = ps.map (fun p => .int p.1 p.2) ∧ is = ps.map (·.1)
  | _, _, .nil => ⟨[], rfl, rfl⟩
  | _, _, .cons a t h => by
    obtain ⟨ps, rfl, rfl⟩ := items_of h
    exact ⟨(a, t) :: ps, rfl, rfl⟩
theorem listAt {h : Heap} {a : Addr} {its : Array Value} {n : Nat} (g : h.get? a = some (listOf its n)) : h.IsList a its := PySem.IsL.isList (n := n) g

@[elab_as_elim] theorem VRs.twoE {μ : Ads} {T : Led} {v w : MV} {xs : List Value} {M : List Value → Prop} (h : VRs μ T [v, w] xs) (k : ∀ x y, VR μ T v x → VR μ T w y → M [x, y]) : M xs := by obtain ⟨x, y, rfl, z, z'⟩ := h.two; exact k x y z z'
@[elab_as_elim] theorem VRs.threeE {μ : Ads} {T : Led} {v w u : MV} {xs : List Value} {M : List Value → Prop} (h : VRs μ T [v, w, u] xs) (k : ∀ x y z, VR μ T v x → VR μ T w y → VR μ T u z → M [x, y, z]) : M xs := by obtain ⟨x, y, z, rfl, q, q', q''⟩ := h.three; exact k x y z q q' q''
theorem BiR.ok {b : Bi} {vs : List MV} {v : MV} {H' : MH} (r : BiR H b vs v H') : BiOk c H b vs v H' := by
  induction r with
  | lenL e hl =>
    intro A s μ T X xs Q E hA hU hX R V k
    refine V.oneE fun x Va => ?_
    refine (R.list e Va).out fun a its n m1 g1 r1 => ?_
    have hlen := r1.len.trans Array.length_toList
    refine call_len_list (listAt g1) (by unfold lim at hl; lia) (k _ μ T _ ⟨rfl, rfl, rfl⟩ (.same R) ?_)
    rw [hlen]; exact VR.ofInt ..
  | lenF hl =>
    intro A s μ T X xs Q E hA hU hX R V k
    refine V.oneE fun x Va => ?_
    obtain ⟨a, o, its, n, rfl, m, c1, d1, i1⟩ := Va
    have hlen := Array.length_toList.symm.trans i1.length
    refine call_len_list (⟨o, R.tl _ m, c1, n, d1⟩ : s.heap.IsList a its) (by unfold lim at hl; lia) (k _ μ T _ ⟨rfl, rfl, rfl⟩ (.same R) ?_)
    rw [hlen]; exact VR.ofInt ..
  | @maxL k m is e hm hle =>
    intro A s μ T X xs Q E hA hU hX R V k
    refine V.oneE fun x Va => ?_
    refine (R.list e Va).out fun a its n m1 g1 r1 => ?_
    obtain ⟨ps, e1, e2⟩ := items_of (VRs.ints.mp r1)
    have e3 : its = intItems ps.toArray := by apply Array.toList_inj.mp; rw [e1]; simp [intItems]
    have hpos : 0 < ps.toArray.size := by
      subst e2
      obtain ⟨p, hp, _⟩ := List.mem_map.mp hm
      have := List.length_pos_of_mem hp
      simpa using this
    rw [e3] at g1
    refine max_intList hA (listAt g1) hpos fun v h' tk hv hk => ?_
    obtain ⟨t, rfl⟩ := intItems_at hv
    obtain ⟨z1, z2⟩ := argBest_gt (numAt ps.toArray) (ps.toArray.size - 1)
    generalize argBest (fun i j => decide (numAt ps.toArray i > numAt ps.toArray j)) (ps.toArray.size - 1) = i at *
    have hi : i < ps.length := by simp at hpos z1; lia
    have hnum : numAt ps.toArray i = m := by
      refine Int.le_antisymm (hle _ ?_) ?_
      · rw [e2]
        refine List.mem_map.mpr ⟨ps[i], List.getElem_mem hi, ?_⟩
        simp [numAt, hi]
      · rw [e2] at hm
        obtain ⟨p, hp, hp2⟩ := List.mem_map.mp hm
        obtain ⟨j, hj, hj2⟩ := List.mem_iff_getElem.mp hp
        have := z2 j (by simp; lia)
        have e4 : numAt ps.toArray j = m := by simp [numAt, hj, hj2, hp2]
        rw [e4] at this; exact this
    rw [hnum]
    exact k _ μ T _ ⟨rfl, rfl, rfl⟩ (R.after hk (R.sizeX hX hk)) (VR.ofInt ..)
  | max2 =>
    intro A s μ T X xs Q E hA hU hX R V k
    refine V.twoE fun x y Va W => ?_
    refine Va.intE fun t => ?_
    refine W.intE fun u => ?_
    refine max_two_ints hA fun h' tk hk => k _ μ T _ ⟨rfl, rfl, rfl⟩ (R.after hk (R.sizeX hX hk)) ?_
    split <;> exact VR.ofInt ..
  | min2 =>
    intro A s μ T X xs Q E hA hU hX R V k
    refine V.twoE fun x y Va W => ?_
    refine Va.intE fun t => ?_
    refine W.intE fun u => ?_
    refine min_two_ints hA fun h' tk hk => k _ μ T _ ⟨rfl, rfl, rfl⟩ (R.after hk (R.sizeX hX hk)) ?_
    split <;> exact VR.ofInt ..
  | intI =>
    intro A s μ T X xs Q E hA hU hX R V k
    refine V.oneE fun x Va => ?_
    refine Va.intE fun t => ?_
    exact call_int_int (k _ μ T _ ⟨rfl, rfl, rfl⟩ (.same R) (VR.ofInt ..))
  | intB =>
    intro A s μ T X xs Q E hA hU hX R V k
    refine V.oneE fun x Va => ?_
    have := Va.bool_eq; subst this
    exact call_int_bool (k _ μ T _ ⟨rfl, rfl, rfl⟩ (.same R) (VR.ofInt ..))
  | @sorted k is ss e h64 hp hs =>
    intro A s μ T X xs Q E hA hU hX R V k
    refine V.oneE fun x Va => ?_
    refine (R.list e Va).out fun a its n m1 g1 r1 => ?_
    have hlen := r1.len
    refine sorted_ints (vs := its.toList) (ns := is) (listAt g1) (VRs.ints.mp r1) (by simp at hlen; simp; lia) fun out ns' a1 a2 a3 => ?_
    obtain ⟨e1, he⟩ := sortedAll_at s.heap its.toList out
    have : ns' = ss := List.Perm.eq_of_pairwise (fun u1 u2 u3 u4 a b => Int.le_antisymm a b) a3 hs (a2.trans hp.symm)
    subst this
    obtain ⟨b1, b2⟩ := R.newL (h' := sortedAll s.heap its.toList out) (fun u1 u2 => sortedAll_old) (Nat.le_succ _) he (VRs.ints.mpr a1)
    exact k _ _ T _ ⟨rfl, rfl, rfl⟩ b1 b2
  | range1 =>
    intro A s μ T X xs Q E hA hU hX R V k
    refine V.oneE fun x Va => ?_
    refine Va.intE fun t => ?_
    have f := R.fresh (Nat.le_refl _)
    refine call_range_1 (k _ μ ((s.heap.objs.size, _) :: T) _ ⟨rfl, rfl, rfl⟩ ⟨(R.push _).addT (Heap.get?_push_size _ rfl) f.1 (fun q hq e => f.2.2.1 q hq e.symm), List.prefix_refl _, fun u1 h => .tail _ h⟩ ?_)
    exact ⟨_, _, _, _, rfl, .head _⟩
  | range2 =>
    intro A s μ T X xs Q E hA hU hX R V k
    refine V.twoE fun x y Va W => ?_
    refine Va.intE fun t => ?_
    refine W.intE fun u => ?_
    have f := R.fresh (Nat.le_refl _)
    refine call_range_2 (k _ μ ((s.heap.objs.size, _) :: T) _ ⟨rfl, rfl, rfl⟩ ⟨(R.push _).addT (Heap.get?_push_size _ rfl) f.1 (fun q hq e => f.2.2.1 q hq e.symm), List.prefix_refl _, fun u1 h => .tail _ h⟩ ?_)
    exact ⟨_, _, _, _, rfl, .head _⟩
  | range3 hr =>
    intro A s μ T X xs Q E hA hU hX R V k
    refine V.threeE fun x y z Va W Z => ?_
    refine Va.intE fun t => ?_
    refine W.intE fun u => ?_
    refine Z.intE fun v => ?_
    have f := R.fresh (Nat.le_refl _)
    unfold rok at hr
    simp only [Bool.and_eq_true, Bool.or_eq_true, beq_iff_eq, decide_eq_true_eq] at hr
    refine call_range_3 (by lia) (k _ μ ((s.heap.objs.size, _) :: T) _ ⟨rfl, rfl, rfl⟩ ⟨(R.push _).addT (Heap.get?_push_size _ rfl) f.1 (fun q hq e => f.2.2.1 q hq e.symm), List.prefix_refl _, fun u1 h => .tail _ h⟩ ?_) (.inl (PyProof.noPylong_small (by lia)))
    exact ⟨_, _, _, _, rfl, .head _⟩
  | list e hl =>
    intro A s μ T X xs Q E hA hU hX R V k
    refine V.oneE fun x Va => ?_
    refine (R.list e Va).out fun a its n m1 g1 r1 => ?_
    have hlen := r1.len.trans Array.length_toList
    refine call_list_seq a (.inl rfl) g1 rfl rfl (fun h' c' hk g => ?_) (size_of_lim (by lia))
    obtain ⟨b1, b2⟩ := R.newL hk (Nat.le_refl _) g r1
    exact k _ _ T _ ⟨rfl, rfl, rfl⟩ b1 b2
  | tuple e hl =>
    intro A s μ T X xs Q E hA hU hX R V k
    refine V.oneE fun x Va => ?_
    refine (R.list e Va).out fun a its n m1 g1 r1 => ?_
    have hlen := r1.len.trans Array.length_toList
    refine call_tuple_list (listAt g1) (fun h' hk => ?_) (size_of_lim (by lia))
    have R' := R.grow hk (R.sizeX hX hk)
    have f := R'.fresh (Nat.le_refl _)
    refine k _ μ ((h'.objs.size, _) :: T) _ ⟨rfl, rfl, rfl⟩ ⟨(R'.push _).addT (Heap.get?_push_size _ rfl) f.1 (fun q hq e => f.2.2.1 q hq e.symm), List.prefix_refl _, fun u1 h => .tail _ h⟩ ?_
    exact ⟨_, _, _, _, rfl, .head _, rfl, rfl, r1.mono (List.prefix_refl _) fun u1 h => .tail _ h⟩

theorem E_gtup (ok : c.OkB) {g : Nat} {is : List Int} (hg : c.P.gtup g = some is) : MeE c l H (.gtup g) (.tup (is.map MV.int)) H := by
  intro C pe hm; refine v_gtup hm fun x p m1 m2 => ?_; intro A env s μ T X Q E P k
  obtain ⟨a, o, its, n, e1, e2, e3, e4, e5⟩ := ok.tup g is x hg m1
  have hlt := Heap.lt_size e2
  refine glob_name ok.toOk P m2 e1 (k _ μ ((a, o) :: T) _ (Stp.refl s) ⟨P.r.addT (P.r.keep _ _ e2) (fun hm => absurd (P.r.above a hm) (Nat.not_le_of_lt hlt)) (fun q hq e => absurd (P.r.xabove q hq) (by rw [← e]; exact Nat.not_le_of_lt hlt)), List.prefix_refl _, fun u1 h => .tail _ h⟩ ?_)
  exact ⟨a, o, its, n, rfl, .head _, e3, e4, VRs.ints.mpr e5⟩

theorem E_dict0 : MeE c l H .dict0 (.ref H.length) (H ++ [.dict []]) := by
  intro C pe hm; refine v_dict0 hm fun q => ?_; intro A env s μ T X Q E P k
  have f := P.r.fresh (Nat.le_refl _)
  refine wpAny_Dict_empty (k _ (μ ++ [[s.heap.objs.size]]) T _ ⟨rfl, rfl, rfl⟩ ⟨(P.r.push _).addH ⟨s.heap.objs.size, 0, [], rfl, Heap.get?_push_size _ rfl, by simp, rfl⟩ (by simp) (by simpa using f.1) (by simpa using f.2.1) (by simpa using f.2.2.1) (by simpa using f.2.2.2),
    List.prefix_append _ _, fun u1 h => h⟩ ?_)
  exact ⟨_, [], rfl, by rw [← P.r.len]; simp⟩

theorem call_form {G : GI} {C : Cx} {env : Env} {pos : Pos} {es : List ME} {ps : List Expr} (m6 : mEs G C es ps = true) (m4 : es.length ≤ 20) :
    ((backTo pos (starEach ps env)).all (fun x => !x.1) && (backToKw pos (keywordEach [] env)).all (fun x => x.1.isSome)
      && decide (ps.length + ([] : List Keyword).length + (if ([] : List Keyword).isEmpty then 0 else 1) < 30)) = true := by
  have hp := mEs_plain (pos := pos) (env := env) m6
  have hl := mEs_len m6
  have : (backTo pos (starEach ps env)).all (!·.1) = true := by
    rw [List.all_eq_true]; intro y hy
    rw [List.any_eq_false] at hp
    have := hp y hy
    simpa using this
  rw [this]
  have e0 : backToKw pos (keywordEach [] env) = [] := rfl
  rw [e0]; simp
  lia
theorem mEs_one {G : GI} {C : Cx} {e : ME} {p : Expr} (h : mE G C e p = true) : mEs G C [e] [p] = true := by show (mE G C e p && true) = true; rw [h]; rfl

theorem E_app {e x : ME} {k : Nat} {w : MV} {vs : List MV} (h1 : MeE c l H e (.ref k) H1) (h2 : MeE c l H1 x w H2) (hk1 : H1[k]? = some (.list vs)) (hk : H2[k]? = some (.list vs)) (hz : vs.length ≤ lim) :
    MeE c l H (.app e x) .none (H2.set k (.list (vs ++ [w]))) := by
  intro C pe hm; refine v_app hm fun o ap y pos m0 m2 m3 m4 => ?_; intro A env s μ T X Q E P kk
  have m5 := mEs_one m4
  refine wpAny_Call_method (T := "list") (id := "list.append") (attrBase_whole m2) (call_form m5 (by simp)) (by simpa using m0) F.plainAttrs_list F.slot_list_append F.type_list_append ?_
  refine h1 C _ m3 A env s μ T X _ _ P fun s1 μ1 T1 p st1 a1 v1 => ?_
  obtain ⟨a, its, n, b1, g1, r1⟩ := a1.r.list hk1 v1
  refine ⟨⟨_, g1, rfl⟩, fun a' e => by cases e; exact ⟨_, g1, rfl⟩, ?_⟩
  refine with_B m5 (Es_cons h2 Es_nil C [y] m5 pos A env s1 μ1 T1 X _ _ (P.aft a1) fun s2 μ2 T2 xs st2 a2 v2 => ?_)
  obtain ⟨z, rfl, v2'⟩ := v2.one
  obtain ⟨_, its', n', b2, g2, r2⟩ := a2.r.list hk (v1.mono a2.m a2.t)
  have hlen := r2.len.trans Array.length_toList
  refine append_at g2 (fun h' hs hg => ?_) (size_of_lim (by lia))
  refine kk _ μ2 T2 _ (st1.trans (st2.trans ⟨rfl, rfl, rfl⟩)) ⟨a2.r.setH b2 (by simp) hs ⟨a, _, _, rfl, hg, ?_⟩, (a1.trans a2).m, (a1.trans a2).t⟩ VR.ofNone
  rw [Array.toList_push]
  exact r2.append (VRs.cons v2' VRs.nil)

theorem E_ext {e x : ME} {k j : Nat} {vs ws : List MV} (h1 : MeE c l H e (.ref k) H1) (h2 : MeE c l H1 x (.ref j) H2) (hk1 : H1[k]? = some (.list vs)) (hk : H2[k]? = some (.list vs)) (hj : H2[j]? = some (.list ws)) (hne : k ≠ j) (hz : vs.length + ws.length ≤ lim) :
    MeE c l H (.ext e x) .none (H2.set k (.list (vs ++ ws))) := by
  intro C pe hm; refine v_ext hm fun o ap y pos m0 m2 m3 m4 => ?_; intro A env s μ T X Q E P kk
  have m5 := mEs_one m4
  refine wpAny_Call_method (T := "list") (id := "list.extend") (attrBase_whole m2) (call_form m5 (by simp)) (by simpa using m0) F.plainAttrs_list F.slot_list_extend F.type_list_extend ?_
  refine h1 C _ m3 A env s μ T X _ _ P fun s1 μ1 T1 p st1 a1 v1 => ?_
  obtain ⟨a, its, n, b1, g1, r1⟩ := a1.r.list hk1 v1
  refine ⟨⟨_, g1, rfl⟩, fun a' e => by cases e; exact ⟨_, g1, rfl⟩, ?_⟩
  refine with_B m5 (Es_cons h2 Es_nil C [y] m5 pos A env s1 μ1 T1 X _ _ (P.aft a1) fun s2 μ2 T2 xs st2 a2 v2 => ?_)
  obtain ⟨z, rfl, v2'⟩ := v2.one
  obtain ⟨_, its', n', b2, g2, r2⟩ := a2.r.list hk (v1.mono a2.m a2.t)
  obtain ⟨a3, its3, n3, b3, g3, r3⟩ := a2.r.list hj v2'
  have hlen := r2.len.trans Array.length_toList
  have hlen3 := r3.len.trans Array.length_toList
  have hsz' : its'.size + its3.size ≤ sizeLine := size_of_lim (by lia)
  refine call_meets PySem.F.slot_list_extend ⟨_, g2, rfl⟩ PySem.F.entry_list_extend (PySem.F.args_list_extend_2 _ _) (AutoSeq1.list_extend_list_list_0 a its' n' a3 its3 n3 (extend_door hsz') (Nat.le_trans (Nat.le_add_right _ _) hsz')) ⟨g2, g3, ?_⟩
  have hg : (s2.heap.update a (Obj.mapSeq fun x => x ++ its3)).get? a = some (listOf (its' ++ its3) (if (its' ++ its3).size == its'.size then n' else n' + 1)) := by
    rw [Heap.get?_update_self _ g2 (by rw [mapSeq_app]; rfl), mapSeq_app]
  refine kk _ μ2 T2 _ (st1.trans (st2.trans ⟨rfl, rfl, rfl⟩)) ⟨a2.r.setH b2 (by simp) (Heap.SameBut.update ..) ⟨a, _, _, rfl, hg, ?_⟩, (a1.trans a2).m, (a1.trans a2).t⟩ VR.ofNone
  rw [Array.toList_append]
  exact r2.append r3
end
end Mine

end
/-! SK -/
section
open PySem PySem.W PySem.Calls PyProof.Rows
set_option linter.unusedVariables false
set_option maxRecDepth 20000
namespace Mine

section
variable {prog : Program} {w : World} {A : Around} {E : Value → Shared → Prop} {R : Result → Shared → Prop} {s : Shared}
theorem for_step {target it body orelse env}
    (turn : wpAny (model prog w) A (pyNext it) (fun r s₁ => match r with
      | none => wpAny (model prog w) A (execs orelse env) (fun f s₃ => R (.ok f) s₃) (notedBy (model prog w) A env fun e s' => R (.error e) s') s₁
      | some v => wpAny (model prog w) A (assign target env v) (fun u1 s₂ => wpAny (model prog w) A (execs body env) (fun f s₃ => match f with
          | .next | .cont => codeAny (model prog w) A (.forLoop target it body orelse env) R s₃
          | .brk => R (.ok .next) s₃
          | .ret v => R (.ok (.ret v)) s₃) (notedBy (model prog w) A env fun e s' => R (.error e) s') s₂) (notedBy (model prog w) A env fun e s' => R (.error e) s') s₁) (notedBy (model prog w) A env fun e s' => R (.error e) s') s)
    (ht : ∀ v, letOwnedTupleGo target it v = pure () := by intro _; rfl) : codeAny (model prog w) A (.forLoop target it body orelse env) R s := by
  refine codeAny_of_tree ?_
  show wpAny _ _ ((forTurn target it body orelse env).onRaise (fun x => do noteFrame x env; theTreesLotGoes x)) _ _ s
  refine wpAny_noted ?_
  simp only [forTurn]
  refine wpAny_bind (wpAny_standAt (wpAny_bind (wpAny_onRaise (wpAny_mono turn (fun r s₁ h₁ => ?_) fun u1 u2 h' => wpAny_standAt h'))))
  cases r with
  | none => exact wpAny_pure ⟨rfl, codeAny_block h₁⟩
  | some v =>
    refine wpAny_bind (wpAny_of_eq (ht v) ?_)
    refine wpAny_bind (wpAny_mono h₁ (fun u1 s₂ h₂ => wpAny_bind (wpAny_mono h₂ (fun f s₃ h₃ => ?_) fun u1 u2 h' => h')) fun u1 u2 h' => h')
    cases f with
    | next => exact wpAny_pure ⟨rfl, h₃⟩
    | cont => exact wpAny_pure ⟨rfl, h₃⟩
    | brk => exact wpAny_pure h₃
    | ret v => exact wpAny_pure h₃

theorem while_step {test body orelse env}
    (turn : wpAny (model prog w) A (isTrue test env (eval test env)) (fun b s₂ =>
        if b then wpAny (model prog w) A (execs body env) (fun f s₃ => match f with
            | .next | .cont => codeAny (model prog w) A (.whileLoop test body orelse env) R s₃
            | .brk => R (.ok .next) s₃
            | .ret v => R (.ok (.ret v)) s₃) (notedBy (model prog w) A env fun e s' => R (.error e) s') s₂
        else wpAny (model prog w) A (execs orelse env) (fun f s₃ => R (.ok f) s₃) (notedBy (model prog w) A env fun e s' => R (.error e) s') s₂)
        (notedBy (model prog w) A env fun e s' => R (.error e) s') s) : codeAny (model prog w) A (.whileLoop test body orelse env) R s := by
  refine codeAny_of_tree ?_
  show wpAny _ A ((whileTurn test body orelse env).onRaise (fun x => do noteFrame x env; theTreesLotGoes x)) _ _ s
  refine wpAny_noted ?_
  simp only [whileTurn]
  refine wpAny_bind (wpAny_mono turn (fun b s₂ h₂ => ?_) fun u1 u2 h' => h')
  cases b with
  | false =>
    simp only [Bool.false_eq_true, if_false] at h₂ ⊢
    exact wpAny_bind (wpAny_mono h₂ (fun f s₃ h₃ => wpAny_pure h₃) fun u1 u2 h' => h')
  | true =>
    simp only [if_true] at h₂ ⊢
    refine wpAny_bind (wpAny_mono h₂ (fun f s₃ h₃ => ?_) fun u1 u2 h' => h')
    cases f with
    | next => exact wpAny_pure ⟨rfl, h₃⟩
    | cont => exact wpAny_pure ⟨rfl, h₃⟩
    | brk => exact wpAny_pure h₃
    | ret v => exact wpAny_pure h₃

theorem comp_step {elt target iter : Expr} {scope : Scope} {pos : Pos} {it acc : Value} {env : Env}
    (turn : wpAny (model prog w) A (pyNext it) (fun r s₁ => match r with
      | none => R (.ok .next) s₁
      | some v => wpAny (model prog w) A (assign target env v) (fun u1 s₂ => wpAny (model prog w) A (eval elt env) (fun x s₃ =>
          wpAny (model prog w) A (call (.builtin "list.append") [acc, x]) (fun u1 s₄ => codeAny (model prog w) A (.compLoop (.ListComp elt [⟨target, iter, [], 0⟩] scope pos) 0 it acc env) R s₄) (notedBy (model prog w) A env fun e s' => R (.error e) s') s₃)
          (notedBy (model prog w) A env fun e s' => R (.error e) s') s₂) (notedBy (model prog w) A env fun e s' => R (.error e) s') s₁) (notedBy (model prog w) A env fun e s' => R (.error e) s') s)
    (ht : ∀ v, letOwnedTupleGo target it v = pure () := by intro _; rfl) :
    codeAny (model prog w) A (.compLoop (.ListComp elt [⟨target, iter, [], 0⟩] scope pos) 0 it acc env) R s := by
  refine codeAny_of_tree ?_
  show wpAny _ _ ((compTurn (.ListComp elt [⟨target, iter, [], 0⟩] scope pos) 0 it acc env).onRaise (fun x => do noteFrame x env; theTreesLotGoes x)) _ _ s
  refine wpAny_noted ?_
  rw [compTurn_list1]
  refine wpAny_bind (wpAny_standAt (wpAny_bind (wpAny_mono turn (fun r s₁ h₁ => ?_) fun u1 u2 h' => h')))
  cases r with
  | none => exact wpAny_pure h₁
  | some v =>
    refine wpAny_bind (wpAny_of_eq (ht v) ?_)
    exact wpAny_bind (wpAny_mono h₁ (fun u1 s₂ h₂ => wpAny_bind (wpAny_bind (wpAny_mono h₂ (fun x s₃ h₃ => wpAny_bind (wpAny_mono h₃
      (fun u1 s₄ h₄ => wpAny_pure (wpAny_pure ⟨rfl, h₄⟩)) fun u1 u2 h' => h')) fun u1 u2 h' => h'))) fun u1 u2 h' => h')
end

/-! ### iterators -/
noncomputable def It (μ : Ads) (T : Led) : MV → Nat → Obj → Prop
  | .ref k, i, o => ∃ a l, μ[k]? = some (a :: l) ∧ o.cls = .type "list_iterator" ∧ o.data = .fields #[.ref a, .int i 0]
  | .tup vs, i, o => ∃ a o' its n, (a, o') ∈ T ∧ o'.cls = .type "tuple" ∧ o'.data = .seq its n ∧ VRs μ T vs its.toList ∧ o.cls = .type "tuple_iterator" ∧ o.data = .fields #[.ref a, .int i 0]
  | .rng a b c, i, o => o = { cls := .type "range_iterator", dict := none, data := .fields #[rawInt (a + i * c), rawInt (rsize a b c - i), rawInt c], slots := #[] }
  | _, _, _ => False
theorem It.mono {μ μ' : Ads} {T T' : Led} (hm : μ <+: μ') (hT : ∀ p ∈ T, p ∈ T') {src : MV} {i : Nat} {o : Obj} (h : It μ T src i o) : It μ' T' src i o := by
  cases src <;> try exact h
  · obtain ⟨a, o', its, n, h1, h2, h3, h4, h5, h6⟩ := h
    exact ⟨a, o', its, n, hT _ h1, h2, h3, h4.mono hm hT, h5, h6⟩
  · obtain ⟨a, l, h1, h2⟩ := h
    exact ⟨a, l, pre_get hm h1, h2⟩

set_option tactic.hygienic true in
theorem rnn {a b c : Int} : 0 ≤ (if c > 0 then (if a < b then (b - a - 1) / c + 1 else 0) else (if a > b then (a - b - 1) / (-c) + 1 else 0) : Int) ∧ (if c > 0 then (if a < b then (b - a - 1) / c + 1 else 0) else (if a > b then (a - b - 1) / (-c) + 1 else 0) : Int) ≤ max (b - a) (max (a - b) 0) := by
  split
  · rename_i hc
    split
    · rename_i h
      have h0 : 0 ≤ b - a - 1 := by omega
      have h1 := Int.ediv_nonneg h0 (Int.le_of_lt hc)
      have h2 := Int.ediv_le_self c h0
      generalize (b - a - 1) / c = d at h1 h2
      exact ⟨by omega, Int.le_trans (show d + 1 ≤ b - a by omega) (Int.le_max_left ..)⟩
    · exact ⟨Int.le_refl _, Int.le_trans (Int.le_max_right ..) (Int.le_max_right ..)⟩
  · rename_i hc
    split
    · rename_i h
      have h0 : 0 ≤ a - b - 1 := by omega
      have h1 := Int.ediv_nonneg h0 (show 0 ≤ -c by omega)
      have h2 := Int.ediv_le_self (-c) h0
      generalize (a - b - 1) / (-c) = d at h1 h2
      exact ⟨by omega, Int.le_trans (show d + 1 ≤ a - b by omega) (Int.le_trans (Int.le_max_left ..) (Int.le_max_right ..))⟩
    · exact ⟨Int.le_refl _, Int.le_trans (Int.le_max_right ..) (Int.le_max_right ..)⟩
theorem rsize_eq (a b c : Int) (_ : rok a b c = true) : (Builtin.Range.rangeSize a b c) = (rsize a b c : Int) := by
  have e1 : b - 1 - a = b - a - 1 := by omega
  have e2 : a - 1 - b = a - b - 1 := by omega
  unfold Builtin.Range.rangeSize rsize
  rw [e1, e2, Int.add_comm 1, Int.add_comm 1]
  exact (Int.toNat_of_nonneg rnn.1).symm
theorem abs_le {x : Int} {n : Nat} (h : x.natAbs ≤ n) : x ≤ (n : Int) ∧ -(n : Int) ≤ x := by
  have h1 : x ≤ (n : Int) := Int.le_trans Int.le_natAbs (Int.ofNat_le.mpr h)
  have h2 : -x ≤ (n : Int) := Int.le_trans Int.le_natAbs (by rw [Int.natAbs_neg]; exact Int.ofNat_le.mpr h)
  exact ⟨h1, Int.neg_le_of_neg_le h2⟩
theorem fits_of {x : Int} (h : x.natAbs ≤ 4000000) : Builtin.Range.rangeFitsLong x = true := by
  unfold Builtin.Range.rangeFitsLong
  have q := abs_le h
  rw [Bool.and_eq_true, decide_eq_true_eq, decide_eq_true_eq]
  exact ⟨Int.le_trans (by decide) q.2, Int.lt_of_le_of_lt q.1 (by decide)⟩
theorem rok_small (a b c : Int) (h : rok a b c = true) : Builtin.Range.small a b c = true := by
  have h3 := Bool.and_eq_true_iff.mp h
  have h4 := Bool.and_eq_true_iff.mp h3.1
  have h1 : a.natAbs ≤ 1000000 := of_decide_eq_true h4.1
  have h2 : b.natAbs ≤ 1000000 := of_decide_eq_true h4.2
  have hn : (Builtin.Range.rangeSize a b c).natAbs ≤ 4000000 := by
    have := rnn (a := a) (b := b) (c := c)
    unfold Builtin.Range.rangeSize
    generalize (if c > 0 then (if a < b then (b - a - 1) / c + 1 else 0) else (if a > b then (a - b - 1) / (-c) + 1 else 0) : Int) = d at this
    omega
  have hc : c.natAbs ≤ 8 := by
    have h5 := h3.2
    simp only [Bool.or_eq_true, beq_iff_eq] at h5
    rcases h5 with ((rfl | rfl) | rfl) | rfl <;> decide
  unfold Builtin.Range.small
  have h6 : (if c > 0 then Builtin.Range.rangeFitsLong (b + (c - 1)) else Builtin.Range.rangeFitsLong (b + (c + 1))) = true := by
    split
    · exact fits_of (by omega)
    · exact fits_of (by omega)
  rw [fits_of (Nat.le_trans h1 (by decide)), fits_of (Nat.le_trans h2 (by decide)), fits_of (Nat.le_trans hc (by decide)), fits_of hn, h6, Bool.or_true]; rfl

section
variable {c : Cw} {H : MH} {A : Around} {E : Value → Shared → Prop} {s : Shared} {μ : Ads} {T X : Led}

theorem Rel.exists_ne {h h' : Heap} (R : Rel c h μ H T X) {it : Addr} {p : Addr × Obj} (hp : p ∈ X) (hne : p.1 ≠ it) (hk : Heap.ExtBut it h h') : c.B.objs.size ≤ h'.objs.size :=
  Nat.le_of_lt (Nat.lt_of_le_of_lt (R.xabove p hp) (Heap.lt_size (hk _ _ hne (R.xl p hp))))

/-- an object of the frame is given up -/
theorem Rel.dropX {h h' : Heap} (R : Rel c h μ H T X) {it : Addr} {o : Obj} (hi : (it, o) ∈ X) (hk : Heap.ExtBut it h h') (hs : c.B.objs.size ≤ h'.objs.size) : Rel c h' μ H T (X.filter fun p => p.1 != it) :=
  have hB := R.xabove _ hi
  ⟨fun b o e => hk b o (Nat.ne_of_lt (Nat.lt_of_lt_of_le (Heap.lt_size e) hB)) (R.keep b o e), hs,
    fun p hp => hk _ _ (R.tx p hp _ hi) (R.tl p hp), fun p hp => by
      obtain ⟨hp, hne⟩ := List.mem_filter.mp hp
      exact hk _ _ (by simpa using hne) (R.xl p hp), R.len,
    fun k o as e1 e2 => (R.obj k o as e1 e2).step (List.prefix_refl _) (fun u1 x => x) fun a ha o' g => hk _ _ (fun e => R.xm _ hi (by rw [← e]; exact List.mem_flatten.mpr ⟨as, List.mem_of_getElem? e2, ha⟩)) g,
    R.nd, R.tm, fun p hp => R.xm p (List.mem_filter.mp hp).1, fun p hp q hq => R.tx p hp q (List.mem_filter.mp hq).1, R.above, fun p hp => R.xabove p (List.mem_filter.mp hp).1⟩

set_option tactic.hygienic true in
theorem items_ref {k : Nat} {vs : List MV} (h : items H (.ref k) = some vs) : H[k]? = some (.list vs) := by
  simp only [items] at h; split at h
  · rename_i q; cases h; exact q
  · simp at h

set_option tactic.hygienic true in
/-- an iterator is made -/
theorem iter_start {src : MV} {x : Value} {vs : List MV} {Q : Value → Shared → Prop} (R : Rel c s.heap μ H T X) (v : VR μ T src x) (hi : items H src = some vs)
    (k : ∀ s' it o, Stp s s' → Rel c s'.heap μ H T ((it, o) :: X) → It μ T src 0 o → (∀ p ∈ X, p.1 ≠ it) → Q (.ref it) s') : wpAny (Km c) A (pyIter x) Q E s := by
  have f := R.fresh (Nat.le_refl _)
  cases src with
  | int _ => simp [items] at hi
  | bool _ => simp [items] at hi
  | none => simp [items] at hi
  | str => simp [items] at hi
  | fl _ => simp [items] at hi
  | tup ws =>
    obtain ⟨a, o, its, n, rfl, m, c1, d, r⟩ := v
    refine wpAny_pyIter_tuple (⟨o, R.tl _ m, c1, n, d⟩ : s.heap.IsTuple a its) (k _ s.heap.objs.size _ ⟨rfl, rfl, rfl⟩ ((R.push _).addX (Heap.get?_push_size _ rfl) f.1 f.2.1 f.2.2.2) ⟨a, o, its, n, m, c1, d, r, rfl, rfl⟩ f.2.2.1)
  | rng a b d =>
    simp only [items] at hi
    split at hi
    · rename_i hr
      obtain ⟨r, t, u, w, rfl, m⟩ := v
      refine wpAny_pyIter_range (R.tl _ m) (rok_small a b d hr) (k _ s.heap.objs.size _ ⟨rfl, rfl, rfl⟩ ((R.push _).addX (Heap.get?_push_size _ rfl) f.1 f.2.1 f.2.2.2) ?_ f.2.2.1)
      unfold It
      rw [rsize_eq a b d hr]; simp
    · simp at hi
  | ref i =>
    have e := items_ref hi
    refine (R.list e v).out fun a its n m1 g1 r1 => ?_
    refine wpAny_pyIter_list (listAt g1) (k _ s.heap.objs.size _ ⟨rfl, rfl, rfl⟩ ((R.push _).addX (Heap.get?_push_size _ rfl) f.1 f.2.1 f.2.2.2) ⟨a, [], m1, rfl, rfl⟩ f.2.2.1)

noncomputable def setAt (X : Led) (d : Addr) (o : Obj) : Led := X.map fun p => if p.1 = d then (d, o) else p
theorem setAt_mem {X : Led} {d : Addr} {o o' : Obj} (h : (d, o) ∈ X) : (d, o') ∈ setAt X d o' := List.mem_map.mpr ⟨_, h, by simp⟩
theorem setAt_keep {X : Led} {d : Addr} {o : Obj} {p : Addr × Obj} (h : p ∈ X) (hne : p.1 ≠ d) : p ∈ setAt X d o := List.mem_map.mpr ⟨p, h, by simp [hne]⟩

set_option tactic.hygienic true in
/-- the next item -/
theorem iter_next {src : MV} {i : Nat} {v : MV} {vs : List MV} {it : Addr} {o : Obj} {Q : Option Value → Shared → Prop} (R : Rel c s.heap μ H T X) (hX : (it, o) ∈ X) (I : It μ T src i o) (hi : items H src = some vs) (hv : vs[i]? = some v)
    (k : ∀ s' o' x, Stp s s' → Rel c s'.heap μ H T (setAt X it o') → It μ T src (i + 1) o' → VR μ T v x → Q (some x) s') : wpAny (Km c) A (pyNext (.ref it)) Q E s := by
  cases src with
  | int _ => simp [items] at hi
  | bool _ => simp [items] at hi
  | none => simp [items] at hi
  | str => simp [items] at hi
  | fl _ => simp [items] at hi
  | tup ws =>
    obtain ⟨a, o', its, n, m, c1, d, r, c2, d2⟩ := I
    simp [items] at hi; subst hi
    obtain ⟨x, hx, rx⟩ := r.get hv
    rw [Array.getElem?_toList] at hx
    refine wpAny_pyNext_tuple_item (i := i) (⟨o, R.xl _ hX, c2, d2⟩ : s.heap.IsTupleIter it a i) (⟨o', R.tl _ m, c1, n, d⟩ : s.heap.IsTuple a its) hx fun h' hI hs => ?_
    obtain ⟨o2, g2, c3, d3⟩ := hI
    exact k _ o2 x ⟨rfl, rfl, rfl⟩ (R.setX hX hs g2) ⟨a, o', its, n, m, c1, d, r, c3, d3⟩ rx
  | rng a b d =>
    simp only [items] at hi
    split at hi
    · rename_i hr
      cases hi
      unfold It at I; subst I
      have hv' := hv
      unfold ritems at hv
      rw [List.getElem?_map] at hv
      have hlt : i < rsize a b d := by
        by_cases h : i < rsize a b d
        · exact h
        · rw [List.getElem?_eq_none (by simp; (with_reducible exact Nat.ge_of_not_lt (by assumption)))] at hv; simp at hv
      rw [List.getElem?_range hlt] at hv
      simp at hv; subst hv
      refine wpAny_pyNext_range_item (R.xl _ hX) (by lia) fun h' hI hs => ?_
      refine k _ _ _ ⟨rfl, rfl, rfl⟩ (R.setX hX hs hI) ?_ (VR.ofInt ..)
      unfold It
      have e1 : a + (i : Int) * d + d = a + ((i + 1 : Nat) : Int) * d := by push_cast; rw [Int.add_mul]; lia
      have e2 : (rsize a b d : Int) - (i : Int) - 1 = (rsize a b d : Int) - ((i + 1 : Nat) : Int) := by lia
      rw [e1, e2]
    · simp at hi
  | ref j =>
    have e := items_ref hi
    obtain ⟨a, l, m, c2, d2⟩ := I
    obtain ⟨_, its, n, m1, g1, r1⟩ := R.list e (p := .ref a) (by exact ⟨a, l, rfl, m⟩)
    obtain ⟨x, hx, rx⟩ := r1.get hv
    rw [Array.getElem?_toList] at hx
    refine wpAny_pyNext_list_item (i := i) (⟨o, R.xl _ hX, c2, d2⟩ : s.heap.IsListIter it a i) (listAt g1) hx fun h' hI hs => ?_
    obtain ⟨o2, g2, c3, d3⟩ := hI
    exact k _ o2 x ⟨rfl, rfl, rfl⟩ (R.setX hX hs g2) ⟨a, l, m, c3, d3⟩ rx

set_option tactic.hygienic true in
/-- the end -/
theorem iter_end {src : MV} {i : Nat} {vs : List MV} {it : Addr} {o : Obj} {p : Addr × Obj} {Q : Option Value → Shared → Prop} (hA : A.handled = none) (R : Rel c s.heap μ H T X) (hX : (it, o) ∈ X) (hp : p ∈ X) (hne : p.1 ≠ it) (I : It μ T src i o) (hi : items H src = some vs) (hv : vs.length ≤ i)
    (k : ∀ s', Stp s s' → Rel c s'.heap μ H T (X.filter fun p => p.1 != it) → Q none s') : wpAny (Km c) A (pyNext (.ref it)) Q E s := by
  have fin : ∀ h', Heap.ExtBut it s.heap h' → Q none { s with heap := h' } := fun h' hk => k _ ⟨rfl, rfl, rfl⟩ (R.dropX hX hk (R.exists_ne hp hne hk))
  cases src with
  | int _ => simp [items] at hi
  | bool _ => simp [items] at hi
  | none => simp [items] at hi
  | str => simp [items] at hi
  | fl _ => simp [items] at hi
  | tup ws =>
    obtain ⟨a, o', its, n, m, c1, d, r, c2, d2⟩ := I
    simp [items] at hi; subst hi
    have hl := r.len.trans Array.length_toList
    exact wpAny_pyNext_tuple_end hA (i := i) (⟨o, R.xl _ hX, c2, d2⟩ : s.heap.IsTupleIter it a i) (⟨o', R.tl _ m, c1, n, d⟩ : s.heap.IsTuple a its) (Array.getElem?_eq_none (by lia)) fin
  | rng a b d =>
    simp only [items] at hi
    split at hi
    · rename_i hr
      cases hi
      unfold It at I; subst I
      unfold ritems at hv
      simp at hv
      exact wpAny_pyNext_range_end hA (R.xl _ hX) (by lia) fin
    · simp at hi
  | ref j =>
    have e := items_ref hi
    obtain ⟨a, l, m, c2, d2⟩ := I
    obtain ⟨_, its, n, m1, g1, r1⟩ := R.list e (p := .ref a) (by exact ⟨a, l, rfl, m⟩)
    have hl := r1.len.trans Array.length_toList
    exact wpAny_pyNext_list_end hA (i := i) (⟨o, R.xl _ hX, c2, d2⟩ : s.heap.IsListIter it a i) (listAt g1) (Array.getElem?_eq_none (by lia)) fin
end

/-! ### the frame -/
noncomputable def Use (C : Cx) (env : Env) (a : Addr) : Prop := a = env.locals ∨ ∃ (i : Nat) (x : Str), C.names[i]? = some x ∧ (C.kinds.lookup x = some .cell ∨ C.kinds.lookup x = some .free) ∧ env.cells.lookup x = some a
theorem FR.use {C : Cx} {env : Env} {l : Loc} {μ : Ads} {T X : Led} (F : FR C env l μ T X) {a : Addr} (h : Use C env a) : ∃ o, (a, o) ∈ X := by
  rcases h with rfl | ⟨i, x, h1, h2, h3⟩
  · obtain ⟨oL, es, ep, h, _⟩ := F.loc; exact ⟨_, h⟩
  · obtain ⟨a', o, cv, e, h, _⟩ := F.cell i x h1 h2
    rw [h3] at e; cases e; exact ⟨_, h⟩
theorem FR.keepX {C : Cx} {env : Env} {l : Loc} {μ : Ads} {T X X' : Led} (F : FR C env l μ T X) (h : ∀ p ∈ X, Use C env p.1 → p ∈ X') : FR C env l μ T X' :=
  ⟨F.fk, F.kinds, F.gl, F.bl, F.len, F.nd, let ⟨oL, es, ep, a, b, d, k⟩ := F.loc; ⟨oL, es, ep, h _ a (.inl rfl), b, d, k⟩,
    fun i x e1 e2 => let ⟨a, o, cv, p, q, r, k⟩ := F.cell i x e1 e2; ⟨a, o, cv, p, h _ q (.inr ⟨i, x, e1, e2, p⟩), r, k⟩, F.apart⟩
theorem Own.use {C : Cx} {env : Env} {a : Addr} (h : Own C env a) : Use C env a := by
  rcases h with h | ⟨i, x, h1, h2, h3⟩
  · exact .inl h
  · exact .inr ⟨i, x, h1, .inl h2, h3⟩
end Mine

end
/-! SL -/
section
open PySem PySem.W PySem.Calls PyProof.Rows
set_option linter.unusedVariables false
set_option maxRecDepth 20000
namespace Mine
section
variable {c : Cw} {H : MH} {A : Around} {s : Shared} {μ : Ads} {T X : Led} {C : Cx} {env : Env} {l : Loc}

theorem getL_set {l : Loc} {i j : Nat} {v w : MV} (h : getL (l.set i (some v)) j = some w) : (j = i ∧ w = v) ∨ (j ≠ i ∧ getL l j = some w) := by
  unfold getL at h ⊢
  rw [List.getElem?_set] at h
  by_cases e : i = j
  · subst e
    simp only [if_true] at h
    split at h
    · simp at h; exact .inl ⟨rfl, h.symm⟩
    · simp at h
  · simp only [if_neg e] at h
    exact .inr ⟨fun q => e q.symm, h⟩
theorem nodup_get {l : List Str} (hn : l.Nodup) {i j : Nat} {x : Str} (hi : l[i]? = some x) (hj : l[j]? = some x) : i = j := by
  obtain ⟨h1, e1⟩ := List.getElem?_eq_some_iff.mp hi
  obtain ⟨h2, e2⟩ := List.getElem?_eq_some_iff.mp hj
  have hp := List.pairwise_iff_getElem.mp hn
  rcases Nat.lt_trichotomy i j with h | h | h
  · exact absurd (e1.trans e2.symm) (hp i j h1 h2 h)
  · exact h
  · exact absurd (e2.trans e1.symm) (hp j i h2 h1 h)

theorem FR.kindOf (F : FR C env l μ T X) (x : Str) : env.kindOf x = C.kinds.lookup x := by unfold Env.kindOf; rw [F.kinds]

theorem store_local {i : Nat} {x : Str} {v : MV} {val : Value} {Q : Unit → Shared → Prop} {E : Value → Shared → Prop} (R : Rel c s.heap μ H T X) (F : FR C env l μ T X) (hx : C.names[i]? = some x) (hk : C.kinds.lookup x = some .local) (hv : VR μ T v val)
    (k : ∀ s' X', Stp s s' → Rel c s'.heap μ H T X' → FR C env (l.set i (some v)) μ T X' → (∀ p ∈ X, p.1 ≠ env.locals → p ∈ X') → Q () s') : wpAny (Km c) A (storeName env x val) Q E s := by
  obtain ⟨oL, es, ep, hX, hd, hs, hl⟩ := F.loc
  refine wpAny_storeName_local ((F.kindOf x).trans hk) (m := fun y => nsFind es y) ⟨oL, es, ep, R.xl _ hX, hd, hs, fun u1 => rfl⟩ (fun h' hn sb => ?_) (by rw [F.fk]; rfl)
  obtain ⟨o', es', ep', g', d', s', f'⟩ := hn
  have R' := R.setX hX sb g'
  refine k _ _ ⟨rfl, rfl, rfl⟩ R' ?_ fun p hp hne => setAt_keep hp hne
  refine ⟨F.fk, F.kinds, F.gl, F.bl, by simpa using F.len, F.nd, ⟨o', es', ep', setAt_mem hX, d', s', fun j w y h1 h2 h3 => ?_⟩, fun j y h1 h2 => ?_, F.apart⟩
  · rw [f']
    rcases getL_set h1 with ⟨rfl, rfl⟩ | ⟨hne, h1⟩
    · rw [hx] at h2; cases h2
      exact ⟨val, by simp, hv⟩
    · have : y ≠ x := fun e => hne (nodup_get F.nd h2 (e ▸ hx))
      simp only [if_neg this]
      exact hl j w y h1 h2 h3
  · obtain ⟨a, o, cv, e1, e2, e3, e4⟩ := F.cell j y h1 h2
    have hne : a ≠ env.locals := by
      rintro rfl
      have g1 := R.xl _ e2
      rw [R.xl _ hX] at g1
      cases g1; rw [hd] at e3; cases e3
    refine ⟨a, o, cv, e1, setAt_keep e2 hne, e3, fun w hw => ?_⟩
    rcases getL_set hw with ⟨rfl, rfl⟩ | ⟨hne, hw⟩
    · rw [hx] at h1; cases h1
      rw [hk] at h2; simp at h2
    · exact e4 w hw

theorem store_cell {i : Nat} {x : Str} {v : MV} {val : Value} {Q : Unit → Shared → Prop} {E : Value → Shared → Prop} (R : Rel c s.heap μ H T X) (F : FR C env l μ T X) (hx : C.names[i]? = some x) (hk : C.kinds.lookup x = some .cell) (hv : VR μ T v val)
    (k : ∀ s' X', Stp s s' → Rel c s'.heap μ H T X' → FR C env (l.set i (some v)) μ T X' → Off C env X X' → Q () s') : wpAny (Km c) A (storeName env x val) Q E s := by
  obtain ⟨oL, es, ep, hX, hd, hs, hl⟩ := F.loc
  obtain ⟨a, o, cv, e1, e2, e3, e4⟩ := F.cell i x hx (.inl hk)
  refine wpAny_storeName_cell F.fk ((F.kindOf x).trans hk) e1 (v₀ := cv) ⟨o, R.xl _ e2, e3⟩ fun h' hc sb => ?_
  obtain ⟨o', g', d'⟩ := hc
  have R' := R.setX e2 sb g'
  have hnL : env.locals ≠ a := by
    intro e
    have g1 := R.xl _ e2
    rw [← e, R.xl _ hX] at g1
    cases g1; rw [hd] at e3; cases e3
  refine k _ _ ⟨rfl, rfl, rfl⟩ R' ?_ fun p hp hn => setAt_keep hp fun e => hn (.inr ⟨i, x, hx, hk, e ▸ e1⟩)
  refine ⟨F.fk, F.kinds, F.gl, F.bl, by simpa using F.len, F.nd, ⟨oL, es, ep, setAt_keep hX hnL, hd, hs, fun j w y h1 h2 h3 => ?_⟩, fun j y h1 h2 => ?_, F.apart⟩
  · rcases getL_set h1 with ⟨rfl, rfl⟩ | ⟨hne, h1⟩
    · rw [hx] at h2; cases h2; rw [hk] at h3; cases h3
    · exact hl j w y h1 h2 h3
  · obtain ⟨a', ob, cv', q1, q2, q3, q4⟩ := F.cell j y h1 h2
    by_cases hne : a' = a
    · subst hne
      have hyx := F.apart _ _ _ q1 e1
      subst hyx
      have hji := nodup_get F.nd h1 hx
      subst hji
      refine ⟨a', o', _, q1, setAt_mem e2, d', fun w hw => ?_⟩
      rcases getL_set hw with ⟨_, rfl⟩ | ⟨hne, hw⟩
      · exact ⟨val, rfl, hv⟩
      · exact absurd rfl hne
    · refine ⟨a', ob, cv', q1, setAt_keep q2 hne, q3, fun w hw => ?_⟩
      rcases getL_set hw with ⟨rfl, rfl⟩ | ⟨hn2, hw⟩
      · rw [hx] at h1; cases h1
        rw [e1] at q1; cases q1; exact absurd rfl hne
      · exact q4 w hw

theorem isSto_or {o : Option NameKind} (h : isSto o = true) : o = some .local ∨ o = some .cell := by
  cases o with
  | none => exact noF h
  | some k => cases k <;> first | exact .inl rfl | exact .inr rfl | exact noF h
theorem sto_parts {i : Nat} {x : Str} (h : C.sto i x = true) : C.names[i]? = some x ∧ (C.kinds.lookup x = some .local ∨ C.kinds.lookup x = some .cell) :=
  have h1 := andT (andT h).1
  ⟨eq_of_beq h1.1, isSto_or h1.2⟩
theorem store_any {i : Nat} {x : Str} {v : MV} {val : Value} {Q : Unit → Shared → Prop} {E : Value → Shared → Prop} (R : Rel c s.heap μ H T X) (F : FR C env l μ T X) (hx : C.sto i x = true) (hv : VR μ T v val)
    (k : ∀ s' X', Stp s s' → Rel c s'.heap μ H T X' → FR C env (l.set i (some v)) μ T X' → Off C env X X' → Q () s') : wpAny (Km c) A (storeName env x val) Q E s := by
  obtain ⟨h1, h2 | h2⟩ := sto_parts hx
  · exact store_local R F h1 h2 hv fun s' X' a b d e => k s' X' a b d fun p hp hn => e p hp fun q => hn (.inl q)
  · exact store_cell R F h1 h2 hv k
end
end Mine

end
/-! SM -/
section
open PySem PySem.W PySem.Calls PyProof.Rows
set_option linter.unusedVariables false
set_option maxRecDepth 20000
namespace Mine

theorem closure_loop (env : Env) (f : Str × NameKind → List (Str × Addr) → Sem (ForInStep (List (Str × Addr))))
    (hf : ∀ n k cs, f (n, k) cs = if (k == NameKind.free) = true then (do let a ← cellOf env n; pure (.yield ((n, a) :: cs))) else pure (.yield cs)) :
    ∀ (names : List (Str × NameKind)) (acc : List (Str × Addr)), (∀ y ∈ names, y.2 = .free → ∃ a, env.cells.lookup y.1 = some a) → (∀ p ∈ acc, env.cells.lookup p.1 = some p.2) →
      ∃ cl, forIn names acc f = pure cl ∧ (∀ p ∈ cl, env.cells.lookup p.1 = some p.2) ∧ (∀ p ∈ acc, p ∈ cl) ∧ ∀ y ∈ names, y.2 = .free → ∃ p ∈ cl, p.1 = y.1
  | [], acc, _, ha => ⟨acc, by rw [List.forIn_nil], ha, fun u1 h => h, fun y hy => by simp at hy⟩
  | (n, k) :: r, acc, hn, ha => by
    by_cases hk : k = .free
    · subst hk
      obtain ⟨a, e⟩ := hn (n, .free) (by simp) rfl
      obtain ⟨cl, h1, h2, h3, h4⟩ := closure_loop env f hf r ((n, a) :: acc) (fun y hy => hn y (by simp [hy])) (fun p hp => by rcases List.mem_cons.mp hp with rfl | hp; exact e; exact ha p hp)
      refine ⟨cl, ?_, h2, fun p hp => h3 p (.tail _ hp), fun y hy hf' => ?_⟩
      · rw [List.forIn_cons, hf]
        simp only [beq_self_eq_true, if_true, cellOf, e, pure_bind]
        exact h1
      · rcases List.mem_cons.mp hy with rfl | hy
        · exact ⟨(n, a), h3 _ (.head _), rfl⟩
        · exact h4 y hy hf'
    · obtain ⟨cl, h1, h2, h3, h4⟩ := closure_loop env f hf r acc (fun y hy => hn y (by simp [hy])) ha
      refine ⟨cl, ?_, h2, h3, fun y hy hf' => ?_⟩
      · have hb : (k == NameKind.free) = false := by simpa using hk
        rw [List.forIn_cons, hf]
        simp only [hb, Bool.false_eq_true, if_false, pure_bind]
        exact h1
      · rcases List.mem_cons.mp hy with rfl | hy
        · exact absurd hf' hk
        · exact h4 y hy hf'
set_option tactic.hygienic true in
theorem lookup_some_mem {α : Type} {n : Str} : ∀ {l : List (Str × α)}, (∃ p ∈ l, p.1 = n) → ∃ c, l.lookup n = some c
  | [], h => by obtain ⟨p, hp, _⟩ := h; simp at hp
  | (m, v) :: r, h => by
    rw [List.lookup_cons]
    split
    · exact ⟨_, rfl⟩
    · rename_i q
      obtain ⟨p, hp, rfl⟩ := h
      rcases List.mem_cons.mp hp with e | hp
      · subst e; simp at q
      · exact lookup_some_mem ⟨p, hp, rfl⟩
theorem closure_of (scope : Scope) (env : Env) (h : ∀ y ∈ scope.names, y.2 = .free → ∃ a, env.cells.lookup y.1 = some a) :
    ∃ cl, closureFor scope env = pure cl ∧ (∀ x a, cl.lookup x = some a → env.cells.lookup x = some a) ∧ ∀ x, scope.names.lookup x = some .free → ∃ a, cl.lookup x = some a := by
  obtain ⟨cl, h1, h2, h3, h4⟩ := closure_loop env (fun x cs => if (x.2 == NameKind.free) = true then (do let a ← cellOf env x.1; pure (.yield ((x.1, a) :: cs))) else pure (.yield cs)) (fun u1 u2 u3 => rfl) scope.names [] h (fun p hp => by simp at hp)
  refine ⟨cl, ?_, fun x a e => h2 _ (mem_of_lookup e), fun x e => lookup_some_mem (h4 _ (mem_of_lookup e) rfl)⟩
  unfold closureFor
  rw [← h1]
  simp only [bind_pure]
theorem relK_lookup {kinds : List (Str × NameKind)} {x : Str} : ∀ {ns : List (Str × NameKind)}, (relK kinds ns).lookup x = (ns.lookup x).map fun k => if (k == .free && kinds.lookup x == some .cell) then .cell else k
  | [] => rfl
  | (n, k) :: r => by
    have e0 : relK kinds ((n, k) :: r) = (n, if (k == .free && kinds.lookup n == some .cell) then .cell else k) :: relK kinds r := by
      unfold relK; rw [List.map_cons]; congr 1; dsimp only; split <;> rfl
    rw [e0, List.lookup_cons, List.lookup_cons]
    cases e : x == n with
    | true => have := beq_iff_eq.mp e; subst this; rfl
    | false => exact relK_lookup

section
variable {c : Cw} {H H1 H2 H3 : MH} {l : Loc}

theorem Rel.moveX {h : Heap} {μ : Ads} {T X : Led} {D : Addr} {its : Array Value} {n : Nat} {vs : List MV} (R : Rel c h μ H T X) (hD : (D, listOf its n) ∈ X) (hv : VRs μ T vs its.toList) :
    Rel c h (μ ++ [[D]]) (H ++ [.list vs]) T (X.filter fun p => p.1 != D) ∧ VR (μ ++ [[D]]) T (.ref H.length) (.ref D) := by
  have hs : ∀ p ∈ (X.filter fun p => p.1 != D), p ∈ X := fun p hp => (List.mem_filter.mp hp).1
  refine ⟨(R.sub hs).addH ⟨D, its, n, rfl, R.xl _ hD, hv.mono (List.prefix_append _ _) fun u1 h => h⟩ (by simp) (fun a ha => ?_) (fun a ha p hp => ?_) (fun a ha p hp => ?_) (fun a ha => ?_), ?_⟩
  · rw [List.mem_singleton.mp ha]; exact R.xm _ hD
  · rw [List.mem_singleton.mp ha]; exact R.tx p hp _ hD
  · rw [List.mem_singleton.mp ha]; have := (List.mem_filter.mp hp).2; simpa using this
  · rw [List.mem_singleton.mp ha]; exact R.xabove _ hD
  · unfold VR
    exact ⟨_, [], rfl, by rw [← R.len]; simp⟩

/-- the turns of a comprehension -/
noncomputable def MeC (c : Cw) (elt : ME) (src : MV) (i : Nat) (caps : Loc) (H : MH) (ws : List MV) (H' : MH) : Prop :=
  ∀ (C : Cx) (pe : Expr) (x : Str) (px pos : Pos) (iter : Expr) (scope : Scope), mE c.G C elt pe = true → C.names[0]? = some x → C.kinds.lookup x = some .local →
  ∀ (A : Around) (env : Env) (s : Shared) (μ : Ads) (T X : Led) (v0 : Option MV) (it D : Addr) (o : Obj) (its : Array Value) (n : Nat) (done : List MV) (R : Result → Shared → Prop),
    AOk A C.rank → Rel c s.heap μ H T X → FR C env (v0 :: caps) μ T X → (it, o) ∈ X → It μ T src i o → ¬ Use C env it → (D, listOf its n) ∈ X → ¬ Use C env D → D ≠ it → VRs μ T done its.toList → done.length + ws.length ≤ lim →
    (∀ s' μ' T' X' its' n' o', Stp s s' → Rel c s'.heap μ' H' T' X' → μ <+: μ' → (∀ p ∈ T, p ∈ T') → (D, listOf its' n') ∈ X' → VRs μ' T' (done ++ ws) its'.toList → (env.locals, o') ∈ X' → (∃ es ep, o'.data = .dict es ep ∧ StrKeys es) →
      (∀ p ∈ X, p.1 ≠ it → p.1 ≠ D → p.1 ≠ env.locals → p ∈ X') → R (.ok .next) s') →
    codeAny (Km c) A (.compLoop (.ListComp pe [⟨.Name x px, iter, [], 0⟩] scope pos) 0 (.ref it) (.ref D) env) R s

theorem C_end {elt : ME} {src : MV} {i : Nat} {caps : Loc} {vs : List MV} (hi : items H src = some vs) (hv : vs.length ≤ i) : MeC c elt src i caps H [] H := by
  intro C pe x px pos iter scope he hx hk A env s μ T X v0 it D o its n done R a r F hit I hu hD huD hne hd hl k
  obtain ⟨oL, es, ep, hX, hd1, hs1, _⟩ := F.loc
  have hLi : env.locals ≠ it := fun e => hu (.inl e.symm)
  refine comp_step (iter_end a.h r hit hX hLi I hi hv fun s' st r' => ?_)
  refine k s' μ T _ its n oL st r' (List.prefix_refl _) (fun u1 h => h) (List.mem_filter.mpr ⟨hD, by simpa using hne⟩) (by simpa using hd) (List.mem_filter.mpr ⟨hX, by simpa using hLi⟩) ⟨es, ep, hd1, hs1⟩ fun p hp h1 u1 u2 => List.mem_filter.mpr ⟨hp, by simpa using h1⟩

theorem C_go {elt : ME} {src : MV} {i : Nat} {caps : Loc} {vs ws : List MV} {v w : MV} (hi : items H src = some vs) (hv : vs[i]? = some v) (h1 : MeE c (some v :: caps) H elt w H1) (h2 : MeC c elt src (i + 1) caps H1 ws H2) : MeC c elt src i caps H (w :: ws) H2 := by
  intro C pe x px pos iter scope he hx hk A env s μ T X v0 it D o its n done R a r F hit I hu hD huD hne hd hl k
  have hLi : env.locals ≠ it := fun e => hu (.inl e.symm)
  have hLD : env.locals ≠ D := fun e => huD (.inl e.symm)
  refine comp_step (iter_next r hit I hi hv fun s1 o1 y st1 r1 I1 v1 => ?_)
  have F1 : FR C env (v0 :: caps) μ T (setAt X it o1) := F.keepX fun p hp hU => setAt_keep hp fun e => hu (e ▸ hU)
  refine wpAny_assign_Name (store_local r1 F1 hx hk v1 fun s2 X2 st2 r2 F2 hk2 => ?_)
  have F2' : FR C env (some v :: caps) μ T X2 := F2
  refine h1 C pe he A env s2 μ T X2 _ _ ⟨a, r2, F2'⟩ fun s3 μ3 T3 z st3 a3 v3 => ?_
  have hit2 : (it, o1) ∈ X2 := hk2 _ (setAt_mem hit) (Ne.symm hLi)
  have hD2 : (D, listOf its n) ∈ X2 := hk2 _ (setAt_keep hD hne) (Ne.symm hLD)
  have hlen := (hd.len).trans Array.length_toList
  refine append_at (a3.r.xl _ hD2) (fun h4 hs4 hg4 => ?_) (size_of_lim (by simp at hl; lia))
  have r4 := a3.r.setX hD2 hs4 hg4
  have F4 : FR C env (some v :: caps) μ3 T3 (setAt X2 D (listOf (its.push z) (n + 1))) := (F2'.mono a3.m a3.t).keepX fun p hp hU => setAt_keep hp fun e => huD (e ▸ hU)
  refine h2 C pe x px pos iter scope he hx hk A env _ μ3 T3 _ (some v) it D o1 (its.push z) (n + 1) (done ++ [w]) R a r4 F4 (setAt_keep hit2 (Ne.symm hne)) (I1.mono a3.m a3.t) hu (setAt_mem hD2) huD hne ?_ (by simp at hl ⊢; lia) ?_
  · rw [Array.toList_push]; exact (hd.mono a3.m a3.t).append (VRs.cons v3 VRs.nil)
  · intro s' μ' T' X' its' n' o' st r' m' t' e1 e2 e3 e4 e5
    refine k s' μ' T' X' its' n' o' (st1.trans (st2.trans (st3.trans ⟨st.gens, st.drawn, st.os⟩))) r' (a3.m.trans m') (fun p hp => t' p (a3.t p hp)) e1 (by simpa using e2) e3 e4 fun p hp q1 q2 q3 => ?_
    exact e5 p (setAt_keep (hk2 p (setAt_keep hp q1) q3) q2) q1 q2 q3

theorem iter_self {src : MV} {i : Nat} {it : Addr} {o : Obj} {A : Around} {s : Shared} {μ : Ads} {T X : Led} {Q : Value → Shared → Prop} {E : Value → Shared → Prop} (R : Rel c s.heap μ H T X) (hX : (it, o) ∈ X) (I : It μ T src i o) (k : Q (.ref it) s) : wpAny (Km c) A (pyIter (.ref it)) Q E s := by
  cases src with
  | tup ws =>
    obtain ⟨a, o', its, n, m, c1, d, r, c2, d2⟩ := I
    exact wpAny_pyIter_tupleiter (i := i) (⟨o, R.xl _ hX, c2, d2⟩ : s.heap.IsTupleIter it a i) k
  | rng a b d =>
    unfold It at I; subst I
    exact wpAny_pyIter_rangeiter (R.xl _ hX) k
  | ref j =>
    obtain ⟨a, l, m, c2, d2⟩ := I
    exact wpAny_pyIter_listiter (i := i) (⟨o, R.xl _ hX, c2, d2⟩ : s.heap.IsListIter it a i) k
  | _ => exact I.elim

theorem inner_get {C : Cx} {x : Str} {caps : List Nat} {ns : List (Str × NameKind)} {j : Nat} {y : Str} (h : (C.inner x caps ns).names[j + 1]? = some y) : ∃ i, caps[j]? = some i ∧ y = (C.names[i]?).getD "" := by
  unfold Cx.inner at h
  rw [List.getElem?_cons_succ, List.getElem?_map] at h
  cases q : caps[j]? with
  | none => rw [q] at h; simp at h
  | some i => rw [q] at h; simp at h; exact ⟨i, rfl, h.symm⟩

structure CompW (C : Cx) (x : Str) (caps : List Nat) (sc : Scope) : Prop where
  k1 : sc.kind = .function
  k2 : ∀ y ∈ sc.names, y.2 ≠ .cell
  k3 : ∀ y ∈ sc.names, y.2 = .local → sc.names.lookup y.1 = some .local
  k7 : (C.inner x caps sc.names).names.Nodup
  x0 : (C.inner x caps sc.names).kinds.lookup x = some .local
  free : ∀ y ∈ sc.names, y.2 = .free → ∃ (i : Nat), C.names[i]? = some y.1 ∧ C.kinds.lookup y.1 = some .cell
  cap : ∀ i ∈ caps, ∃ n, C.names[i]? = some n ∧ sc.names.lookup n = some .free
theorem compW {C : Cx} {x : Str} {caps : List Nat} {sc : Scope} (h : compOk C x caps sc = true) : CompW C x caps sc := by
  have h6 := andT h; have h5 := andT h6.1; have h4 := andT h5.1; have h3 := andT h4.1; have h2 := andT h3.1; have h1 := andT h2.1
  have e4 : sc.names.lookup x = some .local := eq_of_beq h3.2
  refine ⟨eq_of_beq h1.1, fun y hy e => ?_, fun y hy e => ?_, of_decide_eq_true h6.2, ?_, fun y hy e => ?_, fun i hi => ?_⟩
  · have := List.all_eq_true.mp h1.2 y hy; rw [e] at this; exact noF this
  · have := List.all_eq_true.mp h2.2 y hy; rw [e] at this; exact eq_of_beq this
  · simp only [Cx.inner, relK_lookup, e4, Option.map_some]; rfl
  · have := List.all_eq_true.mp h4.2 y hy; rw [e] at this
    have q := andT this
    obtain ⟨i, hi', e⟩ := List.mem_iff_getElem.mp (List.contains_iff_mem.mp q.2)
    exact ⟨i, by rw [List.getElem?_eq_getElem hi', e], eq_of_beq q.1⟩
  · have := List.all_eq_true.mp h5.2 i hi
    cases e : C.names[i]? with
    | none => rw [e] at this; exact noF this
    | some n => rw [e] at this; exact ⟨n, rfl, eq_of_beq this⟩

theorem E_comp {elt src : ME} {caps : List Nat} {v : MV} {vs ws : List MV} (h1 : MeE c l H src v H1) (hi : items H1 v = some vs) (h2 : MeC c elt v 0 (caps.map (getL l)) H1 ws H2) (hl : ws.length ≤ lim) :
    MeE c l H (.comp elt src caps) (.ref H2.length) (H2 ++ [.list ws]) := by
  intro C pe hm; refine v_comp hm fun pt x px iter sc pos hok hsrc helt => ?_; intro A env s μ T X Q E P kk
  have W := compW hok
  have hfreec := W.free
  have hcapn := W.cap
  obtain ⟨cl, c1, c2, c3⟩ := closure_of sc env (fun y hy hf => by
    obtain ⟨i, e1, e2⟩ := hfreec y hy hf
    obtain ⟨a, o, cv, e, _⟩ := P.f.cell i y.1 e1 (.inl e2)
    exact ⟨a, e⟩)
  rw [eval_ListComp]
  refine wpAny_comprehension_free (use := Option.none) rfl (fun u1 => iter_plain hsrc) c1 W.k1 W.k3 (h1 C _ hsrc A env s μ T X _ _ P fun s1 μ1 T1 xv st1 a1 v1 => ?_)
  refine iter_start a1.r v1 hi fun s2 it o st2 r2 I2 f2 => ?_
  have fD := r2.fresh (Nat.le_refl _)
  refine wpAny_newObj_type (wpAny_newFunctionEnv W.k2 (by intro y hy; simp at hy) (fun h3 hns hsb => ?_) W.k1)
  generalize hH2 : s2.heap.push { cls := .type "list", dict := none, data := .seq ([] : List Value).toArray } = G2 at hns hsb ⊢
  have hsz : G2.objs.size = s2.heap.objs.size + 1 := by rw [← hH2, Heap.size_push]
  obtain ⟨oC, esC, epC, gC, dC, sC, fC⟩ := hns
  have gD : G2.get? s2.heap.objs.size = some (listOf #[] 0) := by rw [← hH2]; exact Heap.get?_push_size _ rfl
  have hgrow : Grow s2.heap h3 := fun b o' e => by
    have hlt := Heap.lt_size e
    refine hsb.extBut b o' (by rw [hsz]; exact Nat.ne_of_lt (Nat.lt_succ_of_lt hlt)) (Heap.get?_push_of_some _ ?_)
    rw [← hH2]; exact Heap.get?_push_of_some _ e
  have hDC : s2.heap.objs.size ≠ G2.objs.size := by rw [hsz]; exact Nat.ne_of_lt (Nat.lt_succ_self _)
  have gD3 : h3.get? s2.heap.objs.size = some (listOf #[] 0) := hsb.extBut _ _ hDC (Heap.get?_push_of_some _ gD)
  have hsz3 : c.B.objs.size ≤ h3.objs.size := Nat.le_of_lt (Nat.lt_of_le_of_lt (Nat.le_trans r2.size (by rw [hsz]; exact Nat.le_succ _)) (Heap.lt_size gC))
  have fC2 := r2.fresh (a := G2.objs.size) (by rw [hsz]; exact Nat.le_succ _)
  have r3 : Rel c h3 μ1 H1 T1 ((G2.objs.size, oC) :: (s2.heap.objs.size, listOf #[] 0) :: (it, o) :: X) :=
    ((r2.grow hgrow hsz3).addX gD3 fD.1 fD.2.1 fD.2.2.2).addX gC fC2.1 fC2.2.1 fC2.2.2.2
  have hitD : s2.heap.objs.size ≠ it := fun e => fD.2.2.1 (it, o) (.head _) e.symm
  have hitC : G2.objs.size ≠ it := fun e => fC2.2.2.1 (it, o) (.head _) e.symm
  have hXD : ∀ p ∈ X, p.1 ≠ s2.heap.objs.size := fun p hp => fD.2.2.1 p (.tail _ hp)
  have hXC : ∀ p ∈ X, p.1 ≠ G2.objs.size := fun p hp => fC2.2.2.1 p (.tail _ hp)
  have F1 := P.f.mono a1.m a1.t
  have hfk : (env.scope.kind == ScopeKind.function) = true := by rw [P.f.fk]; rfl
  have hnames : (relabel sc env).names = relK C.kinds sc.names := by
    unfold relabel relK
    simp only
    apply List.map_congr_left
    intro y _
    obtain ⟨n, k⟩ := y
    simp only [hfk, P.f.kindOf, Bool.and_true]
  have F3 : FR (C.inner x caps sc.names) (compEnvC sc cl G2.objs.size env) (Option.none :: caps.map (getL l)) μ1 T1 ((G2.objs.size, oC) :: (s2.heap.objs.size, listOf #[] 0) :: (it, o) :: X) := by
    refine ⟨W.k1, hnames, P.f.gl, P.f.bl, by simp [Cx.inner], W.k7, ⟨oC, esC, epC, .head _, dC, sC, fun j w y q1 q2 q3 => ?_⟩, fun j y q2 q3 => ?_, fun y z a q1 q2 => P.f.apart y z a (c2 y a q1) (c2 z a q2)⟩
    · exfalso
      cases j with
      | zero => simp [getL] at q1
      | succ j =>
        obtain ⟨i, e1, rfl⟩ := inner_get q2
        obtain ⟨n, e2, e3⟩ := hcapn i (List.mem_of_getElem? e1)
        rw [e2] at q3
        simp only [Option.getD_some, Cx.inner, relK_lookup, e3, Option.map_some, Option.some.injEq] at q3
        split at q3 <;> simp at q3
    · cases j with
      | zero =>
        exfalso
        simp only [Cx.inner, List.getElem?_cons_zero, Option.some.injEq] at q2
        subst q2
        rw [W.x0] at q3
        rcases q3 with q3 | q3 <;> cases q3
      | succ j =>
        obtain ⟨i, e1, rfl⟩ := inner_get q2
        obtain ⟨n, e2, e3⟩ := hcapn i (List.mem_of_getElem? e1)
        rw [e2]
        simp only [Option.getD_some]
        obtain ⟨i', e4, e5⟩ := hfreec _ (mem_of_lookup e3) rfl
        obtain ⟨a, oc, cv, u1, u2, u3, u4⟩ := F1.cell i n e2 (.inl e5)
        obtain ⟨a', u5⟩ := c3 n e3
        have := c2 n a' u5
        rw [u1] at this; cases this
        refine ⟨a, oc, cv, u5, .tail _ (.tail _ (.tail _ u2)), u3, fun w hw => ?_⟩
        unfold getL at hw
        rw [List.getElem?_cons_succ, List.getElem?_map, e1] at hw
        exact u4 w hw
  have huse : ∀ b, Use (C.inner x caps sc.names) (compEnvC sc cl G2.objs.size env) b → b = G2.objs.size ∨ ∃ ob, (b, ob) ∈ X := fun b hb => by
    rcases hb with rfl | ⟨j, y, q1, q2, q3⟩
    · exact .inl rfl
    · obtain ⟨ob, hob⟩ := F3.use (.inr ⟨j, y, q1, q2, q3⟩)
      right
      cases j with
      | zero =>
        exfalso
        simp only [Cx.inner, List.getElem?_cons_zero, Option.some.injEq] at q1
        subst q1
        rw [W.x0] at q2
        rcases q2 with q2 | q2 <;> cases q2
      | succ j =>
        obtain ⟨i, e1, rfl⟩ := inner_get q1
        obtain ⟨n, e2, e3⟩ := hcapn i (List.mem_of_getElem? e1)
        rw [e2] at q3
        obtain ⟨i', e4, e5⟩ := hfreec _ (mem_of_lookup e3) rfl
        obtain ⟨a, oc, cv, u1, u2, u3, u4⟩ := F1.cell i n e2 (.inl e5)
        have := c2 _ b q3
        simp only [Option.getD_some] at this
        rw [u1] at this; cases this
        exact ⟨oc, u2⟩
  have loop : codeAny (Km c) A (.compLoop (.ListComp pt [⟨.Name x px, iter, [], 0⟩] sc pos) 0 (.ref it) (.ref s2.heap.objs.size) (compEnvC sc cl G2.objs.size env)) (compPost (Km c) A E Option.none Q (.ref s2.heap.objs.size) G2.objs.size) { s2 with heap := h3, toks := s2.toks + ([] : List (Str × Value)).length } := by
    refine h2 (C.inner x caps sc.names) pt x px pos iter sc helt rfl W.x0 A _ _ μ1 T1 _ Option.none it s2.heap.objs.size o #[] 0 [] _ P.a r3 F3 (.tail _ (.tail _ (.head _))) I2 ?_ (.tail _ (.head _)) ?_ hitD (VRs.nil) (by simpa using hl) ?_
    · intro hu
      rcases huse _ hu with e | ⟨ob, e⟩
      · exact hitC e.symm
      · exact f2 _ e rfl
    · intro hu
      rcases huse _ hu with e | ⟨ob, e⟩
      · exact hDC e
      · exact hXD _ e rfl
    · intro s4 μ4 T4 X4 its4 n4 o4 st4 r4 m4 t4 e1 e2 e3 e4 e5
      obtain ⟨es4, ep4, d4, sk4⟩ := e4
      refine ⟨fun y => nsFind es4 y, ⟨o4, es4, ep4, r4.xl _ e3, d4, sk4, fun u1 => rfl⟩, fun h5 hs5 => ?_⟩
      have r5 := r4.dropX e3 hs5.extBut (by rw [hs5.1]; exact r4.size)
      obtain ⟨r6, v6⟩ := r5.moveX (List.mem_filter.mpr ⟨e1, bne_iff_ne.mpr hDC⟩) e2
      refine kk _ _ T4 _ (st1.trans (st2.trans ⟨st4.gens, st4.drawn, st4.os⟩)) ⟨r6.sub fun p hp => ?_, a1.m.trans (m4.trans (List.prefix_append _ _)), fun p hp => t4 p (a1.t p hp)⟩ v6
      refine List.mem_filter.mpr ⟨List.mem_filter.mpr ⟨e5 p (.tail _ (.tail _ (.tail _ hp))) (f2 p hp) (hXD p hp) (hXC p hp), bne_iff_ne.mpr (hXC p hp)⟩, by simpa using hXD p hp⟩
  exact codeAny_compStart_list loop (iter_self r3 (.tail _ (.tail _ (.head _))) I2 loop)
end
end Mine

end
/-! SN -/
section
open PySem PySem.W PySem.Calls PyProof.Rows
set_option linter.unusedVariables false
set_option maxRecDepth 20000
namespace Mine

section
variable {c : Cw} {H H1 H2 H3 H4 : MH} {l l1 l2 : Loc}

theorem no_swap {v : Expr} {t : Option Expr} {n : Nat} {env : Env} (h : notComp v = true) : swapsWith v t n env = pure false := by
  cases v <;> first | exact rfl | exact noF h

theorem Ss_nil : MeSs c l H [] Option.none l H := by
  intro C ps hm; refine u_nil hm ?_; intro A env s μ T X Q E P k
  exact wpAny_execs_nil (k s μ T X _ (Stp.refl s) ((Aft.same P.r).s P.f) rfl)
theorem Ss_cons {st : MS} {ss : List MS} {o : Option MV} (h1 : MeS c l H st Option.none l1 H1) (h2 : MeSs c l1 H1 ss o l2 H2) : MeSs c l H (st :: ss) o l2 H2 := by
  intro C ps hm; refine u_cons hm fun x r m1 m2 => ?_; intro A env s μ T X Q E P k
  refine wpAny_execs_cons (h1 C _ m1 A env s μ T X _ _ P fun s1 μ1 T1 X1 fl st1 a1 f1 => ?_)
  cases f1
  refine h2 C _ m2 A env s1 μ1 T1 X1 _ _ (a1.pre P.a) fun s2 μ2 T2 X2 fl st2 a2 f2 => k s2 μ2 T2 X2 fl (st1.trans st2) (a1.trans a2) f2
theorem Ss_ret {st : MS} {ss : List MS} {v : MV} (h1 : MeS c l H st (some v) l1 H1) : MeSs c l H (st :: ss) (some v) l1 H1 := by
  intro C ps hm; refine u_cons hm fun x r m1 m2 => ?_; intro A env s μ T X Q E P k
  refine wpAny_execs_cons (h1 C _ m1 A env s μ T X _ _ P fun s1 μ1 T1 X1 fl st1 a1 f1 => ?_)
  obtain ⟨x, rfl, v1⟩ := f1
  exact k s1 μ1 T1 X1 _ st1 a1 ⟨x, rfl, v1⟩

theorem S_assign {x : Nat} {e : ME} {v : MV} (h1 : MeE c l H e v H1) : MeS c l H (.assign x e) Option.none (l.set x (some v)) H1 := by
  intro C ps hm; refine u_assign hm fun n p v0 q m1 m2 m3 => ?_; intro A env s μ T X Q E P k
  refine wpAny_Assign_Name (h1 C _ m3 A env s μ T X _ _ P fun s1 μ1 T1 p st1 a1 v1 => ?_) (no_swap m2)
  refine store_any a1.r (P.f.mono a1.m a1.t) m1 v1 fun s2 X2 st2 r2 f2 o2 => ?_
  exact k s2 μ1 T1 X2 _ (st1.trans st2) ⟨r2, a1.m, a1.t, f2, o2⟩ rfl

theorem S_ret {e : ME} {v : MV} (h1 : MeE c l H e v H1) : MeS c l H (.ret e) (some v) l H1 := by
  intro C ps hm; refine u_ret hm fun v0 q hm => ?_; intro A env s μ T X Q E P k
  exact wpAny_Return_some (h1 C _ hm A env s μ T X _ _ P fun s1 μ1 T1 p st1 a1 v1 => k s1 μ1 T1 X _ st1 (a1.s P.f) ⟨p, rfl, v1⟩)

theorem S_expr {e : ME} (h1 : MeE c l H e .none H1) : MeS c l H (.expr e) Option.none l H1 := by
  intro C ps hm; refine u_expr hm fun v0 q m1 m2 => ?_; intro A env s μ T X Q E P k
  refine wpAny_Expr (h1 C _ m2 A env s μ T X _ _ P fun s1 μ1 T1 p st1 a1 v1 => ?_) ?_ (no_swap m1)
  · unfold VR at v1; subst v1
    exact k s1 μ1 T1 X _ st1 (a1.s P.f) rfl
  · unfold interactive; rw [P.f.fk]; rfl

theorem S_iteT {t : ME} {a b : List MS} {o : Option MV} (h1 : MeB c l H t true H1) (h2 : MeSs c l H1 a o l2 H2) : MeS c l H (.ite t a b) o l2 H2 := by
  intro C ps hm; refine u_ite hm fun t0 x y q m1 m2 m3 => ?_; intro A env s μ T X Q E P k
  refine wpAny_If (h1 C _ m1 A env s μ T X _ _ P fun s1 μ1 T1 st1 a1 => ?_)
  exact h2 C _ m2 A env s1 μ1 T1 X _ _ (P.aft a1) fun s2 μ2 T2 X2 fl st2 a2 f2 => k s2 μ2 T2 X2 fl (st1.trans st2) ((a1.s P.f).trans a2) f2
theorem S_iteF {t : ME} {a b : List MS} {o : Option MV} (h1 : MeB c l H t false H1) (h2 : MeSs c l H1 b o l2 H2) : MeS c l H (.ite t a b) o l2 H2 := by
  intro C ps hm; refine u_ite hm fun t0 x y q m1 m2 m3 => ?_; intro A env s μ T X Q E P k
  refine wpAny_If (h1 C _ m1 A env s μ T X _ _ P fun s1 μ1 T1 st1 a1 => ?_)
  exact h2 C _ m3 A env s1 μ1 T1 X _ _ (P.aft a1) fun s2 μ2 T2 X2 fl st2 a2 f2 => k s2 μ2 T2 X2 fl (st1.trans st2) ((a1.s P.f).trans a2) f2

noncomputable def MeW (c : Cw) (t : ME) (b : List MS) (l : Loc) (H : MH) (o : Option MV) (l' : Loc) (H' : MH) : Prop :=
  ∀ (C : Cx) (pt : Expr) (pb : List Stmt), mE c.G C t pt = true → mSs c.G C b pb = true → ∀ (A : Around) (env : Env) (s : Shared) (μ : Ads) (T X : Led) (R : Result → Shared → Prop),
    Pre c C A env l s.heap μ H T X → (∀ s' μ' T' X' fl, Stp s s' → AftS c C env s'.heap l' μ T X μ' H' T' X' → flOk μ' T' o fl → R (.ok fl) s') → codeAny (Km c) A (.whileLoop pt pb [] env) R s
theorem W_end {t : ME} {b : List MS} (h1 : MeB c l H t false H1) : MeW c t b l H Option.none l H1 := by
  intro C pt pb m1 m2 A env s μ T X R P k
  refine while_step (h1 C _ m1 A env s μ T X _ _ P fun s1 μ1 T1 st1 a1 => ?_)
  exact wpAny_execs_nil (k s1 μ1 T1 X _ st1 (a1.s P.f) rfl)
theorem W_go {t : ME} {b : List MS} {o : Option MV} (h1 : MeB c l H t true H1) (h2 : MeSs c l H1 b Option.none l1 H2) (h3 : MeW c t b l1 H2 o l2 H3) : MeW c t b l H o l2 H3 := by
  intro C pt pb m1 m2 A env s μ T X R P k
  refine while_step (h1 C _ m1 A env s μ T X _ _ P fun s1 μ1 T1 st1 a1 => ?_)
  refine h2 C _ m2 A env s1 μ1 T1 X _ _ (P.aft a1) fun s2 μ2 T2 X2 fl st2 a2 f2 => ?_
  cases f2
  exact h3 C pt pb m1 m2 A env s2 μ2 T2 X2 R (a2.pre P.a) fun s3 μ3 T3 X3 fl st3 a3 f3 => k s3 μ3 T3 X3 fl (st1.trans (st2.trans st3)) (((a1.s P.f).trans a2).trans a3) f3
theorem W_ret {t : ME} {b : List MS} {v : MV} (h1 : MeB c l H t true H1) (h2 : MeSs c l H1 b (some v) l1 H2) : MeW c t b l H (some v) l1 H2 := by
  intro C pt pb m1 m2 A env s μ T X R P k
  refine while_step (h1 C _ m1 A env s μ T X _ _ P fun s1 μ1 T1 st1 a1 => ?_)
  refine h2 C _ m2 A env s1 μ1 T1 X _ _ (P.aft a1) fun s2 μ2 T2 X2 fl st2 a2 f2 => ?_
  obtain ⟨x, rfl, v1⟩ := f2
  exact k s2 μ2 T2 X2 _ (st1.trans st2) ((a1.s P.f).trans a2) ⟨x, rfl, v1⟩
theorem S_while {t : ME} {b : List MS} {o : Option MV} (h : MeW c t b l H o l2 H2) : MeS c l H (.while t b) o l2 H2 := by
  intro C ps hm; refine u_while hm fun t0 x q m1 m2 => ?_; intro A env s μ T X Q E P k
  exact wpAny_While (h C _ _ m1 m2 A env s μ T X _ P fun s' μ' T' X' fl st a f => k s' μ' T' X' fl st a f)

noncomputable def MeF (c : Cw) (x : Nat) (src : MV) (i : Nat) (b : List MS) (l : Loc) (H : MH) (o : Option MV) (l' : Loc) (H' : MH) : Prop :=
  ∀ (C : Cx) (n : Str) (px : Pos) (pb : List Stmt), C.sto x n = true → mSs c.G C b pb = true → ∀ (A : Around) (env : Env) (s : Shared) (μ : Ads) (T X : Led) (it : Addr) (oi : Obj) (R : Result → Shared → Prop),
    Pre c C A env l s.heap μ H T X → (it, oi) ∈ X → It μ T src i oi → ¬ Use C env it →
    (∀ s' μ' T' X' fl, Stp s s' → Rel c s'.heap μ' H' T' X' → μ <+: μ' → (∀ p ∈ T, p ∈ T') → FR C env l' μ' T' X' → (∀ p ∈ X, ¬ Own C env p.1 → p.1 ≠ it → p ∈ X') → flOk μ' T' o fl → R (.ok fl) s') →
    codeAny (Km c) A (.forLoop (.Name n px) (.ref it) pb [] env) R s
theorem F_end {x i : Nat} {src : MV} {b : List MS} {vs : List MV} (hi : items H src = some vs) (hv : vs.length ≤ i) : MeF c x src i b l H Option.none l H := by
  intro C n px pb m1 m2 A env s μ T X it oi R P hX I hu k
  obtain ⟨oL, es, ep, hL, _⟩ := P.f.loc
  have hne : env.locals ≠ it := fun e => hu (.inl e.symm)
  refine for_step (iter_end P.a.h P.r hX hL hne I hi hv fun s1 st1 r1 => ?_)
  refine wpAny_execs_nil (k s1 μ T _ _ st1 r1 (List.prefix_refl _) (fun u1 h => h) (P.f.keepX fun p hp hU => ?_) (fun p hp u1 h => List.mem_filter.mpr ⟨hp, by simpa using h⟩) rfl)
  exact List.mem_filter.mpr ⟨hp, by simp; intro e; exact hu (e ▸ hU)⟩
theorem F_turn {x i : Nat} {src : MV} {b : List MS} {vs : List MV} {v : MV} {o : Option MV} (hi : items H src = some vs) (hv : vs[i]? = some v) (h1 : MeSs c (l.set x (some v)) H b o l1 H1)
    {C : Cx} {n : Str} {px : Pos} {pb : List Stmt} (m1 : C.sto x n = true) (m2 : mSs c.G C b pb = true) {A : Around} {env : Env} {s : Shared} {μ : Ads} {T X : Led} {it : Addr} {oi : Obj} {R : Result → Shared → Prop}
    (P : Pre c C A env l s.heap μ H T X) (hX : (it, oi) ∈ X) (I : It μ T src i oi) (hu : ¬ Use C env it)
    (k : ∀ s' μ' T' X' o' fl, Stp s s' → AftS c C env s'.heap l1 μ T (setAt X it o') μ' H1 T' X' → (it, o') ∈ X' → It μ' T' src (i + 1) o' → flOk μ' T' o fl → match fl with
      | .next | .cont => codeAny (Km c) A (.forLoop (.Name n px) (.ref it) pb [] env) R s'
      | .brk => R (.ok .next) s'
      | .ret v => R (.ok (.ret v)) s') : codeAny (Km c) A (.forLoop (.Name n px) (.ref it) pb [] env) R s := by
  refine for_step (iter_next P.r hX I hi hv fun s1 o1 y st1 r1 I1 v1 => ?_)
  have F1 : FR C env l μ T (setAt X it o1) := P.f.keepX fun p hp hU => setAt_keep hp fun e => hu (e ▸ hU)
  refine wpAny_assign_Name (store_any r1 F1 m1 v1 fun s2 X2 st2 r2 f2 o2 => ?_)
  refine h1 C pb m2 A env s2 μ T X2 _ _ ⟨P.a, r2, f2⟩ fun s3 μ3 T3 X3 fl st3 a3 f3 => ?_
  have hi2 : (it, o1) ∈ X2 := o2 _ (setAt_mem hX) fun h => hu h.use
  exact k s3 μ3 T3 X3 o1 fl (st1.trans (st2.trans st3)) ⟨a3.r, a3.m, a3.t, a3.f, o2.trans a3.o⟩ (a3.o _ hi2 fun h => hu h.use) (I1.mono a3.m a3.t) f3
theorem F_go {x i : Nat} {src : MV} {b : List MS} {vs : List MV} {v : MV} {o : Option MV} (hi : items H src = some vs) (hv : vs[i]? = some v) (h1 : MeSs c (l.set x (some v)) H b Option.none l1 H1) (h2 : MeF c x src (i + 1) b l1 H1 o l2 H2) :
    MeF c x src i b l H o l2 H2 := by
  intro C n px pb m1 m2 A env s μ T X it oi R P hX I hu k
  refine F_turn hi hv h1 m1 m2 P hX I hu fun s1 μ1 T1 X1 o1 fl st1 a1 hi1 I1 f1 => ?_
  cases f1
  refine h2 C n px pb m1 m2 A env s1 μ1 T1 X1 it o1 R (a1.pre P.a) hi1 I1 hu fun s2 μ2 T2 X2 fl st2 r2 mm tt f2 kp fo => ?_
  exact k s2 μ2 T2 X2 fl (st1.trans st2) r2 (a1.m.trans mm) (fun p hp => tt p (a1.t p hp)) f2 (fun p hp hn hne => kp p (a1.o p (setAt_keep hp hne) hn) hn hne) fo
theorem F_ret {x i : Nat} {src : MV} {b : List MS} {vs : List MV} {v r : MV} (hi : items H src = some vs) (hv : vs[i]? = some v) (h1 : MeSs c (l.set x (some v)) H b (some r) l1 H1) : MeF c x src i b l H (some r) l1 H1 := by
  intro C n px pb m1 m2 A env s μ T X it oi R P hX I hu k
  refine F_turn hi hv h1 m1 m2 P hX I hu fun s1 μ1 T1 X1 o1 fl st1 a1 hi1 I1 f1 => ?_
  obtain ⟨z, rfl, v1⟩ := f1
  exact k s1 μ1 T1 X1 _ st1 a1.r a1.m a1.t a1.f (fun p hp hn hne => a1.o p (setAt_keep hp hne) hn) ⟨z, rfl, v1⟩
theorem S_for {x : Nat} {e : ME} {b : List MS} {v : MV} {vs : List MV} {o : Option MV} (h1 : MeE c l H e v H1) (hi : items H1 v = some vs) (h2 : MeF c x v 0 b l H1 o l2 H2) : MeS c l H (.for x e b) o l2 H2 := by
  intro C ps hm; refine u_for hm fun n p it0 y q m1 m2 m3 => ?_; intro A env s μ T X Q E P k
  refine wpAny_For (h1 C _ m2 A env s μ T X _ _ P fun s1 μ1 T1 xv st1 a1 v1 => ?_) (fun u1 => iter_plain m2)
  refine iter_start a1.r v1 hi fun s2 it oi st2 r2 I2 f2 => ?_
  have F1 := P.f.mono a1.m a1.t
  have F2 : FR C env l μ1 T1 ((it, oi) :: X) := F1.keepX fun p hp u1 => .tail _ hp
  have hu : ¬ Use C env it := fun h => by obtain ⟨ob, hob⟩ := F1.use h; exact f2 _ hob rfl
  refine h2 C _ _ _ m1 m3 A env s2 μ1 T1 _ it oi _ ⟨P.a, r2, F2⟩ (.head _) I2 hu fun s3 μ3 T3 X3 fl st3 r3 mm tt f3 kp fo => ?_
  exact k s3 μ3 T3 X3 fl (st1.trans (st2.trans st3)) ⟨r3, a1.m.trans mm, fun p hp => tt p (a1.t p hp), f3, fun p hp hn => kp p (.tail _ hp) hn (f2 p hp)⟩ fo
end
end Mine

end
/-! SO -/
section
open PySem PySem.W PySem.Calls PyProof.Rows
set_option linter.unusedVariables false
set_option maxRecDepth 20000
namespace Mine

theorem draw_list {prog : Program} {w : World} {A : Around} {E : Value → Shared → Prop} {it t : Addr} {items : Array Value} (hne : t ≠ it) : ∀ (n i : Nat) (s : Shared) (Q : List Value → Shared → Prop), s.heap.IsListIter it t i → s.heap.IsList t items → i + n ≤ items.size →
    (∀ h', h'.IsListIter it t (i + n) → Heap.SameBut it s.heap h' → Q ((items.toList.drop i).take n) { s with heap := h' }) → wpAny (model prog w) A (draw (.ref it) n) Q E s
  | 0, i, s, Q, hit, _, _, hQ => by
    show wpAny _ _ (pure []) Q E s
    exact wpAny_pure (by simpa using hQ s.heap hit (Heap.SameBut.refl ..))
  | n + 1, i, s, Q, hit, ht, hle, hQ => by
    have hlt : i < items.size := by lia
    show wpAny _ _ (pyNext (.ref it) >>= _) Q E s
    refine wpAny_bind (wpAny_pyNext_list_item hit ht (x := items[i]) (by simp [hlt]) fun h₁ hit₁ hs₁ => ?_)
    refine wpAny_bind (wpAny_holding (draw_list hne n (i + 1) _ _ hit₁ (ht.extBut hs₁.extBut hne) (by lia) fun h₂ hit₂ hs₂ => wpAny_pure ?_))
    have hd : items.toList.drop i = items[i] :: items.toList.drop (i + 1) := by simp [List.drop_eq_getElem_cons, hlt]
    have := hQ h₂ (by rw [show i + (n + 1) = i + 1 + n by lia]; exact hit₂) (hs₁.trans hs₂)
    rw [hd, List.take_succ_cons] at this
    exact this
theorem unpack_list {prog : Program} {w : World} {A : Around} {s : Shared} {E : Value → Shared → Prop} {t : Addr} {items : Array Value} {Q : List Value → Shared → Prop} (hh : A.handled = none) (ht : s.heap.IsList t items)
    (hQ : ∀ h', Heap.ExtBut s.heap.objs.size s.heap h' → Q items.toList { s with heap := h' }) : wpAny (model prog w) A (unpackItems (.ref t) items.size none) Q E s := by
  have hlt : t ≠ s.heap.objs.size := by obtain ⟨o, ho, _⟩ := ht; exact Nat.ne_of_lt (Heap.lt_size ho)
  unfold unpackItems
  refine wpAny_bind ?_
  · unfold notIterableAtAll
    refine wpAny_bind (wpAny_specialOf ht.typeIs slot_list_iter.lookup ?_)
    refine wpAny_pure ?_
    simp only [Bool.false_eq_true, if_false]
    refine wpAny_bind (wpAny_holding (wpAny_pyIter_list ht ?_))
    refine wpAny_bind (wpAny_holding (draw_list hlt items.size 0 _ _ ⟨_, Heap.get?_push_size _ rfl, rfl, rfl⟩ (ht.push _) (by lia) fun h₁ hit₁ hs₁ => ?_))
    have hall : List.take items.size (List.drop 0 items.toList) = items.toList := by
      rw [List.drop_zero]; exact List.take_of_length_le (by simp)
    rw [hall]
    rw [if_neg (by simp)]
    have ht₁ : h₁.IsList t items := (ht.push _).extBut hs₁.extBut hlt
    refine wpAny_bind (wpAny_holding (wpAny_pyNext_list_end hh hit₁ ht₁ (by simp) fun h₂ he₂ => ?_))
    simp only [Option.isSome_none, Bool.false_eq_true, if_false]
    refine wpAny_pure (hQ h₂ fun b o hb e => he₂ b o hb (hs₁.extBut b o hb (Heap.get?_push_of_some _ e)))

section
variable {c : Cw} {H H1 H2 H3 H4 : MH} {l l1 l2 : Loc} {A : Around} {s : Shared} {μ : Ads} {T X : Led} {C : Cx} {env : Env}

/-- names are stored one after the other -/
theorem store_all {E : Value → Shared → Prop} : ∀ {xs : List Nat} {ts : List Expr} {vs : List MV} {vals : List Value} {l : Loc} {X : Led} {s : Shared} {Q : Unit → Shared → Prop}, mNs C xs ts = true → vs.length = xs.length → Rel c s.heap μ H T X → FR C env l μ T X → VRs μ T vs vals →
    (∀ s' X', Stp s s' → Rel c s'.heap μ H T X' → FR C env (setAll l xs vs) μ T X' → Off C env X X' → Q () s') →
    wpAny (Km c) A (assignInOrder ((assignEach ts env).map (·.2)) vals) Q E s := by
  intro xs
  induction xs with
  | nil =>
    intro ts vs vals l X s Q hm hl R F hv k
    have : vs = [] := List.length_eq_zero_iff.mp hl
    subst this
    have hv : _ = _ := hv; subst hv
    refine n_nil hm ?_
    exact wpAny_pure (k s X (Stp.refl s) R F (.refl X))
  | cons x xs ih =>
    intro ts vs vals l X s Q hm hl R F hv k
    cases vs with
    | nil => exact absurd hl (Nat.succ_ne_zero _).symm
    | cons v vs =>
      obtain ⟨y, r, rfl, v1, v2⟩ := hv
      refine n_cons hm fun n p ts m1 m2 => ?_
      show wpAny (Km c) A (holding r (assign (.Name n p) env y) >>= fun u1 => assignInOrder ((assignEach ts env).map (·.2)) r) Q E s
      refine wpAny_bind (wpAny_holding (wpAny_assign_Name (store_any R F m1 v1 fun s1 X1 st1 r1 f1 o1 => ?_)))
      exact ih m2 (Nat.succ.inj hl) r1 f1 v2 fun s2 X2 st2 r2 f2 o2 => k s2 X2 (st1.trans st2) r2 f2 (o1.trans o2)

theorem mNs_len : ∀ {xs : List Nat} {ts : List Expr}, mNs C xs ts = true → ∀ env, (assignEach ts env).length = xs.length ∧ (assignEach ts env).findIdx? (·.1) = none
  | [], ts, h, env => n_nil (M := fun ts => (assignEach ts env).length = 0 ∧ (assignEach ts env).findIdx? (·.1) = none) h ⟨rfl, rfl⟩
  | x :: xs, ts, h, env => n_cons (M := fun ts => (assignEach ts env).length = xs.length + 1 ∧ (assignEach ts env).findIdx? (·.1) = none) h fun n p ts u1 m2 => by
    have i := mNs_len m2 env
    have e : assignEach (.Name n p :: ts) env = (false, assign (.Name n p) env) :: assignEach ts env := rfl
    rw [e, List.findIdx?_cons, i.2, List.length_cons, i.1]
    exact ⟨rfl, rfl⟩

/-- the items of a tuple or list -/
theorem unpack_any {v : MV} {vs : List MV} {x : Value} {Q : List Value → Shared → Prop} {E : Value → Shared → Prop} (hh : A.handled = none) (hX : ∃ p, p ∈ X) (R : Rel c s.heap μ H T X) (hv : VR μ T v x) (hi : items H v = some vs) (hr : ∀ a b c, v ≠ .rng a b c)
    (k : ∀ s' xs, Stp s s' → Rel c s'.heap μ H T X → VRs μ T vs xs → Q xs s') : wpAny (Km c) A (unpackItems x vs.length none) Q E s := by
  have grow : ∀ {h' : Heap}, Heap.ExtBut s.heap.objs.size s.heap h' → Rel c h' μ H T X := fun {h'} he =>
    have hk : Grow s.heap h' := fun b o e => he b o (Nat.ne_of_lt (Heap.lt_size e)) e
    R.grow hk (R.sizeX hX hk)
  cases v with
  | int _ => simp [items] at hi
  | bool _ => simp [items] at hi
  | none => simp [items] at hi
  | str => simp [items] at hi
  | fl _ => simp [items] at hi
  | rng a b d => exact absurd rfl (hr a b d)
  | tup ws =>
    simp [items] at hi; subst hi
    refine (R.tup hv).out fun a o its n g c1 d1 r1 ht => ?_
    have hl := r1.len.trans Array.length_toList
    rw [hl]
    exact wpAny_unpackItems_tuple hh (⟨o, g, c1, n, d1⟩ : s.heap.IsTuple a its) fun h' he => k _ _ ⟨rfl, rfl, rfl⟩ (grow he) r1
  | ref j =>
    have e := items_ref hi
    refine (R.list e hv).out fun a its n m1 g1 r1 => ?_
    have hl := r1.len.trans Array.length_toList
    rw [hl]
    exact unpack_list hh (listAt g1) fun h' he => k _ _ ⟨rfl, rfl, rfl⟩ (grow he) r1

theorem S_unpack {xs : List Nat} {e : ME} {v : MV} {vs : List MV} (h1 : MeE c l H e v H1) (hi : items H1 v = some vs) (hr : ∀ a b c, v ≠ .rng a b c) (hl : vs.length = xs.length) : MeS c l H (.unpack xs e) Option.none (setAll l xs vs) H1 := by
  intro C ps hm; refine u_unpack hm fun ts k1 p1 pv pos m1 m2 m3 m4 m5 => ?_; intro A env s μ T X Q E P k
  refine PyProof.Rows.Assign_Tuple (h1 C _ m4 A env s μ T X _ _ P fun s1 μ1 T1 x st1 a1 v1 => ?_) (by unfold swapsWithSole; exact no_swap m2) (by revert m3; cases pv <;> intro m3 <;> first | exact rfl | exact noF m3.symm)
  rw [arm_assign_Tuple]
  refine wpAny_bind (wpAny_standAt ?_)
  obtain ⟨z1, z2⟩ := mNs_len m1 env
  unfold unpack
  rw [z1, z2, ← hl]
  obtain ⟨oL, es, ep, hL, _⟩ := P.f.loc
  refine wpAny_bind (wpAny_holding (unpack_any P.a.h ⟨_, hL⟩ a1.r v1 hi hr fun s2 ys st2 r2 v2 => ?_))
  exact store_all m1 hl r2 (P.f.mono a1.m a1.t) v2 fun s3 X3 st3 r3 f3 o3 => k s3 μ1 T1 X3 _ (st1.trans (st2.trans st3)) ⟨r3, a1.m, a1.t, f3, o3⟩ rfl

theorem mNsL_names {n : Nat} (F : ∀ x, env.kindOf x = C.kinds.lookup x) : ∀ {xs : List Nat} {ts : List Expr}, mNsL C xs ts n = true →
    (ts.filterMap fun | .Name id pos => if env.kindOf id == some .local && pos.line == n then some id else none | _ => none) = nmsOf ts ∧ (nmsOf ts).length = ts.length ∧ ts.length = xs.length ∧ ∀ (i : Nat) x nm, xs[i]? = some x → (nmsOf ts)[i]? = some nm → C.sto x nm = true
  | [], ts, h => by refine nL_nil h ?_; exact ⟨rfl, rfl, rfl, fun i x nm h => nomatch h⟩
  | x :: xs, ts, h => by
    refine nL_cons h fun nm p ts h1 h2 h3 h4 => ?_
    have i := mNsL_names F h4
    refine ⟨?_, congrArg (· + 1) i.2.1, congrArg (· + 1) i.2.2.1, fun j y m e1 e2 => ?_⟩
    · rw [List.filterMap_cons, i.1]
      simp only [F, h2, h3, beq_self_eq_true, Bool.and_self, if_true]
      rfl
    · cases j with
      | zero => cases e1; cases e2; exact h1
      | succ j => exact i.2.2.2 j y m e1 e2

theorem star_no {G : GI} {x : Expr} : ∀ {e : ME}, mE G C e x = true → (match x with | .Starred .. => true | _ => false) = false := by
  intro e h; cases x <;> first | exact rfl | exact (noStar h).elim
theorem no_star {G : GI} : ∀ {es : List ME} {vs : List Expr}, mEs G C es vs = true → (vs.any fun | .Starred .. => true | _ => false) = false
  | [], vs, h => by refine v_nil h ?_; rfl
  | e :: es, vs, h => by
    refine v_cons h fun x r h1 h2 => ?_
    rw [List.any_cons, no_star h2, Bool.or_false]
    exact star_no h1
theorem len2 {α : Type} {l : List α} (h : l.length = 2) : ∃ a b, l = [a, b] := match l, h with | [a, b], _ => ⟨a, b, rfl⟩
theorem len3 {α : Type} {l : List α} (h : l.length = 3) : ∃ a b d, l = [a, b, d] := match l, h with | [a, b, d], _ => ⟨a, b, d, rfl⟩

theorem nmk {N M : List Str} {k : Nat} (h : N = M) (h8 : M.eraseDups.length = M.length) (h2 : M.length = k) : ¬ (N.length != k || N.eraseDups.length != N.length) = true := by subst h; rw [h8, h2]; simp
theorem swapped {G : GI} {xs : List Nat} {ts vs : List Expr} {es : List ME} {k1 : Nat} {p1 : Pos} {k2 : Nat} {p2 : Pos} (F : ∀ x, env.kindOf x = C.kinds.lookup x) (hf : env.scope.kind = .function) (m1 : mNsL C xs ts ((ts.head?.map (·.pos.line)).getD 0) = true) (m2 : xs.length = 2 ∨ xs.length = 3) (m3 : es.length = xs.length) (m4 : mEs G C es vs = true)
    (m6 : vs.all (foldedForSure 8) = false) (m7 : vs.all (constantsAlone 8) = false) (m8 : (nmsOf ts).eraseDups.length = (nmsOf ts).length) :
    swappedStores [.Tuple ts k1 p1] (.Tuple vs k2 p2) env = pure (some (nmsOf ts)) := by
  obtain ⟨h1, h2, h3, h4⟩ := mNsL_names F m1
  have hl := mEs_len m4
  unfold swappedStores
  refine ifn (fun h => Bool.noConfusion ((?_ : _ = false).symm.trans h)) ?_
  · have : env.blockKind = .function := by unfold Env.blockKind; rw [hf]; rfl
    rw [this]
    have e1 : vs.length = ts.length := by lia
    rw [e1]
    rcases m2 with m2 | m2
    · rw [h3, m2]; rfl
    · rw [h3, m2]; rfl
  refine ifn (fun h => Bool.noConfusion ((no_star m4).symm.trans h)) ?_
  refine ifn (nmk h1 m8 h2) ?_
  refine ifn (fun h => Bool.noConfusion (m6.symm.trans h)) ?_
  refine ifn (fun h => Bool.noConfusion (m7.symm.trans h)) ?_
  exact congrArg (fun x => pure (f := Sem) (some x)) h1

theorem set_comm {l : Loc} {a b : Nat} {v w : Option MV} (h : a ≠ b) : (l.set a v).set b w = (l.set b w).set a v := List.set_comm v w h

theorem S_assignT {xs : List Nat} {es : List ME} {vs : List MV} (h1 : MeEs c l H es vs H1) (hl : vs.length = xs.length) : MeS c l H (.assignT xs es) Option.none (setAll l xs vs) H1 := by
  intro C ps hm; refine u_assignT hm fun ts k1 p1 pv k2 p2 pos m1 m2 m3 m4 m5 m6 m7 m8 => ?_; intro A env s μ T X Q E P k
  have g := mNsL_names P.f.kindOf m1
  have g3 := g.2.2.1; have g2 := g.2.1; have g4 := g.2.2.2
  have hE := E_tup h1 (by rcases m2 with m2 | m2 <;> (rw [hl, m2]; rw [sizeLine_eq]; decide))
  have hmt : mE c.G C (.tup es) (.Tuple pv k2 p2) = true := m4
  refine PyProof.Rows.Assign_Tuple_swapped (hE C _ hmt A env s μ T X _ _ P fun s1 μ1 T1 x st1 a1 v1 => ?_) (by unfold swapsWithSole; rfl) (swapped P.f.kindOf P.f.fk m1 m2 m3 m4 m6 m7 m8)
  obtain ⟨oL, es', ep, hL, _⟩ := P.f.loc
  have e1 : (nmsOf ts).length = vs.length := by lia
  rw [e1]
  refine unpack_any (v := .tup vs) P.a.h ⟨_, hL⟩ a1.r v1 rfl (fun u1 u2 u3 h => by cases h) fun s2 ys st2 r2 v2 => ?_
  have F1 := P.f.mono a1.m a1.t
  have hnl : (nmsOf ts).length = xs.length := by lia
  generalize nmsOf ts = ns at *
  rcases m2 with m2 | m2
  · have q1 := hnl.trans m2; have q2 := hl.trans m2
    clear g g2 g3 e1 hnl hl
    obtain ⟨a, b, rfl⟩ := len2 m2; obtain ⟨n1, n2, rfl⟩ := len2 q1; obtain ⟨u1, u2, rfl⟩ := len2 q2
    · clear m1 m3 m4 hE hmt
      obtain ⟨y1, y2, rfl, w1, w2⟩ := v2.two
      have hab : a ≠ b := by simp at m5; exact m5
      show wpAny (Km c) A (holding [y1] (bindName env n2 y2) >>= fun u1 => holding [] (bindName env n1 y1) >>= fun u1 => pure ()) _ E s2
      refine wpAny_bind (wpAny_holding (wpAny_bindName (store_any r2 F1 (g4 1 b n2 rfl rfl) w2 fun s3 X3 st3 r3 f3 o3 => ?_)))
      refine wpAny_bind (wpAny_holding (wpAny_bindName (store_any r3 f3 (g4 0 a n1 rfl rfl) w1 fun s4 X4 st4 r4 f4 o4 => wpAny_pure ?_)))
      refine k s4 μ1 T1 X4 _ (st1.trans (st2.trans (st3.trans st4))) ⟨r4, a1.m, a1.t, ?_, o3.trans o4⟩ rfl
      show FR C env ((l.set a (some u1)).set b (some u2)) μ1 T1 X4
      rw [set_comm hab]; exact f4
  · have q1 := hnl.trans m2; have q2 := hl.trans m2
    clear g g2 g3 e1 hnl hl
    obtain ⟨a, b, d, rfl⟩ := len3 m2; obtain ⟨n1, n2, n3, rfl⟩ := len3 q1; obtain ⟨u1, u2, u3, rfl⟩ := len3 q2
    · clear m1 m3 m4 hE hmt
      obtain ⟨y1, y2, y3, rfl, w1, w2, w3⟩ := v2.three
      have hab : a ≠ b ∧ a ≠ d ∧ b ≠ d := by simp at m5; exact ⟨m5.1.1, m5.1.2, m5.2⟩
      show wpAny (Km c) A (holding [y2, y1] (bindName env n3 y3) >>= fun u1 => holding [y1] (bindName env n2 y2) >>= fun u1 => holding [] (bindName env n1 y1) >>= fun u1 => pure ()) _ E s2
      refine wpAny_bind (wpAny_holding (wpAny_bindName (store_any r2 F1 (g4 2 d n3 rfl rfl) w3 fun s3 X3 st3 r3 f3 o3 => ?_)))
      refine wpAny_bind (wpAny_holding (wpAny_bindName (store_any r3 f3 (g4 1 b n2 rfl rfl) w2 fun s4 X4 st4 r4 f4 o4 => ?_)))
      refine wpAny_bind (wpAny_holding (wpAny_bindName (store_any r4 f4 (g4 0 a n1 rfl rfl) w1 fun s5 X5 st5 r5 f5 o5 => wpAny_pure ?_)))
      refine k s5 μ1 T1 X5 _ (st1.trans (st2.trans (st3.trans (st4.trans st5)))) ⟨r5, a1.m, a1.t, ?_, o3.trans (o4.trans o5)⟩ rfl
      show FR C env (((l.set a (some u1)).set b (some u2)).set d (some u3)) μ1 T1 X5
      rw [set_comm hab.1, set_comm hab.2.1, set_comm hab.2.2]; exact f5

theorem S_setattr (ok : c.OkA) {o e : ME} {a k m : Nat} {v : MV} {fs : List (Nat × MV)} (h1 : MeE c l H e v H1) (h2 : MeE c l H1 o (.ref k) H2) (hk : H2[k]? = some (.inst m fs)) (hz : fs.length ≤ 50) (hmn : c.P.dat m a = true) :
    MeS c l H (.setattr o a e) Option.none l (H2.set k (.inst m (putF a v fs))) := by
  intro C ps hm; refine u_setattr hm fun x nm p0 pv pos m1 m2 m3 m4 => ?_; intro A env s μ T X Q E P kk
  refine plainObj_wpAny_Assign_Attribute (h1 C _ m4 A env s μ T X _ _ P fun s1 μ1 T1 y st1 a1 v1 => ?_) (no_swap m2)
  refine h2 C _ m3 A env s1 μ1 T1 X _ _ (P.aft a1) fun s2 μ2 T2 z st2 a2 v2 => ?_
  obtain ⟨b, d, es, n, D, hμ, hc, g1, g2, ar, I⟩ := a2.r.inst hk v2
  have F := ok.at_ m D a nm hc m1 hmn
  have v1' := v1.mono a2.m a2.t
  have hput : ∀ tk, Obj.putName nm (PyData.keyHash c.w.params nm) (.str nm tk) y (dictOf es n) = dictOf (putL nm (PyData.keyHash c.w.params nm) (.str nm tk) y es) (putN nm es n) := fun tk => putName_dict ..
  have hbd : b ≠ d := by
    intro e; subst e; rw [g1] at g2; cases g2
  refine set_raw (fun b o e => a2.r.keep b o (ok.KX b o e)) g1 g2 F ar.noRef (by rw [ar.len]; (with_reducible exact Nat.le_trans (by assumption) (by decide))) ?_
  have D' : (s2.heap.update d (Obj.putName nm (PyData.keyHash c.w.params nm) (.str nm (s2.toks + 1)) y)).get? d = some (dictOf (putL nm (PyData.keyHash c.w.params nm) (.str nm (s2.toks + 1)) y es) (putN nm es n)) := by
    rw [Heap.get?_update_self _ g2 (by rw [hput]; rfl), hput]
  have sb := Heap.SameBut.update s2.heap d (Obj.putName nm (PyData.keyHash c.w.params nm) (.str nm (s2.toks + 1)) y)
  refine kk _ μ2 T2 X _ (st1.trans (st2.trans ⟨rfl, rfl, rfl⟩)) (Aft.s ⟨a2.r.setH hμ (by simp) sb ⟨b, d, _, _, D, rfl, hc, (sb.2 b hbd).trans g1, D', ar.put ok.inj m1 v1'⟩, (a1.trans a2).m, (a1.trans a2).t⟩ P.f) rfl

theorem load_sto {i : Nat} {x : Str} {v : MV} {Q : Value → Shared → Prop} {E : Value → Shared → Prop} (R : Rel c s.heap μ H T X) (F : FR C env l μ T X) (hx : C.sto i x = true) (hv : getL l i = some v) (k : ∀ val, VR μ T v val → Q val s) : wpAny (Km c) A (loadName env x) Q E s := by
  obtain ⟨h1, h2⟩ := sto_parts hx
  rcases h2 with h2 | h2
  · obtain ⟨oL, es, ep, hX, hd, hs, hl⟩ := F.loc
    obtain ⟨val, e, r⟩ := hl i v x hv h1 h2
    exact wpAny_loadName_local F.fk ((F.kindOf x).trans h2) ⟨oL, es, ep, R.xl _ hX, hd, hs, fun u1 => rfl⟩ e (k _ r)
  · obtain ⟨a, o, cv, e1, hX, hd, hl⟩ := F.cell i x h1 (.inl h2)
    obtain ⟨val, rfl, r⟩ := hl v hv
    exact wpAny_loadName_cell F.fk ((F.kindOf x).trans h2) e1 ⟨o, R.xl _ hX, hd⟩ (k _ r)

theorem S_aug {x : Nat} {e : ME} {a b : Int} (hx : getL l x = some (.int a)) (h1 : MeE c l H e (.int b) H1) : MeS c l H (.aug x .add e) Option.none (l.set x (some (.int (a + b)))) H1 := by
  intro C ps hm; refine u_aug hm fun n p0 pv pos m2 m3 => ?_; intro A env s μ T X Q E P k
  refine wpAny_AugAssign_Name (load_sto P.r P.f m2 hx fun old v0 => ?_)
  refine v0.intE fun t => ?_
  refine h1 C _ m3 A env s μ T X _ _ P fun s1 μ1 T1 y st1 a1 v1 => ?_
  refine v1.intE fun u => ?_
  refine PyProof.Rows.iadd_int ?_
  refine store_any (s := { s1 with toks := s1.toks + 1 }) a1.r (P.f.mono a1.m a1.t) m2 (VR.ofInt (a + b) s1.toks) fun s2 X2 st2 r2 f2 o2 => ?_
  exact k s2 μ1 T1 X2 _ (st1.trans ⟨st2.gens, st2.drawn, st2.os⟩) ⟨r2, a1.m, a1.t, f2, o2⟩ rfl

/-! ### items -/
theorem DR.len {μ : Ads} {T : Led} : ∀ {es : List ((Int × Int) × MV)} {xs : List (List Int × Addr × Value)}, DR μ T es xs → es.length = xs.length
  | [], _, h => by unfold DR at h; subst h; rfl
  | e :: es, _, hz => by obtain ⟨y, r, q, _, _, _, rest⟩ := hz; subst q; simp [DR.len rest]
theorem DR.append {μ : Ads} {T : Led} {e : (Int × Int) × MV} {y : List Int × Addr × Value} (k1 : y.1 = [e.1.1, e.1.2]) (k2 : ∃ o its n, KeyV T y.2.1 e.1.1 e.1.2 o its n) (k3 : VR μ T e.2 y.2.2) :
    ∀ {es : List ((Int × Int) × MV)} {xs : List (List Int × Addr × Value)}, DR μ T es xs → DR μ T (es ++ [e]) (xs ++ [y])
  | [], _, h => by unfold DR at h; subst h; exact ⟨y, [], rfl, k1, k2, k3, rfl⟩
  | f :: es, _, hz => by obtain ⟨z, r, q, a1, a2, a3, rest⟩ := hz; subst q; exact ⟨z, r ++ [y], rfl, a1, a2, a3, DR.append k1 k2 k3 rest⟩
theorem putD_new {a b : Int} {v : MV} : ∀ {es : List ((Int × Int) × MV)} {xs : List (List Int × Addr × Value)}, DR μ T es xs → atKey xs [a, b] = none → putD (a, b) v es = es ++ [((a, b), v)]
  | [], _, _, _ => rfl
  | e :: es, _, hz, h => by
    obtain ⟨y, r, q, k1, _, _, rest⟩ := hz
    subst q
    unfold putD
    by_cases hh : e.1 = (a, b)
    · exfalso
      rw [hh] at k1
      have hk : y.1 = [a, b] := k1
      simp [atKey, hk] at h
    · rw [if_neg hh]
      have hk : ¬ y.1 = [a, b] := by rw [k1]; intro e1; apply hh; simp at e1; exact Prod.ext e1.1 e1.2
      have h' : atKey r [a, b] = none := by simpa [atKey, List.find?_cons, hk] using h
      rw [putD_new rest h']; rfl
theorem putAt_same {a b : Int} {val : Value} : ∀ {xs : List (List Int × Addr × Value)}, (∀ x ∈ xs, x.1 ≠ [a, b]) → xs.map (putAt [a, b] val) = xs
  | [], _ => rfl
  | x :: xs, h => by
    rw [List.map_cons, putAt_same fun y hy => h y (.tail _ hy)]
    unfold putAt
    rw [if_neg (h x (.head _))]
theorem putD_old {a b : Int} {v : MV} {val : Value} (hv : VR μ T v val) : ∀ {es : List ((Int × Int) × MV)} {xs : List (List Int × Addr × Value)}, DR μ T es xs → (xs.map (·.1)).Nodup → (atKey xs [a, b]).isSome = true → DR μ T (putD (a, b) v es) (xs.map (putAt [a, b] val))
  | [], _, h, _, hs => by have h : _ = _ := h; subst h; simp [atKey] at hs
  | e :: es, _, hz, hn, hs => by
    obtain ⟨y, r, q, k1, k2, k3, rest⟩ := hz
    subst q
    rw [List.map_cons, List.nodup_cons] at hn
    unfold putD
    by_cases hh : e.1 = (a, b)
    · rw [if_pos hh]
      have hk : y.1 = [a, b] := by rw [k1, hh]
      have hr : r.map (putAt [a, b] val) = r := putAt_same fun x hx e1 => hn.1 (List.mem_map.mpr ⟨x, hx, by rw [e1, hk]⟩)
      rw [List.map_cons, hr]
      have hp : putAt [a, b] val y = (y.1, y.2.1, val) := by unfold putAt; rw [if_pos hk]
      rw [hp]
      exact ⟨_, _, rfl, hk, by rw [← hh]; exact k2, hv, rest⟩
    · rw [if_neg hh]
      have hk : ¬ y.1 = [a, b] := by rw [k1]; intro e1; apply hh; simp at e1; exact Prod.ext e1.1 e1.2
      have hp : putAt [a, b] val y = y := by unfold putAt; rw [if_neg hk]
      rw [List.map_cons, hp]
      have hs' : (atKey r [a, b]).isSome = true := by simpa [atKey, List.find?_cons, hk] using hs
      exact ⟨y, _, rfl, k1, k2, k3, putD_old hv rest hn.2 hs'⟩

theorem set_ok {x y v : MV} {H' : MH} (b : SetR H x y v H') {p q z : Value} {Q : Unit → Shared → Prop} {E : Value → Shared → Prop} (hu : A.units + 64 < cLine) (R : Rel c s.heap μ H T X) (vx : VR μ T x p) (vy : VR μ T y q) (vz : VR μ T v z)
    (k : ∀ s', Stp s s' → Rel c s'.heap μ H' T X → Q () s') : wpAny (Km c) A (setItem p q z) Q E s := by
  induction b with
  | @list k' vs i v e h0 hlt hl =>
    refine (R.list e vx).out fun a its n m1 g1 r1 => ?_
    refine vy.intE fun t => ?_
    have hlen := r1.len.trans Array.length_toList
    refine ki_setAt g1 h0 (fits_idx hlt hl) (by lia) ?_
    obtain ⟨n', hg⟩ : ∃ n', (s.heap.update a (Obj.mapSeq (·.setIfInBounds i.toNat z))).get? a = some (listOf (its.setIfInBounds i.toNat z) n') := ⟨_, Heap.get?_update_self (Obj.mapSeq (·.setIfInBounds i.toNat z)) g1 rfl⟩
    refine k _ ⟨rfl, rfl, rfl⟩ (R.setH m1 (by simp) (Heap.SameBut.update ..) ⟨a, _, _, rfl, hg, ?_⟩)
    rw [Array.toList_setIfInBounds]
    exact r1.set i.toNat vz
  | @dict k' es i j v e hl =>
    refine (R.dict e vx).out fun d xs m1 g1 r1 => ?_
    obtain ⟨a, o, its, n, g, c1, d1, r2, ht⟩ := R.tup vy
    have hi : IntsAre its.toList [_, _] := (VRs.ints (is := [_, _])).mp r2
    have hlen := r1.len
    refine wpAny_setItem_heap (knd := tupleKind (intKind c.prog c.w)) (k := [_, _]) (tupleKind_room_in1 (by lia)) ⟨o, its, n, g, c1, d1, itemsAre_ints hi⟩ g1 (fun h' hd hs => ?_) (size_of_lim (by lia))
    refine k _ ⟨rfl, rfl, rfl⟩ (R.setH m1 (by simp) hs ?_)
    obtain ⟨o', es', ep', q1, q2, q3, q4, q5, q6⟩ := hd
    have hnd : (xs.map (·.1)).Nodup := g1.choose_spec.choose_spec.choose_spec.2.2.2.2.2
    have hy : ∃ ok its n, KeyV T a i j ok its n := by
      obtain ⟨a', o2, its2, n2, e1, e2, e3, e4, e5⟩ := vy
      cases e1
      exact ⟨o2, its2, n2, e2, e3, e4, (VRs.ints (is := [i, j])).mp e5⟩
    refine ⟨d, ep', storedH xs [i, j] a z, rfl, ?_, q6, ?_⟩
    · rw [q1]
      obtain ⟨oc, od, oda, osl⟩ := o'
      obtain ⟨z1, z2, z3⟩ := q2
      dsimp only at z1 z2 z3 q3
      subst z1 z2 z3 q3
      rw [← q4]
    · unfold storedH
      cases hs : (atKey xs [i, j]).isSome with
      | true => exact putD_old vz r1 hnd hs
      | false =>
        have hno : atKey xs [i, j] = none := by simpa using hs
        rw [putD_new r1 hno]
        exact DR.append rfl hy vz r1

theorem S_setitem {o i e : ME} {v x y : MV} (h1 : MeE c l H e v H1) (h2 : MeE c l H1 o x H2) (h3 : MeE c l H2 i y H3) (h4 : SetR H3 x y v H4) : MeS c l H (.setitem o i e) Option.none l H4 := by
  intro C ps hm; refine u_setitem hm fun po pi p0 pv pos m1 m2 m3 m4 => ?_; intro A env s μ T X Q E P kk
  refine wpAny_Assign_Subscript (h1 C _ m4 A env s μ T X _ _ P fun s1 μ1 T1 z st1 a1 v1 => ?_) (no_swap m1)
  refine h2 C _ m2 A env s1 μ1 T1 X _ _ (P.aft a1) fun s2 μ2 T2 p st2 a2 v2 => ?_
  refine h3 C _ m3 A env s2 μ2 T2 X _ _ (P.aft (a1.trans a2)) fun s3 μ3 T3 q st3 a3 v3 => ?_
  have am := a1.trans (a2.trans a3)
  refine set_ok h4 P.a.cl a3.r (v2.mono a3.m a3.t) v3 (v1.mono (a2.trans a3).m (a2.trans a3).t) fun s4 st4 r4 => ?_
  exact kk s4 μ3 T3 X _ (st1.trans (st2.trans (st3.trans st4))) (Aft.s ⟨r4, am.m, am.t⟩ P.f) rfl
end
end Mine

end
/-! SP -/
section
open PySem PySem.W PySem.Calls PyProof.Rows
set_option linter.unusedVariables false
set_option maxRecDepth 20000
namespace Mine
section
variable {c : Cw} {H H1 H2 H3 H4 : MH} {l l1 l2 : Loc}

theorem chain2 {M : Model} {A : Around} {s : Shared} {E : Value → Shared → Prop} {Q : Bool → Shared → Prop} {pos : Pos} {a : Value} {p1 p2 : CmpOp} {r1 r2 : Sem Value}
    (h : wpAny M A r1 (fun b s1 => wpAny M A (compareOp p1 a b) (fun cv s2 => wpAny M A (truthy cv) (fun t s3 => if t then wpAny M A (testChain pos b [p2] [r2]) Q E s3 else Q false s3) E s2) E s1) E s) :
    wpAny M A (testChain pos a [p1, p2] [r1, r2]) Q E s := by
  show wpAny M A (holding [a] r1 >>= fun rv => standAt pos >>= fun u1 => holding [a, rv] (compareOp p1 a rv) >>= fun cv => release [a, rv] [cv] >>= fun u1 => holding [cv, rv] (truthy cv) >>= fun t => if t = true then testChain pos rv [p2] [r2] else pure false) Q E s
  refine wpAny_bind (wpAny_holding (wpAny_mono h (fun b s1 h1 => ?_) fun u1 u2 x => x))
  refine wpAny_bind (wpAny_standAt (wpAny_bind (wpAny_holding (wpAny_mono h1 (fun cv s2 h2 => ?_) fun u1 u2 x => x))))
  refine wpAny_bind (wpAny_release (wpAny_bind (wpAny_holding (wpAny_mono h2 (fun t s3 h3 => ?_) fun u1 u2 x => x))))
  cases t
  · exact wpAny_pure h3
  · exact h3
theorem chain1 {M : Model} {A : Around} {s : Shared} {E : Value → Shared → Prop} {Q : Bool → Shared → Prop} {pos : Pos} {a : Value} {p : CmpOp} {r : Sem Value}
    (h : wpAny M A r (fun b s1 => wpAny M A (compareOp p a b) (fun cv s2 => wpAny M A (truthy cv) Q E s2) E s1) E s) : wpAny M A (testChain pos a [p] [r]) Q E s := by
  show wpAny M A (holding [a] r >>= fun rv => standAt pos >>= fun u1 => operate [a, rv] (compareOp p a rv) >>= fun cv => holding [cv] (truthy cv)) Q E s
  refine wpAny_bind (wpAny_holding (wpAny_mono h (fun b s1 h1 => ?_) fun u1 u2 x => x))
  refine wpAny_bind (wpAny_standAt (wpAny_bind (PyProof.Rows.wpAny_operate' (wpAny_mono h1 (fun cv s2 h2 => wpAny_holding h2) fun u1 u2 x => x))))
theorem isTrue_cmp2 (l : Expr) (p1 p2 : CmpOp) (r1 r2 : Expr) (pos : Pos) (env : Env) (whole : Sem Value) (hm : behindInMarks p2 r2 = false) : isTrue (.Compare l [p1, p2] [r1, r2] pos) env whole = (eval l env >>= fun a => testChain pos a [p1, p2] [eval r1 env, eval r2 env]) := by
  show (eval l env >>= fun a => testChain pos a [p1, p2] [eval r1 env, markedBehindIn p2 r2 (eval r2 env)]) = _
  rw [markedBehindIn_of_false hm]

theorem B_cmp2T {o1 o2 : Cop} {a b d : ME} {x y z : MV} {r : Bool} (h1 : MeE c l H a x H1) (h2 : MeE c l H1 b y H2) (h3 : CmpOk c H2 o1 x y true) (h4 : MeE c l H2 d z H3) (h5 : CmpOk c H3 o2 y z r) : MeB c l H (.cmp2 o1 o2 a b d) r H3 := by
  intro C pe hm; refine v_cmp2 hm fun l0 r1 r2 q m1 m2 m3 => ?_; intro A env s μ T X Q E P k
  rw [isTrue_cmp2 _ _ _ _ _ _ _ _ (behind_false _ m3)]
  refine wpAny_bind (h1 C _ m1 A env s μ T X _ _ P fun s1 μ1 T1 p st1 a1 v1 => chain2 ?_)
  refine h2 C _ m2 A env s1 μ1 T1 X _ _ (P.aft a1) fun s2 μ2 T2 q st2 a2 v2 => ?_
  refine h3 A s2 μ2 T2 X p q _ _ P.a.h P.a.cl a2.r (v1.mono a2.m a2.t) v2 fun s3 st3 r3 => ?_
  refine wpAny_truthy_bool ?_
  rw [if_pos rfl]
  have a3 : Aft c s3.heap μ T μ2 H2 T2 X := ⟨r3, (a1.trans a2).m, (a1.trans a2).t⟩
  refine chain1 (h4 C _ m3 A env s3 μ2 T2 X _ _ (P.aft a3) fun s4 μ4 T4 w st4 a4 v4 => ?_)
  refine h5 A s4 μ4 T4 X q w _ _ P.a.h P.a.cl a4.r (v2.mono a4.m a4.t) v4 fun s5 st5 r5 => ?_
  exact wpAny_truthy_bool (k s5 μ4 T4 (st1.trans (st2.trans (st3.trans (st4.trans st5)))) ⟨r5, (a3.trans a4).m, (a3.trans a4).t⟩)
theorem B_cmp2F {o1 o2 : Cop} {a b d : ME} {x y : MV} (h1 : MeE c l H a x H1) (h2 : MeE c l H1 b y H2) (h3 : CmpOk c H2 o1 x y false) : MeB c l H (.cmp2 o1 o2 a b d) false H2 := by
  intro C pe hm; refine v_cmp2 hm fun l0 r1 r2 q m1 m2 m3 => ?_; intro A env s μ T X Q E P k
  rw [isTrue_cmp2 _ _ _ _ _ _ _ _ (behind_false _ m3)]
  refine wpAny_bind (h1 C _ m1 A env s μ T X _ _ P fun s1 μ1 T1 p st1 a1 v1 => chain2 ?_)
  refine h2 C _ m2 A env s1 μ1 T1 X _ _ (P.aft a1) fun s2 μ2 T2 q st2 a2 v2 => ?_
  refine h3 A s2 μ2 T2 X p q _ _ P.a.h P.a.cl a2.r (v1.mono a2.m a2.t) v2 fun s3 st3 r3 => ?_
  refine wpAny_truthy_bool ?_
  rw [if_neg (by decide)]
  exact k s3 μ2 T2 (st1.trans (st2.trans st3)) ⟨r3, (a1.trans a2).m, (a1.trans a2).t⟩

/-- what a judgement says of the model -/
noncomputable def Me (c : Cw) : J → Prop
  | .E l h e v h' => MeE c l h e v h'
  | .Es l h es vs h' => MeEs c l h es vs h'
  | .B l h e b h' => MeB c l h e b h'
  | .All cj l h es b h' => MeAll c cj l h es b h'
  | .S l h s o l' h' => MeS c l h s o l' h'
  | .Ss l h ss o l' h' => MeSs c l h ss o l' h'
  | .W t b l h o l' h' => MeW c t b l h o l' h'
  | .F x src i b l h o l' h' => (∃ vs, items h src = some vs) ∧ MeF c x src i b l h o l' h'
  | .C e src i caps h ws h' => (∃ vs, items h src = some vs) ∧ MeC c e src i caps h ws h'
  | .Call f vs h v h' => MeCall c f vs h v h'

structure Cw.OkF (c : Cw) : Prop extends c.OkB where
  chk : ∀ f fa, c.fnA f = some fa → fnChk c.K c.G c.P f (c.names f) fa = true

theorem sound {c : Cw} (ok : c.OkF) {j : J} (e : Ev c.P j) : Me c j := by
  refine e (Me c) fun N f j s => ?_
  induction s with
  | int  => exact E_int
  | bool  => exact E_bool
  | none  => exact E_none
  | str  => exact E_str
  | loc h => exact E_loc h
  | gint h => exact E_gint ok.toOk h
  | gtup h => exact E_gtup ok.toOkB h
  | bin i1 i2 h => exact E_bin (f _ i1) (f _ i2) (bin_ok h)
  | neg i1 => exact E_neg (f _ i1)
  | cmp i1 i2 h => exact E_cmp (f _ i1) (f _ i2) h.ok
  | iteT i1 i2 => exact E_iteT (f _ i1) (f _ i2)
  | iteF i1 i2 => exact E_iteF (f _ i1) (f _ i2)
  | tup i1 h => exact E_tup (f _ i1) (size_of_lim h)
  | list i1 h => exact E_list (f _ i1) (size_of_lim h)
  | dict0  => exact E_dict0
  | attr i1 h1 h2 h3 => exact E_attr ok.toOkA (f _ i1) h1 h2 h3
  | item i1 i2 h => exact E_item (f _ i1) (f _ i2) h
  | slice2 i1 i2 i3 h1 h2 h3 h4 h5 => exact E_slice2 (f _ i1) (f _ i2) (f _ i3) h1 h2 h3 h4 h5
  | slice3 i1 i2 i3 h1 h2 h3 h4 h5 h6 => exact E_slice3 (f _ i1) (f _ i2) (f _ i3) h1 h2 h3 h4 h6
  | call i1 i2 => exact E_call ok.toOkC (f _ i1) (f _ i2)
  | new i1 h i2 => exact E_new ok.toOkC (f _ i1) h (f _ i2)
  | new0 h => exact E_new0 ok.toOkC h
  | meth i1 h1 h2 h3 i2 i3 => exact E_meth ok.toOkC (f _ i1) h1 h2 h3 (f _ i2) (f _ i3)
  | bi i1 h => exact E_bi ok.toOkB (f _ i1) h.ok
  | app i1 i2 h1 h2 h3 => exact E_app (f _ i1) (f _ i2) h1 h2 h3
  | ext i1 i2 h1 h2 h3 h4 h5 => exact E_ext (f _ i1) (f _ i2) h1 h2 h3 h4 h5
  | comp i1 i2 h => have i1 := f _ i1; have i2 := f _ i2; obtain ⟨⟨vs, hi⟩, i2⟩ := i2; exact E_comp i1 hi i2 h
  | nil  => exact Es_nil
  | cons i1 i2 => exact Es_cons (f _ i1) (f _ i2)
  | bcmp i1 i2 h => exact B_cmp (f _ i1) (f _ i2) h.ok
  | bcmp2T i1 i2 h1 i3 h2 => exact B_cmp2T (f _ i1) (f _ i2) h1.ok (f _ i3) h2.ok
  | bcmp2F i1 i2 h1 => exact B_cmp2F (f _ i1) (f _ i2) h1.ok
  | bnot i1 => exact B_not (f _ i1)
  | band i1 => exact B_and (f _ i1)
  | bor i1 => exact B_or (f _ i1)
  | bcall i1 => exact B_call (f _ i1)
  | allNil  => exact All_nil
  | allStop i1 => exact All_stop (f _ i1)
  | allGo i1 i2 => exact All_go (f _ i1) (f _ i2)
  | assign i1 => exact S_assign (f _ i1)
  | unpack i1 h1 h2 h3 => exact S_unpack (f _ i1) h1 h2 h3
  | assignT i1 h => exact S_assignT (f _ i1) h
  | setattr i1 i2 h1 h2 h3 => exact S_setattr ok.toOkA (f _ i1) (f _ i2) h1 h2 h3
  | setitem i1 i2 i3 h => exact S_setitem (f _ i1) (f _ i2) (f _ i3) h
  | aug h i1 => exact S_aug h (f _ i1)
  | iteTS i1 i2 => exact S_iteT (f _ i1) (f _ i2)
  | iteFS i1 i2 => exact S_iteF (f _ i1) (f _ i2)
  | «while» i1 => exact S_while (f _ i1)
  | «for» i1 i2 => have i1 := f _ i1; have i2 := f _ i2; obtain ⟨⟨vs, hi⟩, i2⟩ := i2; exact S_for i1 hi i2
  | ret i1 => exact S_ret (f _ i1)
  | expr i1 => exact S_expr (f _ i1)
  | snil  => exact Ss_nil
  | scons i1 i2 => exact Ss_cons (f _ i1) (f _ i2)
  | sret i1 => exact Ss_ret (f _ i1)
  | wend i1 => exact W_end (f _ i1)
  | wgo i1 i2 i3 => exact W_go (f _ i1) (f _ i2) (f _ i3)
  | wret i1 i2 => exact W_ret (f _ i1) (f _ i2)
  | fend h1 h2 => exact ⟨⟨_, h1⟩, F_end h1 h2⟩
  | fgo h1 h2 i1 i2 => exact ⟨⟨_, h1⟩, F_go h1 h2 (f _ i1) (f _ i2).2⟩
  | fret h1 h2 i1 => exact ⟨⟨_, h1⟩, F_ret h1 h2 (f _ i1)⟩
  | cend h1 h2 => exact ⟨⟨_, h1⟩, C_end h1 h2⟩
  | cgo h1 h2 i1 i2 => exact ⟨⟨_, h1⟩, C_go h1 h2 (f _ i1) (f _ i2).2⟩
  | callRet h1 h2 i1 => exact Call_ok ok.toOk h1 (fun fa h => ok.chk _ fa h) h2 (f _ i1)
  | callEnd h1 h2 i1 => exact Call_ok ok.toOk h1 (fun fa h => ok.chk _ fa h) h2 (f _ i1)
end
end Mine

end
/-! SQ -/
section
open PySem PySem.W PySem.Calls PyProof.Rows
set_option linter.unusedVariables false
set_option maxRecDepth 20000
namespace Mine
noncomputable def tFnA : Nat → Option Addr
  | 0 => some 21
  | 1 => some 35
  | 2 => some 49
  | 3 => some 70
  | 4 => some 75
  | 5 => some 80
  | 6 => some 136
  | 7 => some 174
  | 8 => some 213
  | 9 => some 227
  | 10 => some 234
  | 11 => some 241
  | 12 => some 329
  | 13 => some 357
  | 14 => some 371
  | 15 => some 385
  | 16 => some 636
  | 17 => some 662
  | 18 => some 688
  | 19 => some 695
  | 20 => some 709
  | 21 => some 716
  | 22 => some 735
  | 23 => some 742
  | 24 => some 28
  | 25 => some 87
  | 26 => some 94
  | 27 => some 101
  | 28 => some 169
  | 29 => some 251
  | 30 => some 298
  | 31 => some 322
  | 32 => some 610
  | 33 => some 648
  | 34 => some 655
  | 35 => some 723
  | 36 => some 108
  | 37 => some 115
  | 38 => some 272
  | 39 => some 615
  | 40 => some 622
  | 41 => some 730
  | 42 => some 378
  | 43 => some 629
  | 44 => some 681
  | 45 => some 641
  | 46 => some 669
  | 47 => some 747
  | 48 => some 754
  | _ => Option.none
noncomputable def tClsA : Nat → Option Addr
  | 0 => some 52
  | 1 => some 118
  | 2 => some 153
  | 3 => some 275
  | 4 => some 301
  | 5 => some 332
  | 6 => some 360
  | 7 => some 698
  | _ => Option.none

/-- the checks of the fragment -/
theorem anyAt {α : Type} {o : Option α} {p : { x : α // o = some x } → Bool} {x : α} (h : (o1 o).any p = true) (e : o = some x) : p ⟨x, e⟩ = true := by subst e; exact h
theorem allAt {α : Type} {o : Option α} {p : α → Bool} {x : α} (h : o.all p = true) (e : o = some x) : p x = true := by subst e; exact h
theorem inR {n k : Nat} {p : Nat → Bool} (h : (List.range n).all p = true) (e : k < n) : p k = true := List.all_eq_true.mp h k (List.mem_range.mpr e)
noncomputable def asNsInt (o : Option (Option Value)) : Option { x : Int × Tok // o = some (some (.int x.1 x.2)) } := match o with | some (some (.int j t)) => some ⟨(j, t), rfl⟩ | _ => none
noncomputable def asNsRef (o : Option (Option Value)) : Option { x : Addr // o = some (some (.ref x)) } := match o with | some (some (.ref j)) => some ⟨j, rfl⟩ | _ => none
noncomputable def asSeq (d : Data) : Option { x : Array Value × Nat // d = .seq x.1 x.2 } := match d with | .seq j t => some ⟨(j, t), rfl⟩ | _ => none
noncomputable def ckFn (K : Frag) (f : Nat) : Bool := (o1 (tFnA f)).any fun fa => fnChk K G0 prg f (tNames f) fa.1 && (keepIn K (.ref fa.1) && (tFn f).all fun nm => nsIn K mainGlobals nm == some (some (.ref fa.1)))
noncomputable def ckAt (K : Frag) (C : Addr) (nm : Str) : Bool := plainGet K C nm && (hasDictIn K C && (((o1 (findIn K (.ref C) nm)).any fun a => noGet K a.1) && (findIn K (.ref C) "__setattr__" == some (some (.builtin "object.__setattr__")) && (plainOver K C && takerIn K C nm == some Option.none))))
noncomputable def ckMe (K : Frag) (k : Nat) (C : Addr) (a : Nat) (nm : Str) : Bool := (prgMeth k a).all fun f => (o1 (tFnA f)).any fun fa => plainGet K C nm && (hasDictIn K C && (findIn K (.ref C) nm == some (some (.ref fa.1)) && (isFn K (.ref fa.1) && decide (tRank f ≤ tAtRank a))))
noncomputable def ckInit (K : Frag) (k : Nat) (C : Addr) : Option Nat → Bool
  | some f => (o1 (tFnA f)).any fun fa => findIn K (.ref C) "__init__" == some (some (.ref fa.1)) && (typeIn K (.ref fa.1) == some (.type "function") && decide (tRank f < tClsRank k))
  | none => findIn K (.ref C) "__init__" == some (some (.builtin "object.__init__"))
noncomputable def ckCls (K : Frag) (k : Nat) : Bool := (o1 (tClsA k)).any fun C => (o1 (tCls k)).any fun nm => makesIn K C.1 && (keepIn K (.ref C.1) && (nsIn K mainGlobals nm.1 == some (some (.ref C.1)) && ((prgInit k).all (ckInit K k C.1) &&
    (List.range 24).all (fun a => (o1 (tAt a)).any fun nm => (!prgDat k a || ckAt K C.1 nm.1) && ckMe K k C.1 a nm.1))))
noncomputable def ckInt (K : Frag) (g : Nat) : Bool := (o1 (tInt g)).any fun nm => (o1 (prgInt g)).any fun i => (asNsInt (nsIn K mainGlobals nm.1)).any fun j => j.1.1 == i.1
noncomputable def asInt (v : Value) : Option { x : Int × Tok // v = .int x.1 x.2 } := match v with | .int j t => some ⟨(j, t), rfl⟩ | _ => none
noncomputable def intsOf : List Value → List Int → Bool
  | vs, [] => vs.isEmpty
  | vs, i :: is => (lc vs).any fun t => (asInt t.1.1).any fun v => v.1.1 == i && intsOf t.1.2 is
noncomputable def ckTup (K : Frag) : Bool := (asNsRef (nsIn K mainGlobals (Str.ofString "ORDER_8"))).any fun a => (o1 (K.lookup a.1)).any fun o => (asSeq o.1.data).any fun x => o.1.cls == .type "tuple" && intsOf x.1.1.toList order8
noncomputable def ckBi (K : Frag) (b : Bi) : Bool := nsIn K mainGlobals b.nm == some Option.none
noncomputable def ckK (K : Frag) : Bool := (List.range 49).all (ckFn K) && ((List.range 8).all (ckCls K) && ((List.range 18).all (ckInt K) && (ckTup K && [Bi.len, .max, .min, .int, .sorted, .range, .list, .tuple].all (ckBi K))))

theorem intsOf_ok : ∀ {is : List Int} {vs : List Value}, intsOf vs is = true → IntsAre vs is
  | [], vs, h => mv (fun vs => IntsAre vs []) (nilT h) .nil
  | i :: is, vs, h => anyE h fun t h => anyE h fun v h => mv (fun vs => IntsAre vs _) t.2 <| mv (fun w => IntsAre (w :: _) _) v.2 <| mv (fun j => IntsAre (.int j _ :: _) _) (bq h) (.cons _ _ (intsOf_ok (tl1 h)))

noncomputable abbrev cw0 (prog : Program) (w : World) (B : Heap) (mg mb : Str → Option Value) (K : Frag) : Cw := ⟨prog, w, B, mg, mb, K, G0, prg, tClsA, tFnA, tNames⟩

theorem tFnA_lt {f : Nat} {a : Addr} (h : tFnA f = some a) : f < 49 := by
  by_cases hf : f < 49
  · exact hf
  · obtain ⟨n, rfl⟩ : ∃ n, f = n + 49 := ⟨f - 49, by lia⟩
    cases h
theorem tFn_lt {f : Nat} {a : Str} (h : tFn f = some a) : f < 49 := by
  by_cases hf : f < 49
  · exact hf
  · obtain ⟨n, rfl⟩ : ∃ n, f = n + 49 := ⟨f - 49, by lia⟩
    cases h
theorem tClsA_lt {f : Nat} {a : Addr} (h : tClsA f = some a) : f < 8 := by
  by_cases hf : f < 8
  · exact hf
  · obtain ⟨n, rfl⟩ : ∃ n, f = n + 8 := ⟨f - 8, by lia⟩
    cases h
theorem tCls_lt {f : Nat} {a : Str} (h : tCls f = some a) : f < 8 := by
  by_cases hf : f < 8
  · exact hf
  · obtain ⟨n, rfl⟩ : ∃ n, f = n + 8 := ⟨f - 8, by lia⟩
    cases h
theorem tAt_lt {f : Nat} {a : Str} (h : tAt f = some a) : f < 24 := by
  by_cases hf : f < 24
  · exact hf
  · obtain ⟨n, rfl⟩ : ∃ n, f = n + 24 := ⟨f - 24, by lia⟩
    cases h
theorem tInt_lt {f : Nat} {a : Str} (h : tInt f = some a) : f < 18 := by
  by_cases hf : f < 18
  · exact hf
  · obtain ⟨n, rfl⟩ : ∃ n, f = n + 18 := ⟨f - 18, by lia⟩
    cases h
theorem at_inj : ∀ a b nm, tAt a = some nm → tAt b = some nm → a = b := by
  intro a b nm ha hb
  have h1 := tAt_lt ha
  have h2 := tAt_lt hb
  have key : ((List.range 24).all fun a => (List.range 24).all fun b => !(tAt a == tAt b) || a == b) = true := by decide +kernel
  rw [List.all_eq_true] at key
  have := key a (List.mem_range.mpr h1)
  rw [List.all_eq_true] at this
  have := this b (List.mem_range.mpr h2)
  rw [ha, hb] at this
  simpa using this

section
variable {K : Frag} {f k : Nat} {fa C : Addr} {nm : Str}
theorem fnOk (h : ckFn K f = true) (e : tFnA f = some fa) : fnChk K G0 prg f (tNames f) fa = true ∧ keepIn K (.ref fa) = true ∧ ∀ nm, tFn f = some nm → nsIn K mainGlobals nm = some (some (.ref fa)) :=
  have h := anyAt h e
  ⟨hd1 h, hd1 (tl1 h), fun nm e2 => have h := allAt (tl1 (tl1 h)) e2; eq_of_beq h⟩
structure ClsW (K : Frag) (k : Nat) (C : Addr) : Prop where
  nm : ∃ nm, tCls k = some nm ∧ nsIn K mainGlobals nm = some (some (.ref C))
  mk' : makesIn K C = true
  kp : keepIn K (.ref C) = true
  ini : (prgInit k).all (ckInit K k C) = true
  ats : (List.range 24).all (fun a => (o1 (tAt a)).any fun nm => (!prgDat k a || ckAt K C nm.1) && ckMe K k C a nm.1) = true
theorem clsOk (h : ckCls K k = true) (e : tClsA k = some C) : ClsW K k C :=
  anyE (anyAt h e) fun nm h => have h1 := tl1 h; have h2 := tl1 h1; have h3 := tl1 h2; ⟨⟨nm.1, nm.2, bq h2⟩, hd1 h, hd1 h1, hd1 h3, tl1 h3⟩
theorem orT {a b : Bool} (h : (!a || b) = true) (e : a = true) : b = true := by subst e; exact h
end
theorem OkF_of {prog : Program} {w : World} {B : Heap} {mg mb : Str → Option Value} {K : Frag} (h : ckK K = true) (KX : K.In B) (g : B.Ns mainGlobals mg) (b : B.Ns builtinsNs mb) (lim : B.NoLimit) (hmb : ∀ b : Bi, mb b.nm = some (biV b)) :
    (cw0 prog w B mg mb K).OkF := by
  have hF := hd1 h; have h := tl1 h; have hC := hd1 h; have h := tl1 h; have hI := hd1 h; have h := tl1 h; have hT := hd1 h; have hB := tl1 h
  have fn := fun f fa (e : tFnA f = some fa) => fnOk (inR hF (tFnA_lt e)) e
  have cls := fun k C (e : tClsA k = some C) => clsOk (inR hC (tClsA_lt e)) e
  refine { KX := KX, g := g, b := b, lim := lim, int := ?_, at_ := ?_, inj := at_inj, fn := ?_, keep := fun f fa e => (fn f fa e).2.1, meth := ?_, cls := ?_, bi := ?_, mb := hmb, tup := ?_, chk := fun f fa e => (fn f fa e).1 }
  · intro gi i x e1 e2
    have := anyAt (anyAt (inR hI (tInt_lt e2)) e2) e1
    exact anyE this fun j h => ⟨j.1.2, mg_of KX g (j.2.trans (by rw [eq_of_beq h]))⟩
  · intro k C a nm e1 e2 e3
    have h := orT (hd1 (anyAt (inR (cls k C e1).ats (tAt_lt e2)) e2)) e3
    have h1 := tl1 h; have h2 := tl1 h1; have h3 := tl1 h2; have h4 := tl1 h3
    exact ⟨hd1 h, hd1 h1, anyE (hd1 h2) fun a h => ⟨a.1, a.2, h⟩, bq h3, hd1 h4, eq_of_beq (tl1 h4)⟩
  · intro f nm e
    exact anyE (inR hF (tFn_lt e)) fun fa h => ⟨fa.1, fa.2, mg_of KX g ((fn f _ fa.2).2.2 nm e)⟩
  · intro k C a nm f e1 e2 e3
    have h := allAt (tl1 (anyAt (inR (cls k C e1).ats (tAt_lt e2)) e2)) e3
    exact anyE h fun fa h => have h1 := tl1 h; have h2 := tl1 h1; have h3 := tl1 h2; ⟨fa.1, fa.2, ⟨hd1 h, hd1 h1, bq h2, hd1 h3⟩, (fn f _ fa.2).2.1, of_decide_eq_true (tl1 h3)⟩
  · intro k nm e
    refine anyE (inR hC (tCls_lt e)) fun C u1 => ?_
    have W := cls k _ C.2
    refine ⟨C.1, C.2, ⟨W.mk', W.kp, fun nm2 e2 => ?_, fun f hf => ?_, fun hf => ?_⟩⟩
    · obtain ⟨nm', c1, c2⟩ := W.nm
      have : nm2 = nm' := Option.some.inj (Eq.trans (Eq.symm e2) c1)
      subst this
      exact mg_of KX g c2
    · exact anyE (allAt W.ini hf : ckInit K k C.1 (some f) = true) fun fa h => ⟨fa.1, fa.2, bq h, bq (tl1 h), of_decide_eq_true (tl1 (tl1 h))⟩
    · exact eq_of_beq (allAt W.ini hf : ckInit K k C.1 Option.none = true)
  · intro bi
    exact mg_none_of KX g (eq_of_beq (List.all_eq_true.mp hB bi (by cases bi <;> repeat first | exact List.Mem.head _ | apply List.Mem.tail)))
  · intro gi is x e1 e2
    have hgi : gi = 0 := by
      cases gi with
      | zero => rfl
      | succ n => cases e1
    subst hgi
    cases e1; cases e2
    exact anyE hT fun a h => anyE h fun o h => anyE h fun x h => ⟨a.1, o.1, x.1.1, x.1.2, mg_of KX g a.2, KX _ _ o.2, bq h, x.2, intsOf_ok (tl1 h)⟩
end Mine

end
/-! SR -/
section
open PySem PySem.W PySem.Calls PyProof.Rows
set_option linter.unusedVariables false
set_option maxRecDepth 20000
namespace Mine
theorem fin {prog : Program} {w : World} {K : Frag} {mg mb : Str → Option Value} {s : Shared} {h₀ : Heap} {scope : Scope} {name : Str} {L fa a : Addr} {cd : Value} {body : List Stmt} {ns : List Int} {vs : List Value} {l' : Loc} {H' : MH} {m : Str → Option Value} {Q : Flow → Shared → Prop} {E : Value → Shared → Prop} {A : Around}
    (hK : ckK K = true) (KX : K.In h₀) (g : h₀.Ns mainGlobals mg) (b : h₀.Ns builtinsNs mb) (lim : h₀.NoLimit) (hmb : ∀ b : Bi, mb b.nm = some (biV b))
    (F : Fr h₀ L s.heap m) (hms : m (Str.ofString "script") = some (.ref a)) (hL : h₀.IsList a vs.toArray) (hI : IntsAre vs ns)
    (ev : Ev prg (.Ss (some (.fl ns) :: List.replicate 7 Option.none) [] b_law (some (.bool true)) l' H'))
    (hk : scope.kind = .function) (hfree : (tNames 48).all (fun x => scope.names.lookup x == some .local) = true)
    (hm : mSs G0 ⟨tNames 48, scope.names, tRank 48⟩ b_law body = true) (hA : AOk A (tRank 48))
    (h : ∀ s', Stp s s' → (∀ b o, h₀.get? b = some o → s'.heap.get? b = some o) → Q (.ret (.bool true)) s') :
    wpAny (model prog w) A (execs body (envOf name scope L fa cd)) Q E s := by
  have ok := OkF_of (prog := prog) (w := w) hK KX g b lim hmb
  obtain ⟨oS, gS, cS, nS, dS⟩ := hL
  obtain ⟨oL, es, ep, gL, dL, sL, fL⟩ := F.ns
  have hlt := Heap.lt_size gS
  have R : Rel (cw0 prog w h₀ mg mb K) s.heap [] [] [(a, oS)] [(L, oL)] := by
    refine ⟨F.keep, Nat.le_of_lt (Nat.lt_of_le_of_lt F.above (Heap.lt_size gL)), ?_, ?_, rfl, fun k o as e => by simp at e, by simp, fun p u1 => by simp, fun p u1 => by simp, ?_, fun a ha => by simp at ha, ?_⟩
    · intro p hp; rw [List.mem_singleton.mp hp]; exact F.keep _ _ gS
    · intro p hp; rw [List.mem_singleton.mp hp]; exact gL
    · intro p hp q hq; rw [List.mem_singleton.mp hp, List.mem_singleton.mp hq]; exact Nat.ne_of_lt (Nat.lt_of_lt_of_le hlt F.above)
    · intro p hp; rw [List.mem_singleton.mp hp]; exact F.above
  have vS : VR [] [(a, oS)] (.fl ns) (.ref a) := by
    unfold VR
    exact ⟨a, oS, vs.toArray, nS, rfl, .head _, cS, dS, by simpa using hI⟩
  rw [List.all_eq_true] at hfree
  have hloc : ∀ (i : Nat) x, (tNames 48)[i]? = some x → scope.names.lookup x = some .local := fun i x e => by
    simpa using hfree x (List.mem_of_getElem? e)
  have Fm : FR ⟨tNames 48, scope.names, tRank 48⟩ (envOf name scope L fa cd) (some (.fl ns) :: List.replicate 7 Option.none) [] [(a, oS)] [(L, oL)] := by
    refine ⟨hk, rfl, rfl, rfl, rfl, by show (tNames 48).Nodup; decide +kernel, ⟨oL, es, ep, .head _, dL, sL, fun i v x q1 q2 q3 => ?_⟩, fun i x q1 q2 => ?_, fun x y a' q1 q2 => by simp [envOf] at q1⟩
    · cases i with
      | zero =>
        simp [getL] at q1; subst q1
        have : x = Str.ofString "script" := by
          have e : (tNames 48)[0]? = some (Str.ofString "script") := rfl
          rw [e] at q2; exact (Option.some.inj q2).symm
        subst this
        exact ⟨.ref a, by rw [fL]; exact hms, vS⟩
      | succ i =>
        exfalso
        unfold getL at q1
        rw [List.getElem?_cons_succ, List.getElem?_replicate] at q1
        split at q1 <;> simp at q1
    · exfalso
      have := hloc i x q1
      dsimp only at q2
      rw [this] at q2
      rcases q2 with q2 | q2 <;> simp at q2
  have key := sound ok ev
  refine key ⟨tNames 48, scope.names, tRank 48⟩ body hm A (envOf name scope L fa cd) s [] [(a, oS)] [(L, oL)] Q E ⟨hA, R, Fm⟩ fun s' μ' T' X' fl st aa f => ?_
  obtain ⟨x, rfl, v⟩ := f
  unfold VR at v; subst v
  exact h s' st aa.r.keep
end Mine

end
set_option tactic.hygienic true
open PySem PySem.W PyProof.Rows
set_option maxRecDepth 100000
set_option maxHeartbeats 8000000

/-! names that stay taken: the row's own constants are used as they stand -/
namespace Mine.top
noncomputable def tw16900427199656544559 : Nat := 0
noncomputable def tw13305523845174962083 : Nat := 0
noncomputable def tw4468942710605802240 : Nat := 0
noncomputable def tw18164388396756303480 : Nat := 0
noncomputable def tw7079599612431449588 : Nat := 0
noncomputable def tw10996937224433265937 : Nat := 0
noncomputable def tw16104615914030681952 : Nat := 0
noncomputable def tw8025738503920905074 : Nat := 0
noncomputable def tw6733462575251390621 : Nat := 0
noncomputable def tw5240762971458559404 : Nat := 0
noncomputable def tw18186074749648716422 : Nat := 0
noncomputable def tw18085771088847121727 : Nat := 0
noncomputable def tw705360758644809490 : Nat := 0
noncomputable def tw8107780213005350392 : Nat := 0
noncomputable def tw17807222030613408314 : Nat := 0
noncomputable def tw8657480035899644758 : Nat := 0
noncomputable def tw3969286963782609292 : Nat := 0
noncomputable def tw6240723676877644813 : Nat := 0
noncomputable def tw9272544492142499777 : Nat := 0
noncomputable def tw8693662901424576113 : Nat := 0
noncomputable def tw3473093325804163894 : Nat := 0
noncomputable def tw2619622883677149074 : Nat := 0
noncomputable def tw10079171474624433434 : Nat := 0
noncomputable def tw4134505453457115739 : Nat := 0
noncomputable def tw4773702212245658779 : Nat := 0
noncomputable def tw7033079012710635876 : Nat := 0
noncomputable def tw5483185372664623402 : Nat := 0
noncomputable def tw3479634599624807885 : Nat := 0
noncomputable def tw10005945817407372193 : Nat := 0
noncomputable def tw10915162052029792233 : Nat := 0
noncomputable def tw10936122117785486979 : Nat := 0
noncomputable def tw17810072253543177317 : Nat := 0
noncomputable def tw427420600052151026 : Nat := 0
noncomputable def tw5868845118606482295 : Nat := 0
noncomputable def tw4807402645868434406 : Nat := 0
noncomputable def tw13177472732611162249 : Nat := 0
noncomputable def tw1312780250039628139 : Nat := 0
noncomputable def tw18289109515434150305 : Nat := 0
noncomputable def tw14402358008270493973 : Nat := 0
noncomputable def tw2104741419117168686 : Nat := 0
noncomputable def tw12329864456250741675 : Nat := 0
noncomputable def tw14371913498598963198 : Nat := 0
noncomputable def tw15696354942287192291 : Nat := 0
noncomputable def tw14917401599646851644 : Nat := 0
noncomputable def tw15286249088069653756 : Nat := 0
noncomputable def tw10579768621468169598 : Nat := 0
noncomputable def tw16262243036561855896 : Nat := 0
noncomputable def tw9673933992889287130 : Nat := 0
noncomputable def tw10773188271377071773 : Nat := 0
noncomputable def tw3453223234828964814 : Nat := 0
noncomputable def tw12415523145999629524 : Nat := 0
noncomputable def tw672699306608606093 : Nat := 0
noncomputable def tw15874363893724204672 : Nat := 0
noncomputable def tw15177526630643400193 : Nat := 0
noncomputable def tw9962302188120564619 : Nat := 0
noncomputable def tw5379463472682653830 : Nat := 0
noncomputable def tw10973358979282739533 : Nat := 0
noncomputable def tw11457754044182789617 : Nat := 0
noncomputable def tw17050326753033342646 : Nat := 0
noncomputable def tw5341934141677670832 : Nat := 0
noncomputable def tw15095372191486117680 : Nat := 0
noncomputable def tw2822501910515967889 : Nat := 0
noncomputable def tw4058662728301269685 : Nat := 0
noncomputable def tw10871174231137468428 : Nat := 0
noncomputable def tw10657950659306570408 : Nat := 0
noncomputable def tw2029088862249889922 : Nat := 0
noncomputable def tw2220570432770164149 : Nat := 0
noncomputable def tw7671549972530922468 : Nat := 0
noncomputable def tw15569959144833144457 : Nat := 0
noncomputable def tw1284575025550258836 : Nat := 0
noncomputable def tw8297286125493194097 : Nat := 0
noncomputable def tw8968299171318014206 : Nat := 0
noncomputable def tw1559226430018442191 : Nat := 0
noncomputable def tw14168018189251442112 : Nat := 0
noncomputable def tw16982378080980825192 : Nat := 0
noncomputable def tw9305691244287143441 : Nat := 0
noncomputable def tw14372152842798730730 : Nat := 0
noncomputable def tw1516213087968936877 : Nat := 0
noncomputable def tw17444329988762607307 : Nat := 0
noncomputable def tw8148004212497801138 : Nat := 0
noncomputable def tw9694206877528517478 : Nat := 0
noncomputable def tw13369591340354186047 : Nat := 0
noncomputable def tw6460121766331871944 : Nat := 0
noncomputable def tw14042817526060737062 : Nat := 0
noncomputable def tw2377541652452675900 : Nat := 0
noncomputable def tw2965125352208521119 : Nat := 0
noncomputable def tw8393700709775954928 : Nat := 0
noncomputable def tw8874702517807110003 : Nat := 0
noncomputable def tw9590735534726013551 : Nat := 0
noncomputable def tw12894197372075662830 : Nat := 0
noncomputable def tw17741875731164886585 : Nat := 0
noncomputable def tw8892184565913893157 : Nat := 0
noncomputable def tw18326957874037197240 : Nat := 0
noncomputable def tw987869383939708018 : Nat := 0
noncomputable def tw17176029603704830031 : Nat := 0
noncomputable def tw11779653239440661071 : Nat := 0
noncomputable def tw2544169868661182894 : Nat := 0
noncomputable def tw4292522238394942308 : Nat := 0
noncomputable def tw17620759639134147866 : Nat := 0
noncomputable def tw1974259917200649262 : Nat := 0
noncomputable def tw3254097082911018636 : Nat := 0
noncomputable def tw11917448952958348678 : Nat := 0
noncomputable def tw7436774141650363327 : Nat := 0
noncomputable def tw1304757597395314617 : Nat := 0
noncomputable def tw8640399195822439974 : Nat := 0
noncomputable def tw1236304545764765349 : Nat := 0
noncomputable def tw5118827330378232414 : Nat := 0
noncomputable def tw12094960947251128927 : Nat := 0
noncomputable def tw8817415213059835157 : Nat := 0
noncomputable def tw6124053682588569230 : Nat := 0
noncomputable def tw7990429038631628895 : Nat := 0
noncomputable def tw2047080938173012442 : Nat := 0
noncomputable def tw4331257952254489624 : Nat := 0
noncomputable def tw15383718091736126541 : Nat := 0
noncomputable def tw7681529838311687354 : Nat := 0
noncomputable def tw13890846271309207196 : Nat := 0
noncomputable def tw6756868429301003459 : Nat := 0
noncomputable def tw6662652255960138227 : Nat := 0
noncomputable def tw1212798325632107971 : Nat := 0
noncomputable def tw304654302220672320 : Nat := 0
noncomputable def tw12317137736924338119 : Nat := 0
noncomputable def tw5667650583090716360 : Nat := 0
noncomputable def tw6623532728838073528 : Nat := 0
noncomputable def tw12559286593441436923 : Nat := 0
noncomputable def tw8374938949443298174 : Nat := 0
noncomputable def tw11574282978153928489 : Nat := 0
noncomputable def tw18200808041648558556 : Nat := 0
noncomputable def tw2502181453436431679 : Nat := 0
noncomputable def tw16054190913257422852 : Nat := 0
noncomputable def tw17470836177267949868 : Nat := 0
noncomputable def tw15245507539482535896 : Nat := 0
noncomputable def tw17046948494117081484 : Nat := 0
noncomputable def tw11546936639936008217 : Nat := 0
noncomputable def tw17219337458794519322 : Nat := 0
noncomputable def tw5467744145808400216 : Nat := 0
noncomputable def tw14901070454687303710 : Nat := 0
noncomputable def tw5176459694589498394 : Nat := 0
noncomputable def tw15877122091014420850 : Nat := 0
noncomputable def tw17788931634197215145 : Nat := 0
noncomputable def tw5692499903750754813 : Nat := 0
noncomputable def tw4655869559712951663 : Nat := 0
noncomputable def tw12080426169559351053 : Nat := 0
noncomputable def tw13799840507378627052 : Nat := 0
noncomputable def tw17492772389151264855 : Nat := 0
noncomputable def tw11263669390164206178 : Nat := 0
noncomputable def tw1706793611546318481 : Nat := 0
noncomputable def tw2617719716777270872 : Nat := 0
noncomputable def tw859137505422859605 : Nat := 0
noncomputable def tw83393220934416808 : Nat := 0
noncomputable def tw2972514686349903234 : Nat := 0
noncomputable def tw10362775142378211054 : Nat := 0
noncomputable def tw6756851087969907010 : Nat := 0
noncomputable def tw3002795768020413707 : Nat := 0
noncomputable def tw14724332232928298890 : Nat := 0
noncomputable def tw5590232498371695878 : Nat := 0
noncomputable def tw2670627174450433442 : Nat := 0
noncomputable def tw7657828476027519975 : Nat := 0
noncomputable def tw13896958669275611876 : Nat := 0
noncomputable def tw1169771345039838236 : Nat := 0
noncomputable def tw13549259019975226677 : Nat := 0
noncomputable def tw4498253355057717688 : Nat := 0
noncomputable def tw16541100652227675460 : Nat := 0
noncomputable def tw4940147422707163885 : Nat := 0
noncomputable def tw13091174067606910046 : Nat := 0
noncomputable def tw10617020205504526918 : Nat := 0
noncomputable def tw11468358511172941013 : Nat := 0
noncomputable def tw15008207993883188931 : Nat := 0
noncomputable def tw53344730913325255 : Nat := 0
noncomputable def tw6749217079512962374 : Nat := 0
noncomputable def tw8628236747792435071 : Nat := 0
noncomputable def tw6572447435987645144 : Nat := 0
noncomputable def tw2686433634493928565 : Nat := 0
noncomputable def tw14399976873020721970 : Nat := 0
noncomputable def tw5915399644114372684 : Nat := 0
noncomputable def tw4158126171336067921 : Nat := 0
noncomputable def tw10768140376307724812 : Nat := 0
noncomputable def tw1584292188352093569 : Nat := 0
noncomputable def tw15361541807878343388 : Nat := 0
noncomputable def tw11577829705659331004 : Nat := 0
noncomputable def tw10574840078274726829 : Nat := 0
noncomputable def tw16713831800681072344 : Nat := 0
noncomputable def tw16597617366809209970 : Nat := 0
noncomputable def tw14747140909534839006 : Nat := 0
noncomputable def tw4828031223510198475 : Nat := 0
noncomputable def tw2685012915969955173 : Nat := 0
noncomputable def tw6287420888163001789 : Nat := 0
noncomputable def tw16734371015571099844 : Nat := 0
noncomputable def tw5983031951866500094 : Nat := 0
noncomputable def tw3712731000106771831 : Nat := 0
noncomputable def tw10467260515200827399 : Nat := 0
noncomputable def tw708234853630380328 : Nat := 0
noncomputable def tw17828378304095215089 : Nat := 0
noncomputable def tw13922054642007902626 : Nat := 0
noncomputable def tw8327351992414209593 : Nat := 0
noncomputable def tw1047907039808853306 : Nat := 0
noncomputable def tw956942650209027819 : Nat := 0
noncomputable def tw47109162367338493 : Nat := 0
noncomputable def tw11141966352661209427 : Nat := 0
noncomputable def tw5702910450625016506 : Nat := 0
noncomputable def tw8281120267493503204 : Nat := 0
noncomputable def tw5058314954733539658 : Nat := 0
noncomputable def tw13500427573557490136 : Nat := 0
noncomputable def tw84136930442132756 : Nat := 0
noncomputable def tw11709513628971645607 : Nat := 0
noncomputable def tw6893477703608230032 : Nat := 0
noncomputable def tw1803303928475200142 : Nat := 0
noncomputable def tw661290744650703789 : Nat := 0
noncomputable def tw2910609919460849807 : Nat := 0
noncomputable def tw1112988674713690477 : Nat := 0
noncomputable def tw9919435345466941130 : Nat := 0
noncomputable def tw953821971998124167 : Nat := 0
noncomputable def tw8973803690348224638 : Nat := 0
noncomputable def tw14537839394382259888 : Nat := 0
noncomputable def tw17683472795295644477 : Nat := 0
noncomputable def tw17103585973383926153 : Nat := 0
noncomputable def tw7761843605638006849 : Nat := 0
noncomputable def tw15823732540823425666 : Nat := 0
noncomputable def tw6930518751129746686 : Nat := 0
noncomputable def tw12904532413392791838 : Nat := 0
noncomputable def tw7744093853086628109 : Nat := 0
noncomputable def tw13272337422414781067 : Nat := 0
noncomputable def tw15735037969156040135 : Nat := 0
noncomputable def tw9990226795618131978 : Nat := 0
noncomputable def tw3357215229441099570 : Nat := 0
noncomputable def tw13820912127525551613 : Nat := 0
noncomputable def tw1293289543672728842 : Nat := 0
noncomputable def tw13223034962123697568 : Nat := 0
noncomputable def tw8813761850579938390 : Nat := 0
noncomputable def tw8999917154711486175 : Nat := 0
noncomputable def tw16453443671601555132 : Nat := 0
noncomputable def tw427269002284569659 : Nat := 0
noncomputable def tw9961057766049560675 : Nat := 0
noncomputable def tw10414433010598505635 : Nat := 0
noncomputable def tw10987319290404115282 : Nat := 0
noncomputable def tw2249405535684624136 : Nat := 0
noncomputable def tw16719718919923625709 : Nat := 0
noncomputable def tw16264823338695392855 : Nat := 0
noncomputable def tw10001883323181062329 : Nat := 0
noncomputable def tw13899568491130100285 : Nat := 0
noncomputable def tw2007660962349395123 : Nat := 0
noncomputable def tw681777741448182936 : Nat := 0
noncomputable def tw14851680436948445374 : Nat := 0
noncomputable def tw7478257652553461844 : Nat := 0
noncomputable def tw10296497611174029103 : Nat := 0
noncomputable def tw16612331741718818515 : Nat := 0
noncomputable def tw14450715343900746980 : Nat := 0
noncomputable def tw5105846836358774362 : Nat := 0
noncomputable def tw2103985501979894447 : Nat := 0
noncomputable def tw2617181576586992344 : Nat := 0
noncomputable def tw1186331607622873149 : Nat := 0
noncomputable def tw10956490626425055710 : Nat := 0
noncomputable def tw12488038555639769405 : Nat := 0
noncomputable def tw16878204669230926818 : Nat := 0
noncomputable def tw15362295582089109014 : Nat := 0
noncomputable def tw13968125046926948103 : Nat := 0
noncomputable def tw13420762306968818387 : Nat := 0
noncomputable def tw650146959520709813 : Nat := 0
noncomputable def tw2592208832920646996 : Nat := 0
noncomputable def tw12379415707883124570 : Nat := 0
noncomputable def tw104434173382791472 : Nat := 0
noncomputable def tw12762922103008790111 : Nat := 0
noncomputable def tw7059692629156357883 : Nat := 0
noncomputable def tw15508944514630427714 : Nat := 0
noncomputable def tw10367675484739944270 : Nat := 0
noncomputable def tw5088376156974544275 : Nat := 0
noncomputable def tw4916261283513009128 : Nat := 0
noncomputable def tw2514443458684651071 : Nat := 0
noncomputable def tw8823455108540655025 : Nat := 0
noncomputable def tw6761616313442571491 : Nat := 0
noncomputable def tw13994475860397038760 : Nat := 0
noncomputable def tw10219655510578893393 : Nat := 0
noncomputable def tw5225916559131626549 : Nat := 0
noncomputable def tw9152664641465651067 : Nat := 0
noncomputable def tw2770239361232196585 : Nat := 0
noncomputable def tw12209182163369298222 : Nat := 0
noncomputable def tw10242591131026960117 : Nat := 0
noncomputable def tw4699463449715708850 : Nat := 0
noncomputable def tw10017263926548143515 : Nat := 0
noncomputable def tw4451830059626727128 : Nat := 0
noncomputable def tw14645912567700417926 : Nat := 0
noncomputable def tw4695670854781333657 : Nat := 0
noncomputable def tw5609151216138764652 : Nat := 0
noncomputable def tw16885616592811714743 : Nat := 0
noncomputable def tw12425085872883035938 : Nat := 0
noncomputable def tw7237037383691196423 : Nat := 0
noncomputable def tw7213333562754528385 : Nat := 0
noncomputable def tw3831216023754155268 : Nat := 0
noncomputable def tw3796891538752321733 : Nat := 0
noncomputable def tw1209819496270969543 : Nat := 0
noncomputable def tw6916252892733821390 : Nat := 0
noncomputable def tw6885214360128481674 : Nat := 0
noncomputable def tw18064794426631996164 : Nat := 0
noncomputable def tw2926424126403749041 : Nat := 0
noncomputable def tw2446586112883488508 : Nat := 0
noncomputable def tw16550210197400561554 : Nat := 0
noncomputable def tw9229161468869434483 : Nat := 0
noncomputable def tw12764151676501842404 : Nat := 0
noncomputable def tw6430265229019958763 : Nat := 0
noncomputable def tw2506305409684761478 : Nat := 0
noncomputable def tw16542083797698202722 : Nat := 0
noncomputable def tw15271675978053873483 : Nat := 0
noncomputable def tw11199710921928265848 : Nat := 0
noncomputable def tw2665807947273092163 : Nat := 0
noncomputable def tw453181688931711583 : Nat := 0
noncomputable def tw2847958352784047137 : Nat := 0
noncomputable def tw9666326922614434849 : Nat := 0
noncomputable def tw8912170899635468890 : Nat := 0
noncomputable def tw8043003576528973991 : Nat := 0
noncomputable def tw2988451766255067171 : Nat := 0
noncomputable def tw10350142207108426684 : Nat := 0
noncomputable def tw1601500998369573665 : Nat := 0
noncomputable def tw7429413206186439793 : Nat := 0
noncomputable def tw14214845130331304391 : Nat := 0
noncomputable def tw15740088241188596515 : Nat := 0
noncomputable def tw1697544655201012999 : Nat := 0
noncomputable def tw13902025155065610156 : Nat := 0
noncomputable def tw7717162694582976202 : Nat := 0
noncomputable def tw6906291655842520137 : Nat := 0
noncomputable def tw11982747722937265360 : Nat := 0
noncomputable def tw8140125068956082859 : Nat := 0
noncomputable def tw9233715247699887402 : Nat := 0
noncomputable def tw7600245330811189008 : Nat := 0
noncomputable def tw6659320528611288953 : Nat := 0
noncomputable def tw13990698242589431971 : Nat := 0
noncomputable def tw7249705126575804556 : Nat := 0
noncomputable def tw649594095290182367 : Nat := 0
noncomputable def tw14453841093610474573 : Nat := 0
noncomputable def tw114735475811551136 : Nat := 0
noncomputable def tw1655259298481077034 : Nat := 0
noncomputable def tw18367679650794681301 : Nat := 0
noncomputable def tw15035762071963205920 : Nat := 0
noncomputable def tw17177869089781658578 : Nat := 0
noncomputable def tw16415559393655328363 : Nat := 0
noncomputable def tw8547604310838440241 : Nat := 0
noncomputable def tw1886144042066472794 : Nat := 0
noncomputable def tw14771320824794740959 : Nat := 0
noncomputable def tw6187478851450931391 : Nat := 0
noncomputable def tw4835499133494076262 : Nat := 0
noncomputable def tw17565814175750979855 : Nat := 0
noncomputable def tw9951221954081769418 : Nat := 0
noncomputable def tw17576949682797635024 : Nat := 0
noncomputable def tw2741389259953327712 : Nat := 0
noncomputable def tw14861896470697024400 : Nat := 0
noncomputable def tw4232285709927190386 : Nat := 0
noncomputable def tw1833847959688406909 : Nat := 0
noncomputable def tw2722852734226103192 : Nat := 0
noncomputable def tw1483126911874232274 : Nat := 0
noncomputable def tw6491118196486620199 : Nat := 0
noncomputable def tw4859757453598101857 : Nat := 0
noncomputable def tw4047667213573674445 : Nat := 0
noncomputable def tw10694878333477680388 : Nat := 0
noncomputable def tw7160873610591055699 : Nat := 0
noncomputable def tw8598144960395782539 : Nat := 0
noncomputable def tw13012589842206080548 : Nat := 0
noncomputable def tw2812155379371279736 : Nat := 0
noncomputable def tw8735323631387419056 : Nat := 0
noncomputable def tw6459276657848829223 : Nat := 0
noncomputable def tw11760055953109336660 : Nat := 0
noncomputable def tw9503340733035011235 : Nat := 0
noncomputable def tw5245862010334584759 : Nat := 0
noncomputable def tw7522852383072776753 : Nat := 0
noncomputable def tw3186775038225222150 : Nat := 0
noncomputable def tw2464713573024523455 : Nat := 0
noncomputable def tw17342085116792181814 : Nat := 0
noncomputable def tw352232786441526191 : Nat := 0
noncomputable def tw2405475915293451298 : Nat := 0
noncomputable def tw8321918168302905379 : Nat := 0
noncomputable def tw668136137496459709 : Nat := 0
noncomputable def tw6754034310392073148 : Nat := 0
noncomputable def tw3570499242123996262 : Nat := 0
noncomputable def tw8265191368974092141 : Nat := 0
noncomputable def tw17030962893124633753 : Nat := 0
noncomputable def tw1971433849790844608 : Nat := 0
noncomputable def tw11199532085631943738 : Nat := 0
noncomputable def tw9332579688445097367 : Nat := 0
noncomputable def tw9843447840031818808 : Nat := 0
noncomputable def tw8265311939077410998 : Nat := 0
noncomputable def tw13167462122316868159 : Nat := 0
noncomputable def tw7538252964068480738 : Nat := 0
noncomputable def tw2105017259488925948 : Nat := 0
noncomputable def tw17434308400759680031 : Nat := 0
noncomputable def tw14983691940233647259 : Nat := 0
noncomputable def tw17022078359063049780 : Nat := 0
noncomputable def tw7458633546980236471 : Nat := 0
noncomputable def tw2975709217455756120 : Nat := 0
noncomputable def tw2369445192022557226 : Nat := 0
noncomputable def tw1195175773429642966 : Nat := 0
noncomputable def tw657111498738832265 : Nat := 0
noncomputable def tw10562855833978642645 : Nat := 0
noncomputable def tw15740948416001004644 : Nat := 0
noncomputable def tw2683898200743741643 : Nat := 0
noncomputable def tw7587601194962177611 : Nat := 0
noncomputable def tw525707195689243683 : Nat := 0
noncomputable def tw13385244156195431271 : Nat := 0
noncomputable def tw5278709424875269971 : Nat := 0
noncomputable def tw13134186033006778460 : Nat := 0
noncomputable def tw1843344800811705456 : Nat := 0
noncomputable def tw3207569582813703071 : Nat := 0
noncomputable def tw10567129059001840431 : Nat := 0
noncomputable def tw14826035006057030972 : Nat := 0
noncomputable def tw93012567124736588 : Nat := 0
noncomputable def tw17469865338272021226 : Nat := 0
noncomputable def tw18185382058313985135 : Nat := 0
noncomputable def tw16281582537960229878 : Nat := 0
noncomputable def tw3739144386018749749 : Nat := 0
noncomputable def tw14657780768301432306 : Nat := 0
noncomputable def tw2267912224990424062 : Nat := 0
noncomputable def tw15004652626996871669 : Nat := 0
noncomputable def tw7527032243904285869 : Nat := 0
noncomputable def tw13710211086531791108 : Nat := 0
noncomputable def tw11592465598724292549 : Nat := 0
noncomputable def tw3715792687998586317 : Nat := 0
noncomputable def tw2446451932059125521 : Nat := 0
noncomputable def tw1294077662247117797 : Nat := 0
noncomputable def tw887695700811335699 : Nat := 0
noncomputable def tw8689318265317240412 : Nat := 0
noncomputable def tw1869187583165140508 : Nat := 0
noncomputable def tw11842451847925006096 : Nat := 0
noncomputable def tw9059832203979395877 : Nat := 0
noncomputable def tw5581607755468803823 : Nat := 0
noncomputable def tw9576743257966636567 : Nat := 0
noncomputable def tw10361075674979980167 : Nat := 0
noncomputable def tw4205137553216949640 : Nat := 0
noncomputable def tw12535971307161669396 : Nat := 0
noncomputable def tw11593399256984752444 : Nat := 0
noncomputable def tw7250933059871147345 : Nat := 0
noncomputable def tw14526540143163920134 : Nat := 0
noncomputable def tw17735899436944072409 : Nat := 0
noncomputable def tw6583040956863952856 : Nat := 0
noncomputable def tw3901323768455840569 : Nat := 0
noncomputable def tw16439428074185983240 : Nat := 0
noncomputable def tw9614876229902214918 : Nat := 0
noncomputable def tw13983857475226248213 : Nat := 0
noncomputable def tw12287887523310495049 : Nat := 0
noncomputable def tw146815374380898660 : Nat := 0
noncomputable def tw7439886461454727182 : Nat := 0
noncomputable def tw3767615275625035234 : Nat := 0
noncomputable def tw18237780215024852062 : Nat := 0
noncomputable def tw2312856594315299383 : Nat := 0
noncomputable def tw6973401727384321114 : Nat := 0
noncomputable def tw16782997733028217545 : Nat := 0
noncomputable def tw13822267516522204269 : Nat := 0
noncomputable def tw2126296398998916975 : Nat := 0
noncomputable def tw7847352863974893604 : Nat := 0
noncomputable def tw10836530967397901330 : Nat := 0
noncomputable def tw5889316905344633881 : Nat := 0
noncomputable def tw3378803678994701225 : Nat := 0
noncomputable def tw13975414291046593716 : Nat := 0
noncomputable def tw4360662436649706507 : Nat := 0
noncomputable def tw3548060758652744671 : Nat := 0
noncomputable def tw16342770487823414484 : Nat := 0
noncomputable def tw13068111086705522682 : Nat := 0
noncomputable def tw3664424711883983056 : Nat := 0
noncomputable def tw15092371282622821202 : Nat := 0
noncomputable def tw11470690223818410786 : Nat := 0
noncomputable def tw13261893007816960818 : Nat := 0
noncomputable def tw12879618353801967718 : Nat := 0
noncomputable def tw11520865232209809239 : Nat := 0
noncomputable def tw16273406610938067001 : Nat := 0
noncomputable def tw9514800995652322822 : Nat := 0
noncomputable def tw15058813355848621054 : Nat := 0
noncomputable def tw5196900775432865589 : Nat := 0
noncomputable def tw13370185576492129568 : Nat := 0
noncomputable def tw17774833976778514315 : Nat := 0
noncomputable def tw16131081028893534354 : Nat := 0
noncomputable def tw7855079511596107753 : Nat := 0
noncomputable def tw3888000255316426991 : Nat := 0
noncomputable def tw81815255157605957 : Nat := 0
noncomputable def tw12166907935582030026 : Nat := 0
noncomputable def tw10276331973627342096 : Nat := 0
noncomputable def tw12376051458212225564 : Nat := 0
noncomputable def tw17981982808018919739 : Nat := 0
noncomputable def tw9843949296442739443 : Nat := 0
noncomputable def tw15525995667512963556 : Nat := 0
noncomputable def tw15234444972351076034 : Nat := 0
noncomputable def tw11383000496634168614 : Nat := 0
noncomputable def tw17582957951858275007 : Nat := 0
noncomputable def tw7325726471975496349 : Nat := 0
noncomputable def tw13303987763403120937 : Nat := 0
noncomputable def tw4840481374290595910 : Nat := 0
noncomputable def tw9739860059890490050 : Nat := 0
noncomputable def tw8472579005086612782 : Nat := 0
noncomputable def tw13307591127769906961 : Nat := 0
noncomputable def tw8054331753737935190 : Nat := 0
noncomputable def tw3337584539547039419 : Nat := 0
noncomputable def tw17089494485692210459 : Nat := 0
noncomputable def tw411662067469150650 : Nat := 0
noncomputable def tw5839659824258004927 : Nat := 0
noncomputable def tw12783364522390391256 : Nat := 0
noncomputable def tw9149571693438533347 : Nat := 0
noncomputable def tw15299407806266782574 : Nat := 0
noncomputable def tw13047834502658803893 : Nat := 0
noncomputable def tw6505410396798821541 : Nat := 0
noncomputable def tw1068965626710143233 : Nat := 0
noncomputable def tw2555065506035805374 : Nat := 0
noncomputable def tw9233335307524088747 : Nat := 0
noncomputable def tw17781115878593249900 : Nat := 0
noncomputable def tw6803335334874436425 : Nat := 0
noncomputable def tw12340227926317113386 : Nat := 0
noncomputable def tw13889309363888878346 : Nat := 0
noncomputable def tw12545222027267286695 : Nat := 0
noncomputable def tw5244899138074338376 : Nat := 0
noncomputable def tw2707679213066786127 : Nat := 0
noncomputable def tw12105128591322288922 : Nat := 0
noncomputable def tw4691186174975459493 : Nat := 0
noncomputable def tw9108098604805947806 : Nat := 0
noncomputable def tw10648311167861321448 : Nat := 0
noncomputable def tw14597223018079223185 : Nat := 0
noncomputable def tw11145643937294416527 : Nat := 0
noncomputable def tw16896751376397280635 : Nat := 0
noncomputable def tw381845443943030031 : Nat := 0
noncomputable def tw15646934709686841381 : Nat := 0
noncomputable def tw12609604535291364189 : Nat := 0
noncomputable def tw860223938195835975 : Nat := 0
noncomputable def tw11459443343523485640 : Nat := 0
noncomputable def tw15073315481182737699 : Nat := 0
noncomputable def tw18374746225686918389 : Nat := 0
noncomputable def tw9016798869158615873 : Nat := 0
noncomputable def tw6664487174759623829 : Nat := 0
noncomputable def tw6487610083215253720 : Nat := 0
noncomputable def tw1717825165581474212 : Nat := 0
noncomputable def tw11960245374511038805 : Nat := 0
noncomputable def tw6286779285267259847 : Nat := 0
noncomputable def tw16193704076000181558 : Nat := 0
noncomputable def tw5728218623943512802 : Nat := 0
noncomputable def tw18062624165398249997 : Nat := 0
noncomputable def tw6333448901615975916 : Nat := 0
noncomputable def tw9759319705405543751 : Nat := 0
noncomputable def tw6898770573198911631 : Nat := 0
noncomputable def tw11279390925490393535 : Nat := 0
noncomputable def tw14317375437502057738 : Nat := 0
noncomputable def tw14301671488300290737 : Nat := 0
noncomputable def tw12520176845478516731 : Nat := 0
noncomputable def tw8620165645458168473 : Nat := 0
noncomputable def tw4791253341166991637 : Nat := 0
noncomputable def tw11466170419677230873 : Nat := 0
noncomputable def tw7386116660499605909 : Nat := 0
noncomputable def tw1142415686869020238 : Nat := 0
noncomputable def tw13345470168829271861 : Nat := 0
noncomputable def tw16093699382738047803 : Nat := 0
noncomputable def tw17395277212465857529 : Nat := 0
noncomputable def tw18016941796951652274 : Nat := 0
noncomputable def tw2009410202504348048 : Nat := 0
noncomputable def tw814325599930780420 : Nat := 0
noncomputable def tw11240886729373846589 : Nat := 0
noncomputable def tw7198060816514059695 : Nat := 0
noncomputable def tw3644161924160858147 : Nat := 0
noncomputable def tw11072019736110318841 : Nat := 0
noncomputable def tw6674990990233134667 : Nat := 0
noncomputable def tw16866024460163772082 : Nat := 0
noncomputable def tw16258771989139608452 : Nat := 0
noncomputable def tw9166809390415177425 : Nat := 0
noncomputable def tw16325430554902658873 : Nat := 0
noncomputable def tw1676862907878916244 : Nat := 0
noncomputable def tw1297684725254868899 : Nat := 0
noncomputable def tw10783980745131425670 : Nat := 0
noncomputable def tw2968346561183084112 : Nat := 0
noncomputable def tw6176384092110617959 : Nat := 0
noncomputable def tw76412952228603488 : Nat := 0
noncomputable def tw6143595290313323761 : Nat := 0
noncomputable def tw7108139096449030536 : Nat := 0
noncomputable def tw7273676953221729872 : Nat := 0
noncomputable def tw132903981291199154 : Nat := 0
noncomputable def tw8645369167282567922 : Nat := 0
noncomputable def tw6381231289166406305 : Nat := 0
noncomputable def tw17486766287000646611 : Nat := 0
noncomputable def tw6520327441239513222 : Nat := 0
noncomputable def tw4250876409542091131 : Nat := 0
noncomputable def tw9059672392935016618 : Nat := 0
noncomputable def tw8729362747519067210 : Nat := 0
noncomputable def tw196536941598035525 : Nat := 0
noncomputable def tw17366924284538989914 : Nat := 0
noncomputable def tw17474498911051797155 : Nat := 0
noncomputable def tw2417791160451022400 : Nat := 0
noncomputable def tw3217022616335106338 : Nat := 0
noncomputable def tw12392516345856041104 : Nat := 0
noncomputable def tw14248925298954806443 : Nat := 0
noncomputable def tw7215319984434753242 : Nat := 0
noncomputable def tw2581206410525282061 : Nat := 0
noncomputable def tw9038659593494541401 : Nat := 0
noncomputable def tw5476889619067714990 : Nat := 0
noncomputable def tw15212760480394562756 : Nat := 0
noncomputable def tw1149218181149386328 : Nat := 0
noncomputable def tw11053662475850362967 : Nat := 0
noncomputable def tw14615657086365298920 : Nat := 0
noncomputable def tw568400683779154973 : Nat := 0
noncomputable def tw4002441696211005659 : Nat := 0
noncomputable def tw18086089286151905521 : Nat := 0
noncomputable def tw1486479319815781832 : Nat := 0
noncomputable def tw1142465760834251562 : Nat := 0
noncomputable def tw9326722878772556681 : Nat := 0
noncomputable def tw9743097575036673082 : Nat := 0
noncomputable def tw1670607248958778201 : Nat := 0
noncomputable def tw8069049012094873728 : Nat := 0
noncomputable def tw8538268897159353584 : Nat := 0
noncomputable def tw11045010717311733409 : Nat := 0
noncomputable def tw8369368087495890639 : Nat := 0
noncomputable def tw11762496359356365647 : Nat := 0
noncomputable def tw7008692893051332821 : Nat := 0
noncomputable def tw14762295962024373759 : Nat := 0
noncomputable def tw9378254376102152143 : Nat := 0
noncomputable def tw7381879191629600215 : Nat := 0
noncomputable def tw9589608677651300831 : Nat := 0
noncomputable def tw984902984118615328 : Nat := 0
noncomputable def tw6211089042160764376 : Nat := 0
noncomputable def tw10090393231696489298 : Nat := 0
noncomputable def tw5072613934562372735 : Nat := 0
noncomputable def tw7847650389618582240 : Nat := 0
noncomputable def tw10180943152330463961 : Nat := 0
noncomputable def tw13759081321499198575 : Nat := 0
noncomputable def tw2727672472851901052 : Nat := 0
noncomputable def tw4736427724481360342 : Nat := 0
noncomputable def tw4626048006780466326 : Nat := 0
noncomputable def tw13359135706311490777 : Nat := 0
noncomputable def tw16420938139371093754 : Nat := 0
noncomputable def tw1756701500820069048 : Nat := 0
noncomputable def tw5225153198818245361 : Nat := 0
noncomputable def tw8604886562161049672 : Nat := 0
noncomputable def tw14349089067433371257 : Nat := 0
noncomputable def tw16800595933775061595 : Nat := 0
noncomputable def tw16068562728529669930 : Nat := 0
noncomputable def tw2443449257678562572 : Nat := 0
noncomputable def tw2859833716702649255 : Nat := 0
noncomputable def tw2770563814800254177 : Nat := 0
noncomputable def tw2165817408578904141 : Nat := 0
noncomputable def tw13928562000808390012 : Nat := 0
noncomputable def tw13432635357386499347 : Nat := 0
noncomputable def tw864819663365544661 : Nat := 0
noncomputable def tw4321519831107876412 : Nat := 0
noncomputable def tw9178861053002065721 : Nat := 0
noncomputable def tw2462062305354472974 : Nat := 0
noncomputable def tw3696473221133414273 : Nat := 0
noncomputable def tw13290321428070320777 : Nat := 0
noncomputable def tw1123975283337734383 : Nat := 0
noncomputable def tw8184561461823581802 : Nat := 0
noncomputable def tw72247145696351765 : Nat := 0
noncomputable def tw3874152929960365753 : Nat := 0
noncomputable def tw5552270689369575618 : Nat := 0
noncomputable def tw3995942328266245912 : Nat := 0
noncomputable def tw18177719399980262173 : Nat := 0
noncomputable def tw4133729456124951355 : Nat := 0
noncomputable def tw15985961358823992270 : Nat := 0
noncomputable def tw8435561252592420358 : Nat := 0
noncomputable def tw5597187220613765494 : Nat := 0
noncomputable def tw7737320934136571279 : Nat := 0
noncomputable def tw877433047237710547 : Nat := 0
noncomputable def tw2601905985415302144 : Nat := 0
noncomputable def tw14390669486469195807 : Nat := 0
noncomputable def tw370947364307004932 : Nat := 0
noncomputable def tw2758071753971750899 : Nat := 0
noncomputable def tw1124271682379634556 : Nat := 0
noncomputable def tw4807692442873511580 : Nat := 0
noncomputable def tw4796303294375832693 : Nat := 0
noncomputable def tw2596539476470345881 : Nat := 0
noncomputable def tw5571243529121415630 : Nat := 0
noncomputable def tw1394568958698188020 : Nat := 0
noncomputable def tw12643520174271941249 : Nat := 0
noncomputable def tw4181406029030974548 : Nat := 0
noncomputable def tw17532336604752155303 : Nat := 0
noncomputable def tw5303079699428457377 : Nat := 0
noncomputable def tw5513142621748847562 : Nat := 0
noncomputable def tw3776753064480771068 : Nat := 0
noncomputable def tw9165953624949470791 : Nat := 0
noncomputable def tw8622502720953521162 : Nat := 0
noncomputable def tw8410488445778877200 : Nat := 0
noncomputable def tw4177254973167742082 : Nat := 0
noncomputable def tw18394268562011335289 : Nat := 0
noncomputable def tw16149628235652541579 : Nat := 0
noncomputable def tw11459358961799972967 : Nat := 0
noncomputable def tw17542608870123051758 : Nat := 0
noncomputable def tw1040915598704419856 : Nat := 0
noncomputable def tw9442318146202087700 : Nat := 0
noncomputable def tw12182655422080760471 : Nat := 0
noncomputable def tw9407396174263392564 : Nat := 0
noncomputable def tw3422688185749166683 : Nat := 0
noncomputable def tw4076138812419527698 : Nat := 0
noncomputable def tw8345894832289464959 : Nat := 0
noncomputable def tw13713866747541496747 : Nat := 0
noncomputable def tw516228168201391017 : Nat := 0
noncomputable def tw14145802354927516647 : Nat := 0
noncomputable def tw12210559395081530917 : Nat := 0
noncomputable def tw11584198869435930015 : Nat := 0
noncomputable def tw12018453282940300196 : Nat := 0
noncomputable def tw9227057690007400460 : Nat := 0
noncomputable def tw16155163154822807229 : Nat := 0
noncomputable def tw6203543418390704334 : Nat := 0
noncomputable def tw13318506193475082254 : Nat := 0
noncomputable def tw1988063486488863061 : Nat := 0
noncomputable def tw216529984938456764 : Nat := 0
noncomputable def tw8170299122808406783 : Nat := 0
noncomputable def tw10187724287525710026 : Nat := 0
noncomputable def tw5444345374180229054 : Nat := 0
noncomputable def tw7204998973626084599 : Nat := 0
noncomputable def tw2985252069258134486 : Nat := 0
noncomputable def tw372964977893139469 : Nat := 0
noncomputable def tw10780478100618124694 : Nat := 0
noncomputable def tw7297446738713254254 : Nat := 0
noncomputable def tw13864677062968915208 : Nat := 0
noncomputable def tw16736118626332596326 : Nat := 0
noncomputable def tw4526881389914513428 : Nat := 0
noncomputable def tw3486219094355674750 : Nat := 0
noncomputable def tw15518119887399151065 : Nat := 0
noncomputable def tw17346259052997144950 : Nat := 0
noncomputable def tw10399464001100048223 : Nat := 0
noncomputable def tw6265701101103706036 : Nat := 0
noncomputable def tw5738303106652476479 : Nat := 0
noncomputable def tw4656485037274611717 : Nat := 0
noncomputable def tw11007004132283934646 : Nat := 0
noncomputable def tw16196420915677631385 : Nat := 0
noncomputable def tw2675166985342186458 : Nat := 0
noncomputable def tw3871027444623705763 : Nat := 0
noncomputable def tw12643491718579748851 : Nat := 0
noncomputable def tw17964300760807480141 : Nat := 0
noncomputable def tw11620634932572840514 : Nat := 0
noncomputable def tw18034075008235765660 : Nat := 0
noncomputable def tw8420165910927482534 : Nat := 0
noncomputable def tw9516688046558066552 : Nat := 0
noncomputable def tw6912233166142098652 : Nat := 0
noncomputable def tw1088946173253831356 : Nat := 0
noncomputable def tw7913636548009798097 : Nat := 0
noncomputable def tw9238823003894178615 : Nat := 0
noncomputable def tw14608685727046917156 : Nat := 0
noncomputable def tw17135812771915316397 : Nat := 0
noncomputable def tw15169761463676818070 : Nat := 0
noncomputable def tw1990408344712342385 : Nat := 0
noncomputable def tw3315250197877816394 : Nat := 0
noncomputable def tw17785818512168800811 : Nat := 0
noncomputable def tw13852830345959847167 : Nat := 0
noncomputable def tw5398424786039705171 : Nat := 0
noncomputable def tw11994683656316670133 : Nat := 0
noncomputable def tw775762912060472103 : Nat := 0
noncomputable def tw7702549930194098719 : Nat := 0
noncomputable def tw17953984050398360512 : Nat := 0
noncomputable def tw9227541089923242437 : Nat := 0
noncomputable def tw105208000716104510 : Nat := 0
noncomputable def tw2924597203103170677 : Nat := 0
noncomputable def tw15722756333993289495 : Nat := 0
noncomputable def tw16793365374058956912 : Nat := 0
noncomputable def tw1592229195962567352 : Nat := 0
noncomputable def tw11582926029173025856 : Nat := 0
noncomputable def tw11334203419191126389 : Nat := 0
noncomputable def tw3976154599441133093 : Nat := 0
noncomputable def tw5155950481276406077 : Nat := 0
noncomputable def tw3561193834555079511 : Nat := 0
noncomputable def tw4597200072644226624 : Nat := 0
noncomputable def tw15542334942015070624 : Nat := 0
noncomputable def tw9366391650621772374 : Nat := 0
noncomputable def tw11845233108574324481 : Nat := 0
noncomputable def tw16526113553464788058 : Nat := 0
noncomputable def tw1754339480302792767 : Nat := 0
noncomputable def tw9063741608606530840 : Nat := 0
noncomputable def tw15349318334595610263 : Nat := 0
noncomputable def tw18134043772397237400 : Nat := 0
noncomputable def tw6503730183909636620 : Nat := 0
noncomputable def tw11173010173815179391 : Nat := 0
noncomputable def tw4213018616267185653 : Nat := 0
noncomputable def tw1732150942055357024 : Nat := 0
noncomputable def tw15918733279669447828 : Nat := 0
noncomputable def tw2047500489365003465 : Nat := 0
noncomputable def tw13706816188851595723 : Nat := 0
noncomputable def tw9601329371697537090 : Nat := 0
noncomputable def tw6196800358849779857 : Nat := 0
noncomputable def tw16663787254893796032 : Nat := 0
noncomputable def tw12564220515667953714 : Nat := 0
noncomputable def tw16004416686337608138 : Nat := 0
noncomputable def tw8507776931139520737 : Nat := 0
noncomputable def tw8672883130414831044 : Nat := 0
noncomputable def tw3669314199184481253 : Nat := 0
noncomputable def tw15976228082101565994 : Nat := 0
noncomputable def tw7799483888651840948 : Nat := 0
noncomputable def tw16174758807025615021 : Nat := 0
noncomputable def tw4555866861457887817 : Nat := 0
noncomputable def tw11116745826364501430 : Nat := 0
noncomputable def tw2565563351968343141 : Nat := 0
noncomputable def tw11430207588045935325 : Nat := 0
noncomputable def tw10341860258655708415 : Nat := 0
noncomputable def tw10328360990557673835 : Nat := 0
noncomputable def tw297971269722091814 : Nat := 0
noncomputable def tw3140898538269762758 : Nat := 0
noncomputable def tw2287823674025257028 : Nat := 0
noncomputable def tw6127594578889010139 : Nat := 0
noncomputable def tw14796646475526232899 : Nat := 0
noncomputable def tw8800459187187324500 : Nat := 0
noncomputable def tw10864713392326063847 : Nat := 0
noncomputable def tw1814787853859245837 : Nat := 0
noncomputable def tw15125931889511115149 : Nat := 0
noncomputable def tw728428047077509346 : Nat := 0
noncomputable def tw11159431927160009238 : Nat := 0
noncomputable def tw13044034144603486326 : Nat := 0
noncomputable def tw8810280945414196856 : Nat := 0
noncomputable def tw4383139521930768336 : Nat := 0
noncomputable def tw12819366960792805191 : Nat := 0
noncomputable def tw1321871150748368714 : Nat := 0
noncomputable def tw18063644159110109576 : Nat := 0
noncomputable def tw16460436044903216755 : Nat := 0
noncomputable def tw517144808224063464 : Nat := 0
noncomputable def tw17009415399725018624 : Nat := 0
noncomputable def tw10252623693936335467 : Nat := 0
noncomputable def tw15451780782824253742 : Nat := 0
noncomputable def tw14987219478266130788 : Nat := 0
noncomputable def tw11334350811105764591 : Nat := 0
noncomputable def tw17594962761535629368 : Nat := 0
noncomputable def tw10448899703829047738 : Nat := 0
noncomputable def tw14632489290957082403 : Nat := 0
noncomputable def tw16044733080236030384 : Nat := 0
noncomputable def tw1551491737661789689 : Nat := 0
noncomputable def tw10548783162686979305 : Nat := 0
noncomputable def tw1522322319653140107 : Nat := 0
noncomputable def tw14142502885225118848 : Nat := 0
noncomputable def tw575894324575664597 : Nat := 0
noncomputable def tw16293970446678759691 : Nat := 0
noncomputable def tw16007503158450755388 : Nat := 0
noncomputable def tw15638586536077026902 : Nat := 0
noncomputable def tw4032682807216023121 : Nat := 0
noncomputable def tw13637463451757290726 : Nat := 0
noncomputable def tw1291508964198565346 : Nat := 0
noncomputable def tw13326734554550294991 : Nat := 0
noncomputable def tw10317287140990440334 : Nat := 0
noncomputable def tw3484022092364678248 : Nat := 0
noncomputable def tw14466935161476858967 : Nat := 0
noncomputable def tw2685745773621513544 : Nat := 0
noncomputable def tw6431110157172167083 : Nat := 0
noncomputable def tw17323899518341599180 : Nat := 0
noncomputable def tw13090165191389475591 : Nat := 0
noncomputable def tw16580785732701462914 : Nat := 0
noncomputable def tw401921906979044612 : Nat := 0
noncomputable def tw2731995056826638727 : Nat := 0
noncomputable def tw12256363837256957063 : Nat := 0
noncomputable def tw15911569825323301435 : Nat := 0
noncomputable def tw17160434163424456010 : Nat := 0
noncomputable def tw2145171640123136144 : Nat := 0
noncomputable def tw15687709949711836451 : Nat := 0
noncomputable def tw5648408011753718230 : Nat := 0
noncomputable def tw6812286434817487243 : Nat := 0
noncomputable def tw3195968871104189447 : Nat := 0
noncomputable def tw2153201293294769616 : Nat := 0
noncomputable def tw11203750815551599093 : Nat := 0
noncomputable def tw12777601194060584777 : Nat := 0
noncomputable def tw2732273902793177162 : Nat := 0
noncomputable def tw7939196589931399011 : Nat := 0
noncomputable def tw17886615442053742456 : Nat := 0
noncomputable def tw16204670001084760307 : Nat := 0
noncomputable def tw11542710104232473196 : Nat := 0
noncomputable def tw6292954644110606532 : Nat := 0
noncomputable def tw16809779246217341487 : Nat := 0
noncomputable def tw12540527436937284434 : Nat := 0
noncomputable def tw8363718466572441477 : Nat := 0
noncomputable def tw17103177528636943170 : Nat := 0
noncomputable def tw1585457916280141200 : Nat := 0
noncomputable def tw16509065781470453940 : Nat := 0
noncomputable def tw3603051052118289896 : Nat := 0
noncomputable def tw3909029901177050473 : Nat := 0
noncomputable def tw8560541052185303311 : Nat := 0
noncomputable def tw16525863338940772298 : Nat := 0
noncomputable def tw5507162329139097715 : Nat := 0
noncomputable def tw11028086866134049853 : Nat := 0
noncomputable def tw11922380849998532372 : Nat := 0
noncomputable def tw314455870634268127 : Nat := 0
noncomputable def tw788273225186049534 : Nat := 0
noncomputable def tw9259421805112917234 : Nat := 0
noncomputable def tw6746510453823603384 : Nat := 0
noncomputable def tw10194810499950245846 : Nat := 0
noncomputable def tw14671331368771545958 : Nat := 0
noncomputable def tw12117888159696746259 : Nat := 0
noncomputable def tw3730354652608582461 : Nat := 0
noncomputable def tw16352630495959832749 : Nat := 0
noncomputable def tw4250950275838387964 : Nat := 0
noncomputable def tw4951766788466123468 : Nat := 0
noncomputable def tw9854310039474760501 : Nat := 0
noncomputable def tw8212240652046128837 : Nat := 0
noncomputable def tw14697636140705633519 : Nat := 0
noncomputable def tw14789260269991461300 : Nat := 0
noncomputable def tw13001836021917841797 : Nat := 0
noncomputable def tw4392038535549328194 : Nat := 0
noncomputable def tw9833397302626899308 : Nat := 0
noncomputable def tw18330144715369815205 : Nat := 0
noncomputable def tw6908635100366463001 : Nat := 0
noncomputable def tw2782073688633401757 : Nat := 0
noncomputable def tw390997316461189296 : Nat := 0
noncomputable def tw18229784292405043182 : Nat := 0
noncomputable def tw17428532607074087071 : Nat := 0
noncomputable def tw7313339093194340965 : Nat := 0
noncomputable def tw259116497763760265 : Nat := 0
noncomputable def tw17795014544551873601 : Nat := 0
noncomputable def tw17545328352263074274 : Nat := 0
noncomputable def tw13187519465064655849 : Nat := 0
noncomputable def tw13889484949932952446 : Nat := 0
noncomputable def tw9685713192446186341 : Nat := 0
noncomputable def tw9195894827357321740 : Nat := 0
noncomputable def tw342308947776675178 : Nat := 0
noncomputable def tw8694864300669457046 : Nat := 0
noncomputable def tw6383614241601562808 : Nat := 0
noncomputable def tw9328819404386307858 : Nat := 0
noncomputable def tw16674975167109581930 : Nat := 0
noncomputable def tw9382581127745807760 : Nat := 0
noncomputable def tw3195522803047326042 : Nat := 0
noncomputable def tw12342655685612074800 : Nat := 0
noncomputable def tw11443710868159068359 : Nat := 0
noncomputable def tw16357309143852133390 : Nat := 0
noncomputable def tw10774637447528242797 : Nat := 0
noncomputable def tw9361663168868926718 : Nat := 0
noncomputable def tw1016984595167383106 : Nat := 0
noncomputable def tw7830913209206220567 : Nat := 0
noncomputable def tw3581848524822189991 : Nat := 0
noncomputable def tw4046864289407762814 : Nat := 0
noncomputable def tw6189502492464219833 : Nat := 0
noncomputable def tw15240379268576122478 : Nat := 0
noncomputable def tw4131498621145694574 : Nat := 0
noncomputable def tw14611434983143301774 : Nat := 0
noncomputable def tw995497684801637723 : Nat := 0
noncomputable def tw9800703332001039478 : Nat := 0
noncomputable def tw2287362676942042354 : Nat := 0
noncomputable def tw3846862658102513837 : Nat := 0
noncomputable def tw2907113945770861938 : Nat := 0
noncomputable def tw9851269098105209369 : Nat := 0
noncomputable def tw7204493036743257322 : Nat := 0
noncomputable def tw3143785405151724282 : Nat := 0
noncomputable def tw99440450732166138 : Nat := 0
noncomputable def tw9913501989792142831 : Nat := 0
noncomputable def tw46980244435833615 : Nat := 0
noncomputable def tw8311017846404947139 : Nat := 0
noncomputable def tw9953747333497923681 : Nat := 0
noncomputable def tw1108800333578037850 : Nat := 0
noncomputable def tw10006222313960134694 : Nat := 0
noncomputable def tw1492452104121835379 : Nat := 0
noncomputable def tw16414630628198896168 : Nat := 0
noncomputable def tw8985709366574770022 : Nat := 0
noncomputable def tw10801874191123338550 : Nat := 0
noncomputable def tw13901205277877782832 : Nat := 0
noncomputable def tw956089473029861405 : Nat := 0
noncomputable def tw283044589724301 : Nat := 0
noncomputable def tw602653604445443664 : Nat := 0
noncomputable def tw18121752080927795069 : Nat := 0
noncomputable def tw2878843996050045342 : Nat := 0
noncomputable def tw9723989250521069032 : Nat := 0
noncomputable def tw2752453847809088016 : Nat := 0
noncomputable def tw17783859843131274014 : Nat := 0
noncomputable def tw13264354339760550358 : Nat := 0
noncomputable def tw4713442408853163898 : Nat := 0
noncomputable def tw18008055252877512497 : Nat := 0
noncomputable def tw1617357707322924660 : Nat := 0
noncomputable def tw6370870915552960936 : Nat := 0
noncomputable def tw16034636559557993077 : Nat := 0
noncomputable def tw1147548669246485465 : Nat := 0
noncomputable def tw350670483859837877 : Nat := 0
noncomputable def tw16120041803238788101 : Nat := 0
noncomputable def tw3820434133910038737 : Nat := 0
noncomputable def tw12507017104952529904 : Nat := 0
noncomputable def tw4258143625173308034 : Nat := 0
noncomputable def tw11377482038585738817 : Nat := 0
noncomputable def tw18245740138792012028 : Nat := 0
noncomputable def tw14235281626263879747 : Nat := 0
noncomputable def tw6042063481754889096 : Nat := 0
noncomputable def tw12958664272152378060 : Nat := 0
noncomputable def tw2218668502564051296 : Nat := 0
noncomputable def tw4547018644641229820 : Nat := 0
noncomputable def tw4166218997396506358 : Nat := 0
noncomputable def tw1736530178072539846 : Nat := 0
noncomputable def tw12718909917080609646 : Nat := 0
noncomputable def tw16659674399394625376 : Nat := 0
noncomputable def tw8523463495250067690 : Nat := 0
noncomputable def tw3261557481417251176 : Nat := 0
noncomputable def tw12153700165764330820 : Nat := 0
noncomputable def tw11334415319851112604 : Nat := 0
noncomputable def tw1400011881503588481 : Nat := 0
noncomputable def tw17555251805378815213 : Nat := 0
noncomputable def tw3120133295221510679 : Nat := 0
noncomputable def tw1192657577511650299 : Nat := 0
noncomputable def tw15744752440731449612 : Nat := 0
end Mine.top

namespace Mine
theorem biBoot (b : Bi) : bootBuiltins b.nm = some (biV b) := by cases b <;> decide +kernel
end Mine

set_option Elab.async true
theorem Mine.top : PySem.Challenge.rw_ok0147_01.Holds := by
  (w_on; o_law; k_head; (case hw => w_witness2); w_strict (
    k_go0
    rename List Int => ns
    rename IntsAre _ ns => hI
    rename Top _ _ _ _ _ _ => T
    have hlen : ns.length ≤ 63 := by first | (rename ¬ _ < _ => hc; omega) | omega
    obtain ⟨l', H', ev⟩ := Mine.law_ev ns hlen
    refine Mine.fin ?ck (by assumption) T.g T.b T.nolimit (fun b => (T.builtins _ (by cases b <;> decide +kernel)).trans (Mine.biBoot b)) (by assumption) (by rfl) (by assumption) hI ev (by kernel_rfl) (by kernel_rfl) (by kernel_rfl) ⟨rfl, (show callerA.depth + 1 + 10 * Mine.tRank 48 + 20 ≤ 900 by decide +kernel), (show callerA.units + 3 + 100 * Mine.tRank 48 + 200 ≤ 9000 by decide +kernel)⟩ (fun s' st kp => ?fin)
    case ck => kernel_rfl
    case fin => exact ⟨.inl ⟨_, .bool true, [], rfl, fun _ => rfl, .bool _, by kernel_rfl, fun _ => ⟨.nil, fun a ha => nomatch ha⟩⟩, kp, st.os, st.gens.trans (by assumption)⟩))
set_option Elab.async false
theorem PySem.Challenge.cw_ok0147_01_holds : PySem.Challenge.rw_ok0147_01.Holds := by
  exact Mine.top
