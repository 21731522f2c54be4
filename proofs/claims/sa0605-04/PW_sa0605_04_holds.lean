import PyProof.Rows.All
import Wide.All
import OpenK.AllK
import Wide.FinOn
import PySem.Challenge.RW_sa0605_04
open PySem PySem.W PyProof.Rows
set_option Elab.async false
set_option linter.unusedSimpArgs false
set_option linter.unusedVariables false
set_option genSizeOf false
set_option genInjectivity false
set_option bootstrap.genMatcherCode false
set_option maxRecDepth 10000

namespace Mine

/-! A small Python: values are trees, lists, dicts and instances lie on a heap of their own. -/

theorem ff {p : Prop} (h : false = true) : p := by cases h
theorem nn {α : Type} {a : α} {p : Prop} (h : none = some a) : p := by cases h

inductive V where
  | none | bool (b : Bool) | int (i : Int) | str (s : List Nat) | tup (l : List V) | loc (n : Nat) | rng (a b c : Int) | fn (k : Nat) | ro (l : List V)

inductive O where
  | list (l : List V) | dict (es : List (List Nat × V)) | inst (c : Nat) (fs : List (Nat × V))

noncomputable abbrev Hp := List O
noncomputable abbrev Lo := List (Option V)

inductive BOp where | add | sub | mul | fdiv | mod
inductive COp where | eq | ne | lt | le | gt | ge | is | isnot | isin | notin
inductive BM where | append | pop | extend | reverse | join | replace | startswith | lstrip | split | get
inductive Pr where | len | abs | int | chr | ord | list | range | min | str
inductive IK where | int | str | tuple | cls (k : Nat)
inductive CT where | one (i : Nat) | many (is : List Nat)

inductive ME where
  | bad
  | lit (v : V) | loc (i : Nat) | glob (v : V)
  | tup (es : List ME) | lst (es : List ME) | dict (es : List ME)
  | attr (e : ME) (a : Nat) | idx (e i : ME) | slice (e lo hi st : ME)
  | bin (op : BOp) (a b : ME) | neg (a : ME) | not (a : ME)
  | cmp (op : COp) (a b : ME)
  | and (es : List ME) | or (es : List ME) | ife (t a b : ME)
  | call (f : ME) (es : List ME) | new (c : Nat) (es : List ME)
  | meth (o : ME) (m : Nat) (es : List ME) | bmeth (o : ME) (m : BM) (es : List ME)
  | prim (p : Pr) (es : List ME) | isin (e : ME) (k : IK)
  | comp (elt src : ME) (t : CT) (k : Nat) (conds : List ME)

inductive Tg where
  | loc (i : Nat) | attr (o : ME) (a : Nat) | idx (o i : ME) | tup (ts : List Tg)

inductive MS where
  | bad
  | expr (e : ME) | ret (e : ME) | asg (t : Tg) (e : ME) | auga (o : ME) (a : Nat) (op : BOp) (e : ME)
  | ife (t : ME) (b o : List MS) | whl (t : ME) (b : List MS) | for (t : CT) (it : ME) (b : List MS) | brk | cont

inductive Fl where | next | brk | cont | ret (v : V)

structure FI where
  np : Nat
  ns : Nat
  body : List MS
structure CI where
  init : Nat
  meths : List (Nat × Nat)
structure Pg where
  fns : List FI
  cls : List CI

noncomputable def lim : Nat := 1048576
noncomputable def big : Int := 1152921504606846976

noncomputable def mapO {α β : Type} (f : α → Option β) : List α → Option (List β)
  | [] => some []
  | a :: r => match f a with
    | some b => (match mapO f r with | some bs => some (b :: bs) | Option.none => Option.none)
    | Option.none => Option.none

noncomputable def dat (H : Hp) : Nat → V → Option PyData
  | 0, _ => none
  | n + 1, v => match v with
    | .none => some .none
    | .bool b => some (.bool b)
    | .int i => some (.int i)
    | .str s => if s.all (· < 128) then some (.str ⟨s.toArray⟩) else none
    | .tup l => (mapO (dat H n) l).map .tuple
    | .loc i => (match H[i]? with | some (.list l) => (mapO (dat H n) l).map .list | _ => none)
    | _ => none

noncomputable def lookS {α : Type} (k : List Nat) : List (List Nat × α) → Option α
  | [] => none
  | (j, v) :: r => if j == k then some v else lookS k r
noncomputable def putS {α : Type} (k : List Nat) (v : α) : List (List Nat × α) → List (List Nat × α)
  | [] => [(k, v)]
  | (j, u) :: r => if j == k then (j, v) :: r else (j, u) :: putS k v r
noncomputable def lookN {α : Type} (k : Nat) : List (Nat × α) → Option α
  | [] => none
  | (j, v) :: r => if j == k then some v else lookN k r
noncomputable def putN {α : Type} (k : Nat) (v : α) : List (Nat × α) → List (Nat × α)
  | [] => [(k, v)]
  | (j, u) :: r => if j == k then (j, v) :: r else (j, u) :: putN k v r

noncomputable def onI {β : Type} (a : V) (f : Int → Option β) : Option β := match a with | .int i => f i | _ => none
noncomputable def onS {β : Type} (a : V) (f : List Nat → Option β) : Option β := match a with | .str s => f s | _ => none
noncomputable def onT {β : Type} (a : V) (f : List V → Option β) : Option β := match a with | .tup s => f s | _ => none
noncomputable def onN {β : Type} (a : V) (f : Nat → Option β) : Option β := match a with | .loc n => f n | _ => none
noncomputable def atL {β : Type} (H : Hp) (n : Nat) (f : List V → Option β) : Option β := match H[n]? with | some (.list l) => f l | _ => none
noncomputable def atD {β : Type} (H : Hp) (n : Nat) (f : List (List Nat × V) → Option β) : Option β := match H[n]? with | some (.dict l) => f l | _ => none
noncomputable def atI {β : Type} (H : Hp) (n : Nat) (f : Nat → List (Nat × V) → Option β) : Option β := match H[n]? with | some (.inst c l) => f c l | _ => none
noncomputable def on0 {β : Type} (vs : List V) (f : Option β) : Option β := match vs with | [] => f | _ :: _ => none
noncomputable def on1 {β : Type} (vs : List V) (f : V → Option β) : Option β := match vs with | [] => none | a :: r => on0 r (f a)
noncomputable def on2 {β : Type} (vs : List V) (f : V → V → Option β) : Option β := match vs with | [] => none | a :: r => on1 r (f a)
noncomputable def gd {β : Type} (c : Prop) [Decidable c] (x : β) : Option β := if c then some x else none
noncomputable def isNone0 (a : V) : Bool := match a with | .none => true | _ => false

theorem onI_some {β : Type} {a : V} {f : Int → Option β} {r : β} (e : onI a f = some r) : ∃ i, a = .int i ∧ f i = some r := by
  cases a <;> first | exact ⟨_, rfl, e⟩ | cases e
theorem onS_some {β : Type} {a : V} {f : List Nat → Option β} {r : β} (e : onS a f = some r) : ∃ i, a = .str i ∧ f i = some r := by
  cases a <;> first | exact ⟨_, rfl, e⟩ | cases e
theorem onT_some {β : Type} {a : V} {f : List V → Option β} {r : β} (e : onT a f = some r) : ∃ i, a = .tup i ∧ f i = some r := by
  cases a <;> first | exact ⟨_, rfl, e⟩ | cases e
theorem onN_some {β : Type} {a : V} {f : Nat → Option β} {r : β} (e : onN a f = some r) : ∃ i, a = .loc i ∧ f i = some r := by
  cases a <;> first | exact ⟨_, rfl, e⟩ | cases e
theorem atL_some {β : Type} {H : Hp} {n : Nat} {f : List V → Option β} {r : β} (e : atL H n f = some r) : ∃ l, H[n]? = some (.list l) ∧ f l = some r := by
  unfold atL at e
  generalize H[n]? = o at e ⊢
  cases o with
  | none => cases e
  | some o => cases o with
    | list l => exact ⟨l, rfl, e⟩
    | _ => cases e
theorem atD_some {β : Type} {H : Hp} {n : Nat} {f : List (List Nat × V) → Option β} {r : β} (e : atD H n f = some r) : ∃ l, H[n]? = some (.dict l) ∧ f l = some r := by
  unfold atD at e
  generalize H[n]? = o at e ⊢
  cases o with
  | none => cases e
  | some o => cases o with
    | dict l => exact ⟨l, rfl, e⟩
    | _ => cases e
theorem atI_some {β : Type} {H : Hp} {n : Nat} {f : Nat → List (Nat × V) → Option β} {r : β} (e : atI H n f = some r) : ∃ c l, H[n]? = some (.inst c l) ∧ f c l = some r := by
  unfold atI at e
  generalize H[n]? = o at e ⊢
  cases o with
  | none => cases e
  | some o => cases o with
    | inst c l => exact ⟨c, l, rfl, e⟩
    | _ => cases e
theorem on0_some {β : Type} {vs : List V} {f : Option β} {r : β} (e : on0 vs f = some r) : vs = [] ∧ f = some r := by
  cases vs with
  | nil => exact ⟨rfl, e⟩
  | cons a l => cases e
theorem on1_some {β : Type} {vs : List V} {f : V → Option β} {r : β} (e : on1 vs f = some r) : ∃ a, vs = [a] ∧ f a = some r := by
  cases vs with
  | nil => cases e
  | cons a l => obtain ⟨rfl, e⟩ := on0_some (vs := l) e; exact ⟨a, rfl, e⟩
theorem on2_some {β : Type} {vs : List V} {f : V → V → Option β} {r : β} (e : on2 vs f = some r) : ∃ a b, vs = [a, b] ∧ f a b = some r := by
  cases vs with
  | nil => cases e
  | cons a l => obtain ⟨b, rfl, e⟩ := on1_some (vs := l) e; exact ⟨a, b, rfl, e⟩
theorem gd_some {β : Type} {c : Prop} [Decidable c] {x r : β} (e : gd c x = some r) : c ∧ x = r := by
  unfold gd at e
  by_cases h : c
  · rw [if_pos h] at e; exact ⟨h, Option.some.inj e⟩
  · rw [if_neg h] at e; cases e
theorem map_some {α β : Type} {o : Option α} {f : α → β} {r : β} (e : o.map f = some r) : ∃ a, o = some a ∧ f a = r := by
  cases o with
  | none => cases e
  | some a => exact ⟨a, rfl, Option.some.inj e⟩
theorem isNone0_eq {a : V} (h : isNone0 a = true) : a = .none := by cases a <;> first | rfl | cases h

/-- two dicts of one entry each -/
noncomputable def eqDict (es fs : List (List Nat × V)) : Option Bool := match es, fs with
  | [(k, v)], [(j, u)] => if k == j then onS v fun s => onS u fun t => some (s == t) else some false
  | _, _ => none

noncomputable def eqD (H : Hp) (a b : V) : Option Bool := match dat H 8 a with
  | some x => (match dat H 8 b with | some y => some (PyData.eqv x y) | none => none)
  | none => none
theorem eqD_some {H : Hp} {a b : V} {r : Bool} (e : eqD H a b = some r) : ∃ x y, dat H 8 a = some x ∧ dat H 8 b = some y ∧ PyData.eqv x y = r := by
  unfold eqD at e
  cases h : dat H 8 a with
  | none => rw [h] at e; cases e
  | some x =>
    rw [h] at e
    cases h' : dat H 8 b with
    | none => rw [h'] at e; cases e
    | some y => rw [h'] at e; exact ⟨x, y, rfl, rfl, Option.some.inj e⟩
noncomputable def fastEq (H : Hp) (a b : V) : Option (Option Bool) := match a with
  | .str s => (match b with | .str t => some (some (s == t)) | _ => none)
  | .int i => (match b with | .int j => some (some (i == j)) | _ => none)
  | .tup _ => (match b with | .str _ => some (some false) | _ => none)
  | .loc i => (match b with | .loc _ => (match H[i]? with | some (.dict _) => some none | _ => none) | _ => none)
  | _ => none
noncomputable def eqV (H : Hp) (a b : V) : Option Bool := match fastEq H a b with
  | some r => r
  | none => eqD H a b

noncomputable def hasPre : List Nat → List Nat → Bool
  | [], _ => true
  | _ :: _, [] => false
  | a :: r, b :: t => a == b && hasPre r t
noncomputable def strsOf : List V → Option (List (List Nat))
  | [] => some []
  | .str s :: r => (match strsOf r with | some l => some (s :: l) | none => none)
  | _ => none
noncomputable def strsOf' {β : Type} (l : List V) (f : List (List Nat) → Option β) : Option β := match strsOf l with | some ss => f ss | none => none
theorem strsOf'_some {β : Type} {l : List V} {f : List (List Nat) → Option β} {r : β} (e : strsOf' l f = some r) : ∃ ss, strsOf l = some ss ∧ f ss = some r := by
  unfold strsOf' at e
  cases h : strsOf l with
  | none => rw [h] at e; cases e
  | some ss => rw [h] at e; exact ⟨ss, rfl, e⟩
noncomputable def inV (H : Hp) (a b : V) : Option Bool := onS a fun s => match b with
  | .str t => (match s with | [c] => some (t.contains c) | _ => none)
  | .tup l => strsOf' l fun ss => some (ss.any (· == s))
  | .loc n => atL H n fun l => strsOf' l fun ss => some (ss.any (· == s))
  | _ => none

noncomputable def intsOf : List V → Option (List Int)
  | [] => some []
  | .int i :: r => (match intsOf r with | some l => some (i :: l) | none => none)
  | _ => none
noncomputable def ltInts : List Int → List Int → Bool
  | [], [] => false
  | [], _ :: _ => true
  | _ :: _, [] => false
  | a :: r, b :: t => if a == b then ltInts r t else decide (a < b)
noncomputable def ltV (H : Hp) (a b : V) : Option Bool := match a with
  | .int i => onI b fun j => some (decide (i < j))
  | .loc i => onN b fun j => atL H i fun l => atL H j fun m => (match intsOf l with | some x => (match intsOf m with | some y => some (ltInts x y) | none => none) | none => none)
  | _ => none

noncomputable def fastNe (a b : V) : Option Bool := onS a fun s => onS b fun t => some (!(s == t))
noncomputable def neV (H : Hp) (a b : V) : Option Bool := match fastNe a b with
  | some r => some r
  | none => (eqD H a b).map (!·)
noncomputable def isV' (a b : V) : Option Bool := if isNone0 b then some (isNone0 a) else none
noncomputable def cmpV (H : Hp) (op : COp) (a b : V) : Option Bool := match op with
  | .eq => eqV H a b
  | .ne => neV H a b
  | .lt => ltV H a b
  | .le => onI a fun i => onI b fun j => some (decide (i ≤ j))
  | .gt => onI a fun i => onI b fun j => some (decide (j < i))
  | .ge => onI a fun i => onI b fun j => some (decide (j ≤ i))
  | .is => isV' a b
  | .isnot => (isV' a b).map (!·)
  | .isin => inV H a b
  | .notin => (inV H a b).map (!·)

noncomputable def repL {α : Type} (l : List α) : Nat → List α
  | 0 => []
  | n + 1 => l ++ repL l n

noncomputable def addV (a b : V) (H : Hp) : Option (V × Hp) := match a with
  | .int i => onI b fun j => some (.int (i + j), H)
  | .str s => onS b fun t => gd (s.length + t.length ≤ lim) (.str (s ++ t), H)
  | .tup s => onT b fun t => gd (s.length + t.length ≤ lim) (.tup (s ++ t), H)
  | .loc i => onN b fun j => atL H i fun l => atL H j fun m => gd (l.length + m.length ≤ lim) (.loc H.length, H ++ [.list (l ++ m)])
  | _ => none
noncomputable def mulV (a b : V) (H : Hp) : Option (V × Hp) := match a with
  | .int i => onI b fun j => gd (i.natAbs < 1152921504606846976 ∧ j.natAbs < 1152921504606846976) (.int (i * j), H)
  | .str s => onI b fun j => gd (0 ≤ j ∧ s.length ≤ 1024 ∧ j ≤ 1024) (.str (repL s j.toNat), H)
  | .loc i => onI b fun j => atL H i fun l => gd (0 ≤ j ∧ l.length ≤ 1024 ∧ j ≤ 1024) (.loc H.length, H ++ [.list (repL l j.toNat)])
  | _ => none
noncomputable def binV (op : BOp) (a b : V) (H : Hp) : Option (V × Hp) := match op with
  | .add => addV a b H
  | .sub => onI a fun i => onI b fun j => some (.int (i - j), H)
  | .mul => mulV a b H
  | .fdiv => onI a fun i => onI b fun j => gd (0 < j ∧ i.natAbs < 1152921504606846976 ∧ j < 1152921504606846976) (.int (i / j), H)
  | .mod => onI a fun i => onI b fun j => gd (0 < j) (.int (i % j), H)

noncomputable def augV (op : BOp) (a b : V) : Option V := onI a fun i => onI b fun j => match op with
  | .add => some (.int (i + j))
  | .sub => some (.int (i - j))
  | .fdiv => gd (0 < j ∧ i.natAbs < 1152921504606846976 ∧ j < 1152921504606846976) (.int (i / j))
  | _ => none
noncomputable def idxL {α : Type} (l : List α) (i : Int) : Option α := if 0 ≤ i then l[i.toNat]? else none
noncomputable def idxV (H : Hp) (a i : V) : Option V := match a with
  | .tup l => onI i (idxL l)
  | .str s => onI i fun i => (idxL s i).map fun c => .str [c]
  | .loc n => (match i with
    | .int i => atL H n fun l => idxL l i
    | .str k => atD H n (lookS k)
    | _ => none)
  | _ => none

noncomputable def noneV {β : Type} (a : V) (x : Option β) : Option β := if isNone0 a then x else none
theorem noneV_some {β : Type} {a : V} {x : Option β} {r : β} (e : noneV a x = some r) : a = .none ∧ x = some r := by
  unfold noneV at e
  cases h : isNone0 a with
  | true => rw [h] at e; exact ⟨isNone0_eq h, e⟩
  | false => rw [h] at e; cases e
noncomputable def sliceR {α : Type} (l : List α) (lo hi st : V) : Option (List α) := noneV lo (match hi with
  | .none => onI st fun k => gd (k = -1) l.reverse
  | .int j => (match st with
    | .none => gd (0 ≤ j) (l.take j.toNat)
    | .int k => gd (j = 0 ∧ k = -1) (l.drop 1).reverse
    | _ => none)
  | _ => none)
noncomputable def sliceL {α : Type} (l : List α) (lo hi st : V) : Option (List α) := noneV st (match lo with
  | .none => onI hi fun j => gd (0 ≤ j) (l.take j.toNat)
  | .int i => (match hi with
    | .none => gd (0 ≤ i) (l.drop i.toNat)
    | .int j => gd (0 ≤ i ∧ 0 ≤ j) ((l.take j.toNat).drop i.toNat)
    | _ => none)
  | _ => none)
noncomputable def sliceV (a lo hi st : V) (H : Hp) : Option (V × Hp) := match a with
  | .str s => (sliceL s lo hi st).map fun t => (.str t, H)
  | .ro l => noneV lo (noneV st (onI hi fun j => gd (0 ≤ j) (.loc H.length, H ++ [.list (l.take j.toNat)])))
  | .loc n => atL H n fun l => (sliceR l lo hi st).map fun t => (.loc H.length, H ++ [.list t])
  | _ => none

noncomputable def isV (v : V) (k : IK) : Option Bool := match k with
  | .int => (match v with | .int _ => some true | .bool _ => some true | .none => some false | .str _ => some false | .tup _ => some false | _ => none)
  | .str => (match v with | .int _ => some false | .bool _ => some false | .none => some false | .str _ => some true | .tup _ => some false | _ => none)
  | .tuple => (match v with | .int _ => some false | .bool _ => some false | .none => some false | .str _ => some false | .tup _ => some true | _ => none)
  | .cls _ => (match v with | .int _ => some false | .str _ => some false | _ => none)

noncomputable def rngLen (a b c : Int) : Nat := if 0 < c then (if a < b then ((b - a + c - 1) / c).toNat else 0) else if c < 0 then (if b < a then ((a - b - c - 1) / (-c)).toNat else 0) else 0
noncomputable def rngL (a c : Int) : Nat → List Int
  | 0 => []
  | n + 1 => a :: rngL (a + c) c n

noncomputable def minL : Int → List Int → Int
  | m, [] => m
  | m, a :: r => minL (if a < m then a else m) r

noncomputable def lenV (a : V) (H : Hp) : Option Nat := match a with
  | .str s => some s.length
  | .tup s => some s.length
  | .loc n => atL H n fun l => some l.length
  | _ => none
noncomputable def intV (a : V) : Option Int := match a with
  | .int i => some i
  | .str s => (match s with | [c] => gd (48 ≤ c ∧ c < 58) ((c : Int) - 48) | _ => none)
  | .bool b => some (if b then 1 else 0)
  | _ => none
noncomputable def listV (a : V) (H : Hp) : Option (List V) := match a with
  | .tup l => some l
  | .loc n => atL H n some
  | .rng a b c => gd (rngLen a b c ≤ 1024 ∧ a.natAbs < 1048576 ∧ b.natAbs < 1048576 ∧ (c = 1 ∨ c = -1)) ((rngL a c (rngLen a b c)).map .int)
  | _ => none
noncomputable def rangeV (vs : List V) : Option V := match vs with
  | [] => none
  | x :: r => onI x fun a => match r with
    | [] => gd (a.natAbs < 1048576) (.rng 0 a 1)
    | y :: r => onI y fun b => match r with
      | [] => gd (a.natAbs < 1048576 ∧ b.natAbs < 1048576) (.rng a b 1)
      | z :: r => onI z fun c => on0 r (gd (a.natAbs < 1048576 ∧ b.natAbs < 1048576 ∧ (c = 1 ∨ c = -1)) (.rng a b c))
noncomputable def minV (H : Hp) (n : Nat) : Option V := atL H n fun l => (match intsOf l with | some (a :: r) => some (.int (minL a r)) | _ => none)
noncomputable def primV (p : Pr) (vs : List V) (H : Hp) : Option (V × Hp) := match p with
  | .len => on1 vs fun a => (lenV a H).map fun (n : Nat) => (V.int (n : Int), H)
  | .abs => on1 vs fun a => onI a fun i => some (.int i.natAbs, H)
  | .int => on1 vs fun a => (intV a).map fun n => (.int n, H)
  | .chr => none
  | .ord => none
  | .list => on1 vs fun a => (listV a H).map fun l => (.loc H.length, H ++ [.list l])
  | .range => (rangeV vs).map fun v => (v, H)
  | .min => none
  | .str => on1 vs fun a => onI a fun i => gd (0 ≤ i ∧ i < 10) (.str [48 + i.toNat], H)

noncomputable def catL : List (List Nat) → List Nat
  | [] => []
  | s :: r => s ++ catL r
noncomputable def lstripL (cs : List Nat) : List Nat → List Nat
  | [] => []
  | c :: r => if cs.contains c then lstripL cs r else c :: r
noncomputable def splitL (c : Nat) : List Nat → List (List Nat)
  | [] => [[]]
  | d :: r => if d == c then [] :: splitL c r else (match splitL c r with | w :: ws => (d :: w) :: ws | [] => [[d]])
/-- every «()» out, from the left -/
noncomputable def dropPar : List Nat → List Nat
  | 40 :: 41 :: r => dropPar r
  | c :: r => c :: dropPar r
  | [] => []

noncomputable def joinV (H : Hp) (n : Nat) : Option V := atL H n fun l => strsOf' l fun ss => gd ((catL ss).length ≤ lim) (.str (catL ss))
noncomputable def isS (v : V) (x : List Nat) : Bool := match v with | .str s => s == x | _ => false
noncomputable def bmV (m : BM) (o : V) (vs : List V) (H : Hp) : Option (V × Hp) := match m with
  | .append => onN o fun n => on1 vs fun v => atL H n fun l => gd (l.length < lim) (.none, H.set n (.list (l ++ [v])))
  | .pop => onN o fun n => on0 vs (atL H n fun l => (match l.getLast? with | some v => some (v, H.set n (.list l.dropLast)) | none => none))
  | .extend => onN o fun n => on1 vs fun a => onN a fun k => atL H n fun l => atL H k fun m => gd (n ≠ k ∧ l.length + m.length < lim) (.none, H.set n (.list (l ++ m)))
  | .reverse => none
  | .join => onS o fun s => on1 vs fun a => onN a fun n => (match s with | [] => (joinV H n).map fun v => (v, H) | _ :: _ => none)
  | .replace => none
  | .startswith => none
  | .lstrip => none
  | .split => none
  | .get => none

/-- the kind of thing that the method wants -/
noncomputable def bmK (m : BM) (o : V) (H : Hp) : Bool := match o with
  | .str _ => (match m with | .join => true | .replace => true | .startswith => true | .lstrip => true | .split => true | _ => false)
  | .loc n => (match H[n]? with
    | some (.list _) => (match m with | .append => true | .pop => true | .extend => true | .reverse => true | _ => false)
    | some (.dict _) => (match m with | .get => true | _ => false)
    | _ => false)
  | _ => false

noncomputable def getA (H : Hp) (o : V) (a : Nat) : Option V := onN o fun n => atI H n fun _ fs => lookN a fs
noncomputable def setA (H : Hp) (o : V) (a : Nat) (v : V) : Option Hp := onN o fun n => atI H n fun c fs => some (H.set n (.inst c (putN a v fs)))
noncomputable def setI (H : Hp) (o i v : V) : Option Hp := onN o fun n => match i with
  | .int i => atL H n fun l => gd (0 ≤ i ∧ i.toNat < l.length) (H.set n (.list (l.set i.toNat v)))
  | .str k => atD H n fun es => gd (es.length < 1024) (H.set n (.dict (putS k v es)))
  | _ => none

inductive It where
  | seq (l : List V) | lst (n i : Nat) | rng (a c : Int) (k : Nat)
noncomputable def iterV (H : Hp) (v : V) : Option It := match v with
  | .tup l => some (.seq l)
  | .str s => if s.all (· < 128) then some (.seq (s.map fun c => .str [c])) else none
  | .loc n => (match H[n]? with | some (.list _) => some (.lst n 0) | _ => none)
  | .rng a b c => if a.natAbs < 1048576 ∧ b.natAbs < 1048576 ∧ (c = 1 ∨ c = -1) then some (.rng a c (rngLen a b c)) else none
  | _ => none
noncomputable def nextI (H : Hp) : It → Option (Option (V × It))
  | .seq [] => some none
  | .seq (v :: r) => some (some (v, .seq r))
  | .lst n i => (match H[n]? with
    | some (.list l) => (match l[i]? with | some v => some (some (v, .lst n (i + 1))) | none => some none)
    | _ => none)
  | .rng _ _ 0 => some none
  | .rng a c (k + 1) => some (some (.int a, .rng (a + c) c k))

noncomputable def setMany : List Nat → List V → Lo → Option Lo
  | [], [], l => some l
  | i :: is, v :: vs, l => setMany is vs (l.set i (some v))
  | _, _, _ => none
noncomputable def setCT (t : CT) (v : V) (l : Lo) : Option Lo := match t with
  | .one i => some (l.set i (some v))
  | .many is => (match v with | .tup vs => setMany is vs l | _ => none)

noncomputable def bnd {α β : Type} (m : Option (α × Hp)) (f : α → Hp → Option β) : Option β := match m with
  | some (a, H) => f a H
  | none => none

noncomputable abbrev CallT := Nat → List V → Hp → Option (V × Hp)

/-- the comprehension's turns -/
noncomputable def compN (cond : Lo → Hp → Option (Bool × Hp)) (elt : Lo → Hp → Option (V × Hp)) (t : CT) (l : Lo) : Nat → It → List V → Hp → Option (List V × Hp)
  | 0, _, _, _ => none
  | n + 1, it, acc, H => match nextI H it with
    | none => none
    | some none => some (acc.reverse, H)
    | some (some (v, it')) => (match setCT t v l with
      | none => none
      | some l' => bnd (cond l' H) fun b H' => if b then bnd (elt l' H') fun r H'' => compN cond elt t l n it' (r :: acc) H'' else compN cond elt t l n it' acc H')

section
variable (P : Pg) (call : CallT)
mutual
noncomputable def evE : ME → Lo → Hp → Option (V × Hp)
  | .bad, _, _ => none
  | .lit v, _, H => some (v, H)
  | .loc i, l, H => (match l[i]? with | some (some v) => some (v, H) | _ => none)
  | .glob v, _, H => some (v, H)
  | .tup es, l, H => bnd (evL es l H) fun vs H => some (.tup vs, H)
  | .lst es, l, H => bnd (evL es l H) fun vs H => some (.loc H.length, H ++ [.list vs])
  | .dict es, l, H => bnd (evD es l H) fun es H => some (.loc H.length, H ++ [.dict es])
  | .attr e a, l, H => bnd (evE e l H) fun o H => (match getA H o a with | some v => some (v, H) | none => none)
  | .idx e i, l, H => bnd (evE e l H) fun o H => bnd (evE i l H) fun i H => (match idxV H o i with | some v => some (v, H) | none => none)
  | .slice e lo hi st, l, H => bnd (evE e l H) fun o H => bnd (evE lo l H) fun lo H => bnd (evE hi l H) fun hi H => bnd (evE st l H) fun st H => sliceV o lo hi st H
  | .bin op a b, l, H => bnd (evE a l H) fun a H => bnd (evE b l H) fun b H => binV op a b H
  | .neg a, l, H => bnd (evE a l H) fun a H => (match a with | .int i => some (.int (-i), H) | _ => none)
  | .not a, l, H => bnd (evE a l H) fun a H => (match a with | .bool b => some (.bool (!b), H) | _ => none)
  | .cmp op a b, l, H => bnd (evE a l H) fun a H => bnd (evE b l H) fun b H => (match cmpV H op a b with | some r => some (.bool r, H) | none => none)
  | .and es, l, H => evAnd es l H
  | .or es, l, H => evOr es l H
  | .ife t a b, l, H => bnd (evE t l H) fun t H => (match t with | .bool true => evE a l H | .bool false => evE b l H | _ => none)
  | .call f es, l, H => bnd (evE f l H) fun f H => bnd (evL es l H) fun vs H => (match f with | .fn k => call k vs H | _ => none)
  | .new c es, l, H => bnd (evL es l H) fun vs H => (match P.cls[c]? with
    | some ci => bnd (call ci.init (.loc H.length :: vs) (H ++ [.inst c []])) fun r H' => (match r with | .none => some (.loc H.length, H') | _ => none)
    | none => none)
  | .meth o m es, l, H => bnd (evE o l H) fun o H => (match o with
    | .loc n => (match H[n]? with
      | some (.inst c _) => (match P.cls[c]? with
        | some ci => (match lookN m ci.meths with
          | some k => bnd (evL es l H) fun vs H => call k (o :: vs) H
          | none => none)
        | none => none)
      | _ => none)
    | _ => none)
  | .bmeth o m es, l, H => bnd (evE o l H) fun o H => if bmK m o H then bnd (evL es l H) fun vs H => bmV m o vs H else none
  | .prim p es, l, H => bnd (evL es l H) fun vs H => primV p vs H
  | .isin e k, l, H => bnd (evE e l H) fun v H => (match isV v k with | some b => some (.bool b, H) | none => none)
  | .comp elt src t k cs, l, H => bnd (evE src l H) fun s H => (match iterV H s with
    | some it => bnd (compN (fun l H => evC cs l H) (fun l H => evE elt l H) t (l ++ List.replicate k none) 1048576 it [] H) fun vs H =>
        if vs.length ≤ lim then some (.loc H.length, H ++ [.list vs]) else none
    | none => none)
noncomputable def evL : List ME → Lo → Hp → Option (List V × Hp)
  | [], _, H => some ([], H)
  | e :: r, l, H => bnd (evE e l H) fun v H => bnd (evL r l H) fun vs H => some (v :: vs, H)
noncomputable def evD : List ME → Lo → Hp → Option (List (List Nat × V) × Hp)
  | [], _, H => some ([], H)
  | _ :: _, _, _ => none
noncomputable def evAnd : List ME → Lo → Hp → Option (V × Hp)
  | [], _, H => some (.bool true, H)
  | e :: r, l, H => bnd (evE e l H) fun v H => (match v with | .bool true => evAnd r l H | .bool false => some (.bool false, H) | _ => none)
noncomputable def evOr : List ME → Lo → Hp → Option (V × Hp)
  | [], _, H => some (.bool false, H)
  | e :: r, l, H => bnd (evE e l H) fun v H => (match v with | .bool false => evOr r l H | .bool true => some (.bool true, H) | _ => none)
noncomputable def evC : List ME → Lo → Hp → Option (Bool × Hp)
  | [], _, H => some (true, H)
  | e :: r, l, H => bnd (evE e l H) fun v H => (match v with | .bool true => evC r l H | .bool false => some (false, H) | _ => none)
end
end

noncomputable def bndS {β : Type} (m : Option (Lo × Hp)) (f : Lo → Hp → Option β) : Option β := match m with
  | some (l, H) => f l H
  | none => none

noncomputable def unpk (H : Hp) (v : V) : Option (List V) := match v with
  | .tup vs => some vs
  | .loc n => (match H[n]? with | some (.list l) => some l | _ => none)
  | _ => none

section
variable (ev : ME → Lo → Hp → Option (V × Hp))
mutual
noncomputable def asgT : Tg → V → Lo → Hp → Option (Lo × Hp)
  | .loc i, v, l, H => some (l.set i (some v), H)
  | .attr o a, v, l, H => bnd (ev o l H) fun o H => (match setA H o a v with | some H => some (l, H) | none => none)
  | .idx o i, v, l, H => bnd (ev o l H) fun o H => bnd (ev i l H) fun i H => (match setI H o i v with | some H => some (l, H) | none => none)
  | .tup ts, v, l, H => (match unpk H v with | some vs => asgTs ts vs l H | none => none)
noncomputable def asgTs : List Tg → List V → Lo → Hp → Option (Lo × Hp)
  | [], [], l, H => some (l, H)
  | t :: ts, v :: vs, l, H => bndS (asgT t v l H) fun l H => asgTs ts vs l H
  | _, _, _, _ => none
end
end

noncomputable abbrev SR := Option (Fl × Lo × Hp)

noncomputable def whlN (t : Lo → Hp → Option (V × Hp)) (b : Lo → Hp → SR) : Nat → Lo → Hp → SR
  | 0, _, _ => none
  | n + 1, l, H => bnd (t l H) fun v H => (match v with
    | .bool false => some (.next, l, H)
    | .bool true => (match b l H with
      | some (.next, l, H) => whlN t b n l H
      | some (.cont, l, H) => whlN t b n l H
      | some (.brk, l, H) => some (.next, l, H)
      | some (.ret v, l, H) => some (.ret v, l, H)
      | none => none)
    | _ => none)
noncomputable def forN (t : CT) (b : Lo → Hp → SR) : Nat → It → Lo → Hp → SR
  | 0, _, _, _ => none
  | n + 1, it, l, H => match nextI H it with
    | none => none
    | some none => some (.next, l, H)
    | some (some (v, it')) => (match setCT t v l with
      | none => none
      | some l => (match b l H with
        | some (.next, l, H) => forN t b n it' l H
        | some (.cont, l, H) => forN t b n it' l H
        | some (.brk, l, H) => some (.next, l, H)
        | some (.ret v, l, H) => some (.ret v, l, H)
        | none => none))

section
variable (P : Pg) (call : CallT)
mutual
noncomputable def exS : MS → Lo → Hp → SR
  | .bad, _, _ => none
  | .expr e, l, H => bnd (evE P call e l H) fun _ H => some (.next, l, H)
  | .ret e, l, H => bnd (evE P call e l H) fun v H => some (.ret v, l, H)
  | .asg t e, l, H => bnd (evE P call e l H) fun v H => bndS (asgT (evE P call) t v l H) fun l H => some (.next, l, H)
  | .auga o a op e, l, H => bnd (evE P call o l H) fun o H => (match getA H o a with
    | some x => bnd (evE P call e l H) fun b H => (match augV op x b with | some r => (match setA H o a r with | some H => some (.next, l, H) | none => none) | none => none)
    | none => none)
  | .ife t b o, l, H => bnd (evE P call t l H) fun v H => (match v with | .bool true => exB b l H | .bool false => exB o l H | _ => none)
  | .whl t b, l, H => whlN (evE P call t) (fun l H => exB b l H) 1048576 l H
  | .for t e b, l, H => bnd (evE P call e l H) fun v H => (match iterV H v with
    | some it => forN t (fun l H => exB b l H) 1048576 it l H
    | none => none)
  | .brk, l, H => some (.brk, l, H)
  | .cont, l, H => some (.cont, l, H)
noncomputable def exB : List MS → Lo → Hp → SR
  | [], l, H => some (.next, l, H)
  | s :: r, l, H => match exS s l H with
    | some (.next, l, H) => exB r l H
    | x => x
end
end

noncomputable def callF (P : Pg) : Nat → CallT
  | 0, _, _, _ => none
  | d + 1, f, vs, H => match P.fns[f]? with
    | some fi => if vs.length = fi.np then (match exB P (callF P d) fi.body (vs.map some ++ List.replicate (fi.ns - fi.np) none) H with
      | some (.ret v, _, H) => some (v, H)
      | some (.next, _, H) => some (.none, H)
      | _ => none) else none
    | none => none

end Mine

namespace Mine

/-! The check: a term of the small Python against the text's own tree. -/

noncomputable def NMS : List Str := (["orders","pc","at","named","marks","calls","subject","host","history","values","limit","refused","width","steps","log","kind","owner","key","node","tree","number","told"] : List String).map Str.ofString
noncomputable def MMS : List Str := (["__init__","emit","put","begun","choice","repeat","bound","copied","run","way_back","done","met_once","ended","other","met_often","asked","value_of","assign","step"] : List String).map Str.ofString
noncomputable def CLSN : List Str := (["PatternCode","NameRef","Way","Match","PlainHost","Failure","Pattern","Delayed","SnobolError"] : List String).map Str.ofString
noncomputable def nmOf (a : Nat) : Str := NMS.getD a Str.empty
noncomputable def mmOf (a : Nat) : Str := MMS.getD (a - 100) Str.empty

/-- a slot of the locals: its name, whether it lies in a cell; none: not to be reached from here -/
noncomputable abbrev Sl := List (Option (Str × Bool))
noncomputable abbrev Nms := List (Str × NameKind)

noncomputable def kOf (c : Bool) : NameKind := if c then .cell else .local
noncomputable def isBad : ME → Bool
  | .bad => true
  | _ => false

/-- what a global name means -/
inductive GV where
  | fn (k : Nat) | val (v : V) | cls (c : Nat) | pr (p : Pr) | isi | typ (k : IK)

noncomputable def kindIs (k l : NameKind) : Bool := match k, l with
  | .local, .local => true
  | .cell, .cell => true
  | .free, .free => true
  | .globalImplicit, .globalImplicit => true
  | _, _ => false
noncomputable def nkOf (x : Str) : Nms → Option NameKind
  | [] => none
  | (y, k) :: r => if x == y then some k else nkOf x r
noncomputable def isLoc (nm : Nms) (sl : Sl) (i : Nat) (x : Str) : Bool := match sl[i]? with
  | some (some (y, c)) => x == y && (match nkOf x nm with | some k => kindIs k (kOf c) | none => false)
  | _ => false
noncomputable def isGlob (nm : Nms) (x : Str) : Bool := match nkOf x nm with | some k => kindIs k .globalImplicit | none => false

mutual
noncomputable def sameV : V → V → Bool
  | .none, .none => true
  | .bool a, .bool b => a == b
  | .int a, .int b => a == b
  | .str a, .str b => a == b
  | .fn a, .fn b => a == b
  | .tup a, .tup b => sameVs a b
  | _, _ => false
noncomputable def sameVs : List V → List V → Bool
  | [], [] => true
  | a :: r, b :: t => sameV a b && sameVs r t
  | _, _ => false
end
noncomputable def litC (v : V) (c : Const) : Bool := match v with
  | .none => (match c with | .none => true | _ => false)
  | .bool a => (match c with | .bool b => a == b | _ => false)
  | .int a => (match c with | .int b => a == b | _ => false)
  | .str a => (match c with | .str b => a == b.cps.toList && decide (a.length ≤ 1000) | _ => false)
  | _ => false
noncomputable def opIs (o : BOp) (p : Operator) : Bool := match o, p with
  | .add, .Add => true
  | .sub, .Sub => true
  | .mul, .Mult => true
  | .fdiv, .FloorDiv => true
  | .mod, .Mod => true
  | _, _ => false
noncomputable def copIs (o : COp) (p : CmpOp) : Bool := match o, p with
  | .eq, .Eq => true
  | .ne, .NotEq => true
  | .lt, .Lt => true
  | .le, .LtE => true
  | .gt, .Gt => true
  | .ge, .GtE => true
  | .is, .Is => true
  | .isnot, .IsNot => true
  | .isin, .In => true
  | .notin, .NotIn => true
  | _, _ => false
noncomputable def bmName : BM → Str
  | .append => Str.ofString "append"
  | .pop => Str.ofString "pop"
  | .extend => Str.ofString "extend"
  | .reverse => Str.ofString "reverse"
  | .join => Str.ofString "join"
  | .replace => Str.ofString "replace"
  | .startswith => Str.ofString "startswith"
  | .lstrip => Str.ofString "lstrip"
  | .split => Str.ofString "split"
  | .get => Str.ofString "get"
noncomputable def prName : Pr → Str
  | .len => Str.ofString "len"
  | .abs => Str.ofString "abs"
  | .int => Str.ofString "int"
  | .chr => Str.ofString "chr"
  | .ord => Str.ofString "ord"
  | .list => Str.ofString "list"
  | .range => Str.ofString "range"
  | .min => Str.ofString "min"
  | .str => Str.ofString "str"
noncomputable def ikName : IK → Str
  | .int => Str.ofString "int"
  | .str => Str.ofString "str"
  | .tuple => Str.ofString "tuple"
  | .cls k => CLSN.getD k Str.empty

noncomputable def noneLit : ME → Bool
  | .lit .none => true
  | _ => false
noncomputable def notStar : Expr → Bool
  | .Starred .. => false
  | _ => true
noncomputable def notSet : Expr → Bool
  | .Set .. => false
  | _ => true
/-- no call without arguments: it could be super() -/
noncomputable def notSuper : Expr → Bool
  | .Call (.Name _ _) [] [] _ => false
  | _ => true
noncomputable def notComp : Expr → Bool
  | .ListComp .. => false
  | .SetComp .. => false
  | .DictComp .. => false
  | _ => true
noncomputable def isStarred : Expr → Bool
  | .Starred .. => true
  | _ => false
noncomputable def locName (nm : Nms) (line : Nat) : Expr → Option Str
  | .Name id pos => if nm.lookup id == some .local && pos.line == line then some id else none
  | _ => none
noncomputable def tupQ (nm : Nms) (ts vs : List Expr) : Option (Option (List Str)) :=
    if !(ts.length == 2 || ts.length == 3) || vs.length != ts.length then some none
    else if vs.any isStarred then some none
    else
      let names := ts.filterMap (locName nm ((ts.head?.map (·.pos.line)).getD 0))
      if names.length != ts.length || names.eraseDups.length != names.length then some none
      else if vs.all (foldedForSure 8) then some none
      else if vs.all (constantsAlone 8) then none
      else some (some names)
/-- the names whose stores go backwards, if so; none: not to be told -/
noncomputable def swpQ (nm : Nms) (y x : Expr) : Option (Option (List Str)) := match y with
  | .Tuple ts _ _ => (match x with | .Tuple vs _ _ => tupQ nm ts vs | _ => some none)
  | .List .. => none
  | _ => some none
noncomputable def isSlice : Expr → Bool
  | .Slice .. => true
  | _ => false

/-- the names within a comprehension: what is free there and lies in a cell here, lies in a cell there -/
noncomputable def ownNm (nm out : Nms) : Nms := nm.map fun (n, k) => if kindIs k .free && (match nkOf n out with | some k' => kindIs k' .cell | none => false) then (n, .cell) else (n, k)
noncomputable def hideSl (sl : Sl) (nm : Nms) : Sl := sl.map fun s => match s with
  | some (x, true) => if (match nkOf x nm with | some k => kindIs k .free | none => false) then some (x, true) else none
  | _ => none
noncomputable def innerSl : Nms → Sl
  | [] => []
  | (x, k) :: r => if kindIs k .local && !(x == (Str.ofString ".0")) then some (x, false) :: innerSl r else innerSl r
noncomputable def strIn (x : Str) : List Str → Bool
  | [] => false
  | y :: r => x == y || strIn x r
noncomputable def ndStr : List Str → Bool
  | [] => true
  | x :: r => !strIn x r && ndStr r
noncomputable def ctGo (nm : Nms) (sl : Sl) : List Nat → List Expr → Bool
  | [], es => (match es with | [] => true | _ => false)
  | i :: is, es => (match es with | e :: r => (match e with | .Name x _ => isLoc nm sl i x && ctGo nm sl is r | _ => false) | [] => false)
noncomputable def ctIs (nm : Nms) (sl : Sl) (t : CT) (e : Expr) : Bool := match t with
  | .one i => (match e with | .Name x _ => isLoc nm sl i x | _ => false)
  | .many is => (match e with | .Tuple es _ _ => ctGo nm sl is es | _ => false)

noncomputable def flagF (sl : Sl) (i : Nat) : Bool := match sl[i]? with | some (some (_, false)) => true | _ => false
noncomputable def ctIn (sl : Sl) : CT → Bool
  | .one i => flagF sl i
  | .many is => is.all (flagF sl)
noncomputable def noDbg : Nms → Bool
  | [] => true
  | (x, _) :: r => !(x == (Str.ofString "__debug__")) && noDbg r
noncomputable def kindIs0 (sc : Scope) : Bool := noDbg sc.names &&  (match sc.kind with | .function => true | _ => false) && !sc.isGenerator && !sc.isCoroutine
noncomputable def hasSl (sl : Sl) (x : Str) : Bool := sl.any fun z => match z with | some (y, true) => y == x | _ => false
noncomputable def frees : Nms → Nms → Sl → Bool
  | [], _, _ => true
  | (x, k) :: r, nm, sl => (match k with
    | .local => true
    | .globalImplicit => true
    | .free => (match nkOf x nm with | some k' => kindIs k' .cell | none => false) && hasSl sl x
    | _ => false) && frees r nm sl
section
variable (G : Str → Option GV)
noncomputable def isLocs (nm : Nms) (sl : Sl) : List Nat → List Str → Bool
  | [], ns => (match ns with | [] => true | _ => false)
  | i :: is, ns => (match ns with | n :: ns => isLoc nm sl i n && isLocs nm sl is ns | [] => false)
noncomputable def locOf (t : Tg) : Option Nat := match t with | .loc i => some i | _ => none
noncomputable def swTs (nm : Nms) (sl : Sl) (ts : List Tg) (ns : List Str) : Bool := match ts with
  | [] => false
  | t :: ts => (match locOf t with
    | none => false
    | some i => (match ts with
      | [] => false
      | t :: ts => (match locOf t with
        | none => false
        | some j => (match ts with
          | [] => isLocs nm sl [i, j] ns
          | t :: ts => (match locOf t with
            | none => false
            | some k => (match ts with | [] => isLocs nm sl [i, j, k] ns | _ => false))))))
noncomputable def swOk (nm : Nms) (sl : Sl) (t : Tg) (r : Option (Option (List Str))) : Bool := match r with
  | some r => (match r with
    | none => true
    | some ns => (match t with | .tup ts => swTs nm sl ts ns | _ => false))
  | none => false
noncomputable def isiP (g : GV) : Bool := match g with
  | .isi => true
  | _ => false
noncomputable def ikP (k : IK) (g : GV) : Bool := match g with
  | .cls j => (match k with | .cls i => i == j | _ => false)
  | .pr _ => (match k with | .int => true | .str => true | _ => false)
  | .typ _ => (match k with | .tuple => true | _ => false)
  | _ => false
noncomputable def globP (v : V) (g : GV) : Bool := match g with
  | .fn k => (match v with | .fn j => k == j | _ => false)
  | .val u => sameV u v
  | _ => false
noncomputable def gIs (nm : Nms) (x : Str) (p : GV → Bool) : Bool := isGlob nm x && (match G x with | some g => p g | none => false)
mutual
noncomputable def chE : ME → Nms → Sl → Expr → Bool
  | .bad, _, _, _ => true
  | .lit v, _, _, e => (match e with | .Constant c _ _ => litC v c | _ => false)
  | .loc i, nm, sl, e => (match e with | .Name x _ => isLoc nm sl i x | _ => false)
  | .glob v, nm, _, e => (match e with | .Name x _ => gIs G nm x (globP v) | _ => false)
  | .tup es, nm, sl, e => (match e with | .Tuple xs _ _ => decide (es.length ≤ 100) && chL es nm sl xs | _ => false)
  | .lst es, nm, sl, e => (match e with | .List xs _ => decide (es.length ≤ 100) && chL es nm sl xs | _ => false)
  | .dict es, nm, sl, e => (match e with | .Dict ks vs _ => decide (vs.length ≤ 15) && chD es nm sl ks vs | _ => false)
  | .attr o a, nm, sl, e => (match e with | .Attribute x n _ => n == nmOf a && decide (a < 22) && notSuper x && chE o nm sl x | _ => false)
  | .idx o i, nm, sl, e => (match e with | .Subscript x s _ => !isSlice s && chE o nm sl x && chE i nm sl s | _ => false)
  | .slice o lo hi st, nm, sl, e => (match e with
    | .Subscript x y _ => (match y with
      | .Slice l u s _ => chE o nm sl x && (match l with | some l => chE lo nm sl l && !noneLit lo | none => noneLit lo) &&
        (match u with | some u => chE hi nm sl u && !noneLit hi | none => noneLit hi) && (match s with | some s => chE st nm sl s && !noneLit st | none => noneLit st)
      | _ => false)
    | _ => false)
  | .bin op a b, nm, sl, e => (match e with | .BinOp x o y _ => opIs op o && chE a nm sl x && chE b nm sl y | _ => false)
  | .neg a, nm, sl, e => (match e with | .UnaryOp o x _ => (match o with | .USub => chE a nm sl x | _ => false) | _ => false)
  | .not a, nm, sl, e => (match e with | .UnaryOp o x _ => (match o with | .Not => chE a nm sl x | _ => false) | _ => false)
  | .cmp op a b, nm, sl, e => (match e with | .Compare x os ys _ => (match os with | [o] => (match ys with | [y] => copIs op o && notSet y && chE a nm sl x && chE b nm sl y | _ => false) | _ => false) | _ => false)
  | .and es, nm, sl, e => (match e with | .BoolOp o xs _ => (match o with | .And => decide (2 ≤ xs.length) && chL es nm sl xs | _ => false) | _ => false)
  | .or es, nm, sl, e => (match e with | .BoolOp o xs _ => (match o with | .Or => decide (2 ≤ xs.length) && chL es nm sl xs | _ => false) | _ => false)
  | .ife t a b, nm, sl, e => (match e with | .IfExp x y z _ => chE t nm sl x && chE a nm sl y && chE b nm sl z | _ => false)
  | .call f es, nm, sl, e => (match e with | .Call f0 xs ks _ => (match f0 with | .Name x p => (match ks with | [] => chE f nm sl (.Name x p) && chL es nm sl xs | _ => false) | _ => false) | _ => false)
  | .new c es, nm, sl, e => (match e with | .Call f0 xs ks _ => (match f0 with | .Name x _ => (match ks with | [] => decide (c < 5) && gIs G nm x (fun g => match g with | .cls k => k == c | _ => false) && chL es nm sl xs | _ => false) | _ => false) | _ => false)
  | .meth o m es, nm, sl, e => (match e with | .Call f0 xs ks p => (match f0 with | .Attribute x n ap => (match ks with | [] => n == mmOf m && decide (100 ≤ m ∧ m < 119) && decide (xs.length < 20) && (ap.endLine == p.line) && notSuper x && chE o nm sl x && chL es nm sl xs | _ => false) | _ => false) | _ => false)
  | .bmeth o m es, nm, sl, e => (match e with | .Call f0 xs ks p => (match f0 with | .Attribute x n ap => (match ks with | [] => n == bmName m && decide (xs.length < 20) && (ap.endLine == p.line) && notSuper x && chE o nm sl x && chL es nm sl xs | _ => false) | _ => false) | _ => false)
  | .prim p es, nm, sl, e => (match e with | .Call f0 xs ks _ => (match f0 with | .Name x _ => (match ks with | [] => x == prName p && gIs G nm x (fun g => match g with | .pr _ => true | _ => false) && chL es nm sl xs | _ => false) | _ => false) | _ => false)
  | .isin o k, nm, sl, e => (match e with
    | .Call f0 xs ks _ => (match f0 with
      | .Name x _ => (match ks with
        | [] => (match xs with
          | [y, w] => (match w with
            | .Name z _ => gIs G nm x isiP && z == ikName k && gIs G nm z (ikP k) && notStar y && chE o nm sl y
            | _ => false)
          | _ => false)
        | _ => false)
      | _ => false)
    | _ => false)
  | .comp elt src t k cs, nm, sl, e => (match e with
    | .ListComp x [⟨tg, it, ifs, 0⟩] sc _ => notSet it && chE src nm sl it && (let nm' := ownNm sc.names nm; let sl' := hideSl sl sc.names ++ innerSl sc.names
        decide ((innerSl sc.names).length = k) && kindIs0 sc && ctIn sl' t && ctIs nm' sl' t tg && chL cs nm' sl' ifs && chE elt nm' sl' x && ndStr (sc.names.map (·.1)) && frees sc.names nm sl)
    | _ => false)
noncomputable def chL : List ME → Nms → Sl → List Expr → Bool
  | [], _, _, xs => (match xs with | [] => true | _ => false)
  | e :: r, nm, sl, xs => (match xs with | x :: ys => notStar x && chE e nm sl x && chL r nm sl ys | [] => false)
noncomputable def chD : List ME → Nms → Sl → List (Option Expr) → List Expr → Bool
  | [], _, _, ks, vs => (match ks with | [] => (match vs with | [] => true | _ => false) | _ => false)
  | [_], _, _, _, _ => false
  | k :: v :: r, nm, sl, ks, vs => (match ks with | x :: ks => (match x with | some x => (match vs with | y :: vs => chE k nm sl x && chE v nm sl y && chD r nm sl ks vs | _ => false) | _ => false) | _ => false)
end

mutual
noncomputable def chT : Tg → Nms → Sl → Expr → Bool
  | .loc i, nm, sl, e => (match e with | .Name x _ => isLoc nm sl i x | _ => false)
  | .attr o a, nm, sl, e => (match e with | .Attribute x n _ => n == nmOf a && decide (a < 22) && chE G o nm sl x | _ => false)
  | .idx o i, nm, sl, e => (match e with | .Subscript x s _ => !isSlice s && chE G o nm sl x && chE G i nm sl s | _ => false)
  | .tup ts, nm, sl, e => (match e with | .Tuple xs _ _ => chTs ts nm sl xs | _ => false)
noncomputable def chTs : List Tg → Nms → Sl → List Expr → Bool
  | [], _, _, xs => (match xs with | [] => true | _ => false)
  | t :: r, nm, sl, xs => (match xs with | x :: ys => chT t nm sl x && chTs r nm sl ys | [] => false)
end

/-- a comprehension assigned to a name -/
noncomputable def cmpS (nm : Nms) (y x : Expr) (t : Tg) : Bool := match y with
  | .Name n py => (match x with
    | .ListComp _ _ sc px => (match t with
      | .loc _ => nm.lookup n == some .local && py.line == px.line && !(sc.names.any fun (z, k) => z == n && (k == .local || k == .cell))
      | _ => false)
    | _ => false)
  | _ => false
noncomputable def asgS (nm : Nms) (sl : Sl) (t : Tg) (y x : Expr) : Bool := bif notComp x then swOk nm sl t (swpQ nm y x) else cmpS nm y x t
mutual
noncomputable def chS : MS → Nms → Sl → Stmt → Bool
  | .bad, _, _, _ => true
  | .expr e, nm, sl, s => (match s with | .Expr x _ => notComp x && chE G e nm sl x | _ => false)
  | .ret e, nm, sl, s => (match s with | .Return x _ => (match x with | some x => chE G e nm sl x | _ => false) | _ => false)
  | .asg t e, nm, sl, s => (match s with | .Assign ts x _ => (match ts with | y :: r => (match r with | [] => chT G t nm sl y && chE G e nm sl x && asgS nm sl t y x | _ => false) | [] => false) | _ => false)
  | .auga o a op e, nm, sl, s => (match s with | .AugAssign z p y _ => (match z with | .Attribute x n _ => opIs op p && n == nmOf a && decide (a < 22) && notSuper x && chE G o nm sl x && chE G e nm sl y | _ => false) | _ => false)
  | .ife t b o, nm, sl, s => (match s with | .If x y z _ => chE G t nm sl x && chB b nm sl y && chB o nm sl z | _ => false)
  | .whl t b, nm, sl, s => (match s with | .While x y o _ => (match o with | [] => chE G t nm sl x && chB b nm sl y | _ => false) | _ => false)
  | .for t e b, nm, sl, s => (match s with | .For y x z o _ => (match o with | [] => ctIs nm sl t y && notSet x && chE G e nm sl x && chB b nm sl z | _ => false) | _ => false)
  | .brk, _, _, s => (match s with | .Break _ => true | _ => false)
  | .cont, _, _, s => (match s with | .Continue _ => true | _ => false)
noncomputable def chB : List MS → Nms → Sl → List Stmt → Bool
  | [], _, _, xs => (match xs with | [] => true | _ => false)
  | s :: r, nm, sl, xs => (match xs with | x :: ys => chS s nm sl x && chB r nm sl ys | [] => false)
end
end

noncomputable def slotsOf : Nms → Sl
  | [] => []
  | (x, k) :: r => match k with
    | .local => some (x, false) :: slotsOf r
    | .cell => some (x, true) :: slotsOf r
    | _ => slotsOf r
noncomputable def argsAre : List Arg → Sl → Bool
  | [], _ => true
  | a :: r, some (x, _) :: t => a.arg == x && argsAre r t
  | _, _ => false
noncomputable def badBody : List MS → Bool
  | [.bad] => true
  | _ => false
noncomputable def chFd (G : Str → Option GV) (fi : FI) (fd : FuncData) : Bool :=
  fd.params.posonlyargs.isEmpty && fd.params.vararg.isNone && fd.params.kwonlyargs.isEmpty && fd.params.kwarg.isNone && (match fd.defaults with | .none => true | _ => false) &&
  fd.closure.isEmpty && fd.globals == mainGlobals && fd.builtins == builtinsNs && kindIs0 fd.scope && decide (fd.params.args.length = fi.np) && decide ((slotsOf fd.scope.names).length = fi.ns) &&
  argsAre fd.params.args (slotsOf fd.scope.names) && ndStr (fd.scope.names.map (·.1)) &&
  (match fd.body with | .stmts b => chB G fi.body fd.scope.names (slotsOf fd.scope.names) b | _ => false)
noncomputable def chK (G : Str → Option GV) (K : Frag) (fi : FI) (a : Addr) : Bool := badBody fi.body || (match K.lookup a with
  | some ⟨_, _, .func fd, _⟩ => chFd G fi fd && codeIn K fd.code fd.qualname
  | _ => false)
end Mine

namespace Mine

/-! What a check says of the tree, what a value says of its parts: small proofs, used by M11 and on. -/
theorem and2 {a b : Bool} (h : (a && b) = true) : a = true ∧ b = true := by
  cases a with
  | true => exact ⟨rfl, h⟩
  | false => cases h
theorem and3 {a b c : Bool} (h : (a && b && c) = true) : a = true ∧ b = true ∧ c = true := ⟨(and2 (and2 h).1).1, (and2 (and2 h).1).2, (and2 h).2⟩
theorem and4 {a b c d : Bool} (h : (a && b && c && d) = true) : a = true ∧ b = true ∧ c = true ∧ d = true := ⟨(and2 (and2 (and2 h).1).1).1, (and2 (and2 (and2 h).1).1).2, (and2 (and2 h).1).2, (and2 h).2⟩
section
variable {G : Str → Option GV} {nm : Nms} {sl : Sl} {x : Expr}
theorem is_Constant {f : Const → Nat → Pos → Bool} (c : (match x with | .Constant a b c => f a b c | _ => false) = true) : ∃ a b c, x = .Constant a b c ∧ f a b c = true := by
  cases x with
  | Constant => exact ⟨_, _, _, rfl, c⟩
  | _ => exact ff c
theorem is_Name {f : Str → Pos → Bool} (c : (match x with | .Name a b => f a b | _ => false) = true) : ∃ a b, x = .Name a b ∧ f a b = true := by
  cases x with
  | Name => exact ⟨_, _, rfl, c⟩
  | _ => exact ff c
theorem is_Tuple {f : List Expr → Nat → Pos → Bool} (c : (match x with | .Tuple a b c => f a b c | _ => false) = true) : ∃ a b c, x = .Tuple a b c ∧ f a b c = true := by
  cases x with
  | Tuple => exact ⟨_, _, _, rfl, c⟩
  | _ => exact ff c
theorem is_List {f : List Expr → Pos → Bool} (c : (match x with | .List a b => f a b | _ => false) = true) : ∃ a b, x = .List a b ∧ f a b = true := by
  cases x with
  | List => exact ⟨_, _, rfl, c⟩
  | _ => exact ff c
theorem is_Attribute {f : Expr → Str → Pos → Bool} (c : (match x with | .Attribute a b c => f a b c | _ => false) = true) : ∃ a b c, x = .Attribute a b c ∧ f a b c = true := by
  cases x with
  | Attribute => exact ⟨_, _, _, rfl, c⟩
  | _ => exact ff c
theorem is_Subscript {f : Expr → Expr → Pos → Bool} (c : (match x with | .Subscript a b c => f a b c | _ => false) = true) : ∃ a b c, x = .Subscript a b c ∧ f a b c = true := by
  cases x with
  | Subscript => exact ⟨_, _, _, rfl, c⟩
  | _ => exact ff c
theorem is_BinOp {f : Expr → Operator → Expr → Pos → Bool} (c : (match x with | .BinOp a b c d => f a b c d | _ => false) = true) : ∃ a b c d, x = .BinOp a b c d ∧ f a b c d = true := by
  cases x with
  | BinOp => exact ⟨_, _, _, _, rfl, c⟩
  | _ => exact ff c
theorem is_UnaryOp {f : UnaryOp → Expr → Pos → Bool} (c : (match x with | .UnaryOp a b c => f a b c | _ => false) = true) : ∃ a b c, x = .UnaryOp a b c ∧ f a b c = true := by
  cases x with
  | UnaryOp => exact ⟨_, _, _, rfl, c⟩
  | _ => exact ff c
theorem is_Compare {f : Expr → List CmpOp → List Expr → Pos → Bool} (c : (match x with | .Compare a b c d => f a b c d | _ => false) = true) : ∃ a b c d, x = .Compare a b c d ∧ f a b c d = true := by
  cases x with
  | Compare => exact ⟨_, _, _, _, rfl, c⟩
  | _ => exact ff c
theorem is_BoolOp {f : BoolOp → List Expr → Pos → Bool} (c : (match x with | .BoolOp a b c => f a b c | _ => false) = true) : ∃ a b c, x = .BoolOp a b c ∧ f a b c = true := by
  cases x with
  | BoolOp => exact ⟨_, _, _, rfl, c⟩
  | _ => exact ff c
theorem is_IfExp {f : Expr → Expr → Expr → Pos → Bool} (c : (match x with | .IfExp a b c d => f a b c d | _ => false) = true) : ∃ a b c d, x = .IfExp a b c d ∧ f a b c d = true := by
  cases x with
  | IfExp => exact ⟨_, _, _, _, rfl, c⟩
  | _ => exact ff c
theorem is_Call {f : Expr → List Expr → List Keyword → Pos → Bool} (c : (match x with | .Call a b c d => f a b c d | _ => false) = true) : ∃ a b c d, x = .Call a b c d ∧ f a b c d = true := by
  cases x with
  | Call => exact ⟨_, _, _, _, rfl, c⟩
  | _ => exact ff c
theorem one_of {α : Type} {l : List α} {f : α → Bool} (c : (match l with | [a] => f a | _ => false) = true) : ∃ a, l = [a] ∧ f a = true := by
  cases l with
  | nil => exact ff c
  | cons a r => cases r with
    | nil => exact ⟨a, rfl, c⟩
    | cons => exact ff c
theorem ch_lit {v : V} (c : chE G (.lit v) nm sl x = true) : ∃ k y z, x = .Constant k y z ∧ litC v k = true := is_Constant (f := fun k _ _ => litC v k) c
theorem ch_loc {i : Nat} (c : chE G (.loc i) nm sl x = true) : ∃ n p, x = .Name n p ∧ isLoc nm sl i n = true := is_Name (f := fun n _ => isLoc nm sl i n) c
theorem ch_glob {v : V} (c : chE G (.glob v) nm sl x = true) : ∃ n p, x = .Name n p ∧ gIs G nm n (globP v) = true := is_Name (f := fun n _ => gIs G nm n (globP v)) c
theorem ch_tup {es : List ME} (c : chE G (.tup es) nm sl x = true) : ∃ xs k p, x = .Tuple xs k p ∧ es.length ≤ 100 ∧ chL G es nm sl xs = true := by
  obtain ⟨a, b, d, h, c1_⟩ := is_Tuple (f := fun xs _ _ => decide (es.length ≤ 100) && chL G es nm sl xs) c
  exact ⟨a, b, d, h, of_decide_eq_true (and2 c1_).1, (and2 c1_).2⟩
theorem ch_lst {es : List ME} (c : chE G (.lst es) nm sl x = true) : ∃ xs p, x = .List xs p ∧ es.length ≤ 100 ∧ chL G es nm sl xs = true := by
  obtain ⟨a, b, h, c1_⟩ := is_List (f := fun xs _ => decide (es.length ≤ 100) && chL G es nm sl xs) c
  exact ⟨a, b, h, of_decide_eq_true (and2 c1_).1, (and2 c1_).2⟩
theorem ch_attr {o : ME} {a : Nat} (c : chE G (.attr o a) nm sl x = true) : ∃ y p, x = .Attribute y (nmOf a) p ∧ a < 22 ∧ notSuper y = true ∧ chE G o nm sl y = true := by
  obtain ⟨y, n, p, h, c1_⟩ := is_Attribute (f := fun x n _ => n == nmOf a && decide (a < 22) && notSuper x && chE G o nm sl x) c
  obtain ⟨c1, c2, c3, c4⟩ := and4 c1_
  cases beq_iff_eq.mp c1
  exact ⟨y, p, h, of_decide_eq_true c2, c3, c4⟩
theorem ch_idx {o i : ME} (c : chE G (.idx o i) nm sl x = true) : ∃ y s p, x = .Subscript y s p ∧ isSlice s = false ∧ chE G o nm sl y = true ∧ chE G i nm sl s = true := by
  obtain ⟨y, s, p, h, c1_⟩ := is_Subscript (f := fun x s _ => !isSlice s && chE G o nm sl x && chE G i nm sl s) c
  obtain ⟨c1, c2, c3⟩ := and3 c1_
  exact ⟨y, s, p, h, (by cases h : isSlice s with | false => rfl | true => rw [h] at c1; exact ff c1), c2, c3⟩
noncomputable def partC (G : Str → Option GV) (nm : Nms) (sl : Sl) (m : ME) (x : Option Expr) : Bool := match x with | some x => chE G m nm sl x && !noneLit m | none => noneLit m
theorem is_Slice {s : Expr} {f : Option Expr → Option Expr → Option Expr → Bool} (c : (match s with | .Slice l u s _ => f l u s | _ => false) = true) : ∃ l u t p, s = .Slice l u t p ∧ f l u t = true := by
  cases s with
  | Slice => exact ⟨_, _, _, _, rfl, c⟩
  | _ => exact ff c
theorem ch_slice {o lo hi st : ME} (c : chE G (.slice o lo hi st) nm sl x = true) : ∃ y l u s p q, x = .Subscript y (.Slice l u s p) q ∧ chE G o nm sl y = true ∧ partC G nm sl lo l = true ∧ partC G nm sl hi u = true ∧ partC G nm sl st s = true := by
  obtain ⟨y, s, q, h, c1_⟩ := is_Subscript (x := x) (f := fun y s _ => match s with | .Slice l u t _ => chE G o nm sl y && partC G nm sl lo l && partC G nm sl hi u && partC G nm sl st t | _ => false) c
  obtain ⟨l, u, t, p, h2, c2_⟩ := is_Slice (f := fun l u t => chE G o nm sl y && partC G nm sl lo l && partC G nm sl hi u && partC G nm sl st t) c1_
  subst h2
  exact ⟨y, l, u, t, p, q, h, and4 c2_⟩
theorem ch_bin {op : BOp} {a b : ME} (c : chE G (.bin op a b) nm sl x = true) : ∃ y o z p, x = .BinOp y o z p ∧ opIs op o = true ∧ chE G a nm sl y = true ∧ chE G b nm sl z = true := by
  obtain ⟨y, o, z, p, h, c1_⟩ := is_BinOp (f := fun x o y _ => opIs op o && chE G a nm sl x && chE G b nm sl y) c
  exact ⟨y, o, z, p, h, and3 c1_⟩
theorem un_USub {o : UnaryOp} {b : Bool} (c : (match o with | .USub => b | _ => false) = true) : o = .USub ∧ b = true := by
  cases o with
  | USub => exact ⟨rfl, c⟩
  | _ => exact ff c
theorem un_Not {o : UnaryOp} {b : Bool} (c : (match o with | .Not => b | _ => false) = true) : o = .Not ∧ b = true := by
  cases o with
  | Not => exact ⟨rfl, c⟩
  | _ => exact ff c
theorem ch_neg {a : ME} (c : chE G (.neg a) nm sl x = true) : ∃ y p, x = .UnaryOp .USub y p ∧ chE G a nm sl y = true := by
  obtain ⟨o, y, p, rfl, c1_⟩ := is_UnaryOp (f := fun o y _ => match o with | .USub => chE G a nm sl y | _ => false) c
  obtain ⟨rfl, c2_⟩ := un_USub c1_
  exact ⟨y, p, rfl, c2_⟩
theorem ch_not {a : ME} (c : chE G (.not a) nm sl x = true) : ∃ y p, x = .UnaryOp .Not y p ∧ chE G a nm sl y = true := by
  obtain ⟨o, y, p, rfl, c1_⟩ := is_UnaryOp (f := fun o y _ => match o with | .Not => chE G a nm sl y | _ => false) c
  obtain ⟨rfl, c2_⟩ := un_Not c1_
  exact ⟨y, p, rfl, c2_⟩
theorem ch_cmp {op : COp} {a b : ME} (c : chE G (.cmp op a b) nm sl x = true) : ∃ y o z p, x = .Compare y [o] [z] p ∧ copIs op o = true ∧ notSet z = true ∧ chE G a nm sl y = true ∧ chE G b nm sl z = true := by
  cases x with
  | Compare y os zs p =>
    cases os with
    | nil => exact ff c
    | cons o os => cases os with
      | cons => exact ff c
      | nil => cases zs with
        | nil => exact ff c
        | cons z zs => cases zs with
          | cons => exact ff c
          | nil => exact ⟨_, _, _, _, rfl, and4 c⟩
  | _ => exact ff c
theorem bo_And {o : BoolOp} {b : Bool} (c : (match o with | .And => b | _ => false) = true) : o = .And ∧ b = true := by
  cases o with
  | And => exact ⟨rfl, c⟩
  | _ => exact ff c
theorem bo_Or {o : BoolOp} {b : Bool} (c : (match o with | .Or => b | _ => false) = true) : o = .Or ∧ b = true := by
  cases o with
  | Or => exact ⟨rfl, c⟩
  | _ => exact ff c
theorem ch_and {es : List ME} (c : chE G (.and es) nm sl x = true) : ∃ xs p, x = .BoolOp .And xs p ∧ 2 ≤ xs.length ∧ chL G es nm sl xs = true := by
  obtain ⟨o, y, p, rfl, c1_⟩ := is_BoolOp (f := fun o xs _ => match o with | .And => decide (2 ≤ xs.length) && chL G es nm sl xs | _ => false) c
  obtain ⟨rfl, c2_⟩ := bo_And c1_
  exact ⟨y, p, rfl, of_decide_eq_true (and2 c2_).1, (and2 c2_).2⟩
theorem ch_or {es : List ME} (c : chE G (.or es) nm sl x = true) : ∃ xs p, x = .BoolOp .Or xs p ∧ 2 ≤ xs.length ∧ chL G es nm sl xs = true := by
  obtain ⟨o, y, p, rfl, c1_⟩ := is_BoolOp (f := fun o xs _ => match o with | .Or => decide (2 ≤ xs.length) && chL G es nm sl xs | _ => false) c
  obtain ⟨rfl, c2_⟩ := bo_Or c1_
  exact ⟨y, p, rfl, of_decide_eq_true (and2 c2_).1, (and2 c2_).2⟩
theorem ch_ife {t a b : ME} (c : chE G (.ife t a b) nm sl x = true) : ∃ y z w p, x = .IfExp y z w p ∧ chE G t nm sl y = true ∧ chE G a nm sl z = true ∧ chE G b nm sl w = true := by
  obtain ⟨y, o, z, p, h, c1_⟩ := is_IfExp (f := fun x y z _ => chE G t nm sl x && chE G a nm sl y && chE G b nm sl z) c
  exact ⟨y, o, z, p, h, and3 c1_⟩
theorem nil_of {α : Type} {l : List α} {b : Bool} (c : (match l with | [] => b | _ => false) = true) : l = [] ∧ b = true := by
  cases l with
  | nil => exact ⟨rfl, c⟩
  | cons => exact ff c
theorem name_call {P : Str → Pos → List Expr → Bool} (c : (match x with | .Call f xs ks _ => (match f with | .Name n p => (match ks with | [] => P n p xs | _ => false) | _ => false) | _ => false) = true) : ∃ n p xs q, x = .Call (.Name n p) xs [] q ∧ P n p xs = true := by
  obtain ⟨f, xs, ks, q, rfl, c1_⟩ := is_Call (f := fun f xs ks _ => (match f with | .Name n p => (match ks with | [] => P n p xs | _ => false) | _ => false)) c
  obtain ⟨n, p, rfl, c2_⟩ := is_Name (f := fun n p => (match (generalizing := false) ks with | [] => P n p xs | _ => false)) c1_
  cases ks with
  | nil => exact ⟨n, p, xs, q, rfl, c2_⟩
  | cons => exact ff c2_
theorem attr_call {P : Expr → Str → Pos → List Expr → Pos → Bool} (c : (match x with | .Call f xs ks p => (match f with | .Attribute y n ap => (match ks with | [] => P y n ap xs p | _ => false) | _ => false) | _ => false) = true) : ∃ y n ap xs p, x = .Call (.Attribute y n ap) xs [] p ∧ P y n ap xs p = true := by
  obtain ⟨f, xs, ks, q, rfl, c1_⟩ := is_Call (f := fun f xs ks p => (match f with | .Attribute y n ap => (match ks with | [] => P y n ap xs p | _ => false) | _ => false)) c
  obtain ⟨y, n, ap, rfl, c2_⟩ := is_Attribute (f := fun y n ap => (match (generalizing := false) ks with | [] => P y n ap xs q | _ => false)) c1_
  cases ks with
  | nil => exact ⟨y, n, ap, xs, q, rfl, c2_⟩
  | cons => exact ff c2_
theorem ch_call {f : ME} {es : List ME} (c : chE G (.call f es) nm sl x = true) : ∃ n p xs q, x = .Call (.Name n p) xs [] q ∧ chE G f nm sl (.Name n p) = true ∧ chL G es nm sl xs = true := by
  obtain ⟨n, p, xs, q, h, c1_⟩ := name_call (P := fun n p xs => chE G f nm sl (.Name n p) && chL G es nm sl xs) c
  exact ⟨n, p, xs, q, h, and2 c1_⟩
theorem ch_new {k : Nat} {es : List ME} (c : chE G (.new k es) nm sl x = true) : ∃ n p xs q, x = .Call (.Name n p) xs [] q ∧ k < 5 ∧ gIs G nm n (fun g => match g with | .cls j => j == k | _ => false) = true ∧ chL G es nm sl xs = true := by
  obtain ⟨n, p, xs, q, h, c1_⟩ := name_call (P := fun n p xs => decide (k < 5) && gIs G nm n (fun g => match g with | .cls j => j == k | _ => false) && chL G es nm sl xs) c
  obtain ⟨c1, c2, c3⟩ := and3 c1_
  exact ⟨n, p, xs, q, h, of_decide_eq_true c1, c2, c3⟩
theorem ch_prim {k : Pr} {es : List ME} (c : chE G (.prim k es) nm sl x = true) : ∃ p xs q, x = .Call (.Name (prName k) p) xs [] q ∧ gIs G nm (prName k) (fun g => match g with | .pr _ => true | _ => false) = true ∧ chL G es nm sl xs = true := by
  obtain ⟨n, p, xs, q, h, c1_⟩ := name_call (P := fun n p xs => n == prName k && gIs G nm n (fun g => match g with | .pr _ => true | _ => false) && chL G es nm sl xs) c
  obtain ⟨c1, c2, c3⟩ := and3 c1_
  cases beq_iff_eq.mp c1
  exact ⟨p, xs, q, h, c2, c3⟩
theorem ch_meth {o : ME} {m : Nat} {es : List ME} (c : chE G (.meth o m es) nm sl x = true) : ∃ y ap xs p, x = .Call (.Attribute y (mmOf m) ap) xs [] p ∧ (100 ≤ m ∧ m < 119) ∧ xs.length < 20 ∧ (ap.endLine == p.line) = true ∧ notSuper y = true ∧ chE G o nm sl y = true ∧ chL G es nm sl xs = true := by
  obtain ⟨y, n, ap, xs, p, h, c1_⟩ := attr_call (P := fun y n ap xs p => n == mmOf m && decide (100 ≤ m ∧ m < 119) && decide (xs.length < 20) && (ap.endLine == p.line) && notSuper y && chE G o nm sl y && chL G es nm sl xs) c
  obtain ⟨d1, c7⟩ := and2 c1_
  obtain ⟨d2, c6⟩ := and2 d1
  obtain ⟨d3, c5⟩ := and2 d2
  obtain ⟨c1, c2, c3, c4⟩ := and4 d3
  cases beq_iff_eq.mp c1
  exact ⟨y, ap, xs, p, h, of_decide_eq_true c2, of_decide_eq_true c3, c4, c5, c6, c7⟩
theorem ch_bmeth {o : ME} {m : BM} {es : List ME} (c : chE G (.bmeth o m es) nm sl x = true) : ∃ y ap xs p, x = .Call (.Attribute y (bmName m) ap) xs [] p ∧ xs.length < 20 ∧ (ap.endLine == p.line) = true ∧ notSuper y = true ∧ chE G o nm sl y = true ∧ chL G es nm sl xs = true := by
  obtain ⟨y, n, ap, xs, p, h, c1_⟩ := attr_call (P := fun y n ap xs p => n == bmName m && decide (xs.length < 20) && (ap.endLine == p.line) && notSuper y && chE G o nm sl y && chL G es nm sl xs) c
  obtain ⟨d1, c6⟩ := and2 c1_
  obtain ⟨d2, c5⟩ := and2 d1
  obtain ⟨c1, c3, c4, c5'⟩ := and4 d2
  cases beq_iff_eq.mp c1
  exact ⟨y, ap, xs, p, h, of_decide_eq_true c3, c4, c5', c5, c6⟩
theorem ch_isin {o : ME} {k : IK} (c : chE G (.isin o k) nm sl x = true) : ∃ n p y z pz q, x = .Call (.Name n p) [y, .Name z pz] [] q ∧ gIs G nm n isiP = true ∧ z = ikName k ∧ gIs G nm z (ikP k) = true ∧ notStar y = true ∧ chE G o nm sl y = true := by
  obtain ⟨n, p, xs, q, h, c1⟩ := name_call (P := fun n _ xs => match xs with | [y, w] => (match w with | .Name z _ => gIs G nm n isiP && z == ikName k && gIs G nm z (ikP k) && notStar y && chE G o nm sl y | _ => false) | _ => false) c
  cases xs with
  | nil => exact ff c1
  | cons y xs => cases xs with
    | nil => exact ff c1
    | cons w xs => cases xs with
      | cons => exact ff c1
      | nil =>
        obtain ⟨z, pz, hw, c2⟩ := is_Name (f := fun z _ => gIs G nm n isiP && z == ikName k && gIs G nm z (ikP k) && notStar y && chE G o nm sl y) c1
        subst hw
        obtain ⟨c3, c4⟩ := and2 c2
        obtain ⟨d1, d2, d3, d4⟩ := and4 c3
        exact ⟨n, p, y, z, pz, q, h, d1, beq_iff_eq.mp d2, d3, d4, c4⟩
theorem ch_dict {es : List ME} (c : chE G (.dict es) nm sl x = true) : ∃ ks us p, x = .Dict ks us p ∧ us.length ≤ 15 ∧ chD G es nm sl ks us = true := by
  cases x with
  | Dict ks us p => exact ⟨ks, us, p, rfl, of_decide_eq_true (and2 c).1, (and2 c).2⟩
  | _ => exact ff c
theorem ch_comp {elt src : ME} {t : CT} {k : Nat} {cs : List ME} (c : chE G (.comp elt src t k cs) nm sl x = true) : ∃ y tg it ifs sc p, x = .ListComp y [⟨tg, it, ifs, 0⟩] sc p := by
  cases x with
  | ListComp y gs sc p =>
    cases gs with
    | nil => exact ff c
    | cons g gs =>
      obtain ⟨tg, it, ifs, n⟩ := g
      cases n with
      | negSucc => exact ff c
      | ofNat n => cases n with
        | succ => exact ff c
        | zero => cases gs with
          | nil => exact ⟨y, tg, it, ifs, sc, p, rfl⟩
          | cons => exact ff c
  | _ => exact ff c
section
variable {s : Stmt}
theorem is_Expr {f : Expr → Pos → Bool} (c : (match s with | .Expr a b => f a b | _ => false) = true) : ∃ a b, s = .Expr a b ∧ f a b = true := by
  cases s with
  | Expr => exact ⟨_, _, rfl, c⟩
  | _ => exact ff c
theorem is_Return {f : Option Expr → Bool} (c : (match s with | .Return a _ => f a | _ => false) = true) : ∃ a b, s = .Return a b ∧ f a = true := by
  cases s with
  | Return => exact ⟨_, _, rfl, c⟩
  | _ => exact ff c
theorem is_Assign {f : List Expr → Expr → Bool} (c : (match s with | .Assign a b _ => f a b | _ => false) = true) : ∃ a b p, s = .Assign a b p ∧ f a b = true := by
  cases s with
  | Assign => exact ⟨_, _, _, rfl, c⟩
  | _ => exact ff c
theorem is_AugAssign {f : Expr → Operator → Expr → Bool} (c : (match s with | .AugAssign a b d _ => f a b d | _ => false) = true) : ∃ a b d p, s = .AugAssign a b d p ∧ f a b d = true := by
  cases s with
  | AugAssign => exact ⟨_, _, _, _, rfl, c⟩
  | _ => exact ff c
theorem is_If {f : Expr → List Stmt → List Stmt → Bool} (c : (match s with | .If a b d _ => f a b d | _ => false) = true) : ∃ a b d p, s = .If a b d p ∧ f a b d = true := by
  cases s with
  | If => exact ⟨_, _, _, _, rfl, c⟩
  | _ => exact ff c
theorem is_While {f : Expr → List Stmt → List Stmt → Bool} (c : (match s with | .While a b d _ => f a b d | _ => false) = true) : ∃ a b d p, s = .While a b d p ∧ f a b d = true := by
  cases s with
  | While => exact ⟨_, _, _, _, rfl, c⟩
  | _ => exact ff c
theorem is_For {f : Expr → Expr → List Stmt → List Stmt → Bool} (c : (match s with | .For a b d g _ => f a b d g | _ => false) = true) : ∃ a b d g p, s = .For a b d g p ∧ f a b d g = true := by
  cases s with
  | For => exact ⟨_, _, _, _, _, rfl, c⟩
  | _ => exact ff c
theorem cs_expr {e : ME} (c : chS G (.expr e) nm sl s = true) : ∃ x p, s = .Expr x p ∧ notComp x = true ∧ chE G e nm sl x = true := by
  obtain ⟨x, p, h, c⟩ := is_Expr (f := fun x _ => notComp x && chE G e nm sl x) c
  exact ⟨x, p, h, and2 c⟩
theorem cs_ret {e : ME} (c : chS G (.ret e) nm sl s = true) : ∃ x p, s = .Return (some x) p ∧ chE G e nm sl x = true := by
  obtain ⟨x, p, h, c⟩ := is_Return (f := fun x => match x with | some x => chE G e nm sl x | _ => false) c
  cases x with
  | none => exact ff c
  | some x => exact ⟨x, p, h, c⟩
theorem cs_asg {t : Tg} {e : ME} (c : chS G (.asg t e) nm sl s = true) : ∃ y x p, s = .Assign [y] x p ∧ chT G t nm sl y = true ∧ chE G e nm sl x = true ∧ asgS nm sl t y x = true := by
  obtain ⟨ts, x, p, h, c⟩ := is_Assign (f := fun ts x => match ts with | y :: r => (match r with | [] => chT G t nm sl y && chE G e nm sl x && asgS nm sl t y x | _ => false) | [] => false) c
  cases ts with
  | nil => exact ff c
  | cons y r => cases r with
    | nil => exact ⟨y, x, p, h, and3 c⟩
    | cons => exact ff c
theorem cmpS_inv {y : Expr} {t : Tg} (c : cmpS nm y x t = true) : ∃ n py e g sc px i, y = .Name n py ∧ x = .ListComp e g sc px ∧ t = .loc i ∧ (nm.lookup n == some .local && py.line == px.line && !(sc.names.any fun (z, k) => z == n && (k == .local || k == .cell))) = true := by
  cases y with
  | Name n py => cases x with
    | ListComp e g sc px => cases t with
      | loc i => exact ⟨n, py, e, g, sc, px, i, rfl, rfl, rfl, c⟩
      | _ => exact ff c
    | _ => exact ff c
  | _ => exact ff c
theorem cD_nil {ks : List (Option Expr)} {us : List Expr} (c : chD G [] nm sl ks us = true) : ks = [] ∧ us = [] := by
  cases ks with
  | nil => cases us with
    | nil => exact ⟨rfl, rfl⟩
    | cons => exact ff c
  | cons => exact ff c
theorem cs_auga {o : ME} {a : Nat} {op : BOp} {e : ME} (c : chS G (.auga o a op e) nm sl s = true) : ∃ x xp q y p, s = .AugAssign (.Attribute x (nmOf a) xp) q y p ∧ opIs op q = true ∧ a < 22 ∧ notSuper x = true ∧ chE G o nm sl x = true ∧ chE G e nm sl y = true := by
  obtain ⟨z, q, y, p, h, c⟩ := is_AugAssign (f := fun z q y => match z with | .Attribute x n _ => opIs op q && n == nmOf a && decide (a < 22) && notSuper x && chE G o nm sl x && chE G e nm sl y | _ => false) c
  obtain ⟨x, n, xp, hz, c⟩ := is_Attribute (f := fun x n _ => opIs op q && n == nmOf a && decide (a < 22) && notSuper x && chE G o nm sl x && chE G e nm sl y) c
  subst hz
  obtain ⟨c1, c6⟩ := and2 c
  obtain ⟨c2, c5⟩ := and2 c1
  obtain ⟨d1, d2, d3, d4⟩ := and4 c2
  cases beq_iff_eq.mp d2
  exact ⟨x, xp, q, y, p, h, d1, of_decide_eq_true d3, d4, c5, c6⟩
theorem cs_ife {t : ME} {b o : List MS} (c : chS G (.ife t b o) nm sl s = true) : ∃ x y z p, s = .If x y z p ∧ chE G t nm sl x = true ∧ chB G b nm sl y = true ∧ chB G o nm sl z = true := by
  obtain ⟨x, y, z, p, h, c⟩ := is_If (f := fun x y z => chE G t nm sl x && chB G b nm sl y && chB G o nm sl z) c
  exact ⟨x, y, z, p, h, and3 c⟩
theorem cs_whl {t : ME} {b : List MS} (c : chS G (.whl t b) nm sl s = true) : ∃ x y p, s = .While x y [] p ∧ chE G t nm sl x = true ∧ chB G b nm sl y = true := by
  obtain ⟨x, y, z, p, h, c⟩ := is_While (f := fun x y z => match z with | [] => chE G t nm sl x && chB G b nm sl y | _ => false) c
  cases z with
  | nil => exact ⟨x, y, p, h, and2 c⟩
  | cons => exact ff c
theorem cs_for {t : CT} {e : ME} {b : List MS} (c : chS G (.for t e b) nm sl s = true) : ∃ y x z p, s = .For y x z [] p ∧ ctIs nm sl t y = true ∧ notSet x = true ∧ chE G e nm sl x = true ∧ chB G b nm sl z = true := by
  obtain ⟨y, x, z, o, p, h, c⟩ := is_For (f := fun y x z o => match o with | [] => ctIs nm sl t y && notSet x && chE G e nm sl x && chB G b nm sl z | _ => false) c
  cases o with
  | nil => exact ⟨y, x, z, p, h, and4 c⟩
  | cons => exact ff c
theorem cs_brk (c : chS G .brk nm sl s = true) : ∃ p, s = .Break p := by
  cases s with
  | Break => exact ⟨_, rfl⟩
  | _ => exact ff c
theorem cs_cont (c : chS G .cont nm sl s = true) : ∃ p, s = .Continue p := by
  cases s with
  | Continue => exact ⟨_, rfl⟩
  | _ => exact ff c
theorem cb_nil {xs : List Stmt} (c : chB G [] nm sl xs = true) : xs = [] := by
  cases xs with
  | nil => rfl
  | cons => exact ff c
theorem cb_cons {st : MS} {b : List MS} {xs : List Stmt} (c : chB G (st :: b) nm sl xs = true) : ∃ x ys, xs = x :: ys ∧ chS G st nm sl x = true ∧ chB G b nm sl ys = true := by
  cases xs with
  | nil => exact ff c
  | cons x ys => exact ⟨x, ys, rfl, and2 c⟩
theorem cT_loc {i : Nat} (c : chT G (.loc i) nm sl x = true) : ∃ n p, x = .Name n p ∧ isLoc nm sl i n = true := is_Name (f := fun n _ => isLoc nm sl i n) c
theorem cT_attr {o : ME} {a : Nat} (c : chT G (.attr o a) nm sl x = true) : ∃ y p, x = .Attribute y (nmOf a) p ∧ a < 22 ∧ chE G o nm sl y = true := by
  obtain ⟨y, n, p, h, c⟩ := is_Attribute (f := fun x n _ => n == nmOf a && decide (a < 22) && chE G o nm sl x) c
  obtain ⟨c1, c2, c3⟩ := and3 c
  cases beq_iff_eq.mp c1
  exact ⟨y, p, h, of_decide_eq_true c2, c3⟩
theorem cT_idx {o i : ME} (c : chT G (.idx o i) nm sl x = true) : ∃ y s p, x = .Subscript y s p ∧ isSlice s = false ∧ chE G o nm sl y = true ∧ chE G i nm sl s = true := by
  obtain ⟨y, s, p, h, c1_⟩ := is_Subscript (f := fun x s _ => !isSlice s && chE G o nm sl x && chE G i nm sl s) c
  obtain ⟨c1, c2, c3⟩ := and3 c1_
  exact ⟨y, s, p, h, (by cases h : isSlice s with | false => rfl | true => rw [h] at c1; exact ff c1), c2, c3⟩
theorem cT_tup {ts : List Tg} (c : chT G (.tup ts) nm sl x = true) : ∃ xs k p, x = .Tuple xs k p ∧ chTs G ts nm sl xs = true := is_Tuple (f := fun xs _ _ => chTs G ts nm sl xs) c
theorem cTs_nil {xs : List Expr} (c : chTs G [] nm sl xs = true) : xs = [] := by
  cases xs with
  | nil => rfl
  | cons => exact ff c
theorem cTs_cons {t : Tg} {ts : List Tg} {xs : List Expr} (c : chTs G (t :: ts) nm sl xs = true) : ∃ x ys, xs = x :: ys ∧ chT G t nm sl x = true ∧ chTs G ts nm sl ys = true := by
  cases xs with
  | nil => exact ff c
  | cons x ys => exact ⟨x, ys, rfl, and2 c⟩
theorem go_nil {xs : List Expr} (c : ctGo nm sl [] xs = true) : xs = [] := by
  cases xs with
  | nil => rfl
  | cons => exact ff c
theorem go_cons {i : Nat} {is : List Nat} {xs : List Expr} (c : ctGo nm sl (i :: is) xs = true) : ∃ n p ys, xs = .Name n p :: ys ∧ isLoc nm sl i n = true ∧ ctGo nm sl is ys = true := by
  cases xs with
  | nil => exact ff c
  | cons x ys =>
    obtain ⟨n, p, h, c⟩ := is_Name (x := x) (f := fun n _ => isLoc nm sl i n && ctGo nm sl is ys) c
    subst h
    exact ⟨n, p, ys, rfl, and2 c⟩
theorem ct_one {i : Nat} (c : ctIs nm sl (.one i) x = true) : ∃ n p, x = .Name n p ∧ isLoc nm sl i n = true := is_Name (f := fun n _ => isLoc nm sl i n) c
theorem ct_many {is : List Nat} (c : ctIs nm sl (.many is) x = true) : ∃ xs k p, x = .Tuple xs k p ∧ ctGo nm sl is xs = true := is_Tuple (f := fun xs _ _ => ctGo nm sl is xs) c
end
end
section
variable {P : Pg} {call : CallT} {l : Lo} {H H' : Hp} {v : V}
theorem bnd_some {α β : Type} {m : Option (α × Hp)} {f : α → Hp → Option β} {r : β} (e : bnd m f = some r) : ∃ a H, m = some (a, H) ∧ f a H = some r := by
  unfold bnd at e
  split at e
  · exact ⟨_, _, rfl, e⟩
  · exact nn e
theorem bad_e : evE P call .bad l H = none := rfl
theorem ev_lit {u : V} (e : evE P call (.lit u) l H = some (v, H')) : u = v ∧ H = H' := by
  have e : some (u, H) = some (v, H') := e
  cases e; exact ⟨rfl, rfl⟩
theorem ev_glob {u : V} (e : evE P call (.glob u) l H = some (v, H')) : u = v ∧ H = H' := by
  have e : some (u, H) = some (v, H') := e
  cases e; exact ⟨rfl, rfl⟩
theorem ev_loc {i : Nat} (e : evE P call (.loc i) l H = some (v, H')) : l[i]? = some (some v) ∧ H = H' := by
  have e : (match l[i]? with | some (some v) => some (v, H) | _ => none) = some (v, H') := e
  cases h : l[i]? with
  | none => rw [h] at e; exact nn e
  | some o => cases o with
    | none => rw [h] at e; exact nn e
    | some u => rw [h] at e; cases e; exact ⟨rfl, rfl⟩
theorem ev_tup {es : List ME} (e : evE P call (.tup es) l H = some (v, H')) : ∃ vs, evL P call es l H = some (vs, H') ∧ v = .tup vs := by
  obtain ⟨vs, H1, e1, e⟩ := bnd_some (m := evL P call es l H) (f := fun vs H => some (V.tup vs, H)) e
  cases e; exact ⟨vs, e1, rfl⟩
theorem ev_lst {es : List ME} (e : evE P call (.lst es) l H = some (v, H')) : ∃ vs H1, evL P call es l H = some (vs, H1) ∧ v = .loc H1.length ∧ H' = H1 ++ [.list vs] := by
  obtain ⟨vs, H1, e1, e⟩ := bnd_some (m := evL P call es l H) (f := fun vs H => some (V.loc H.length, H ++ [O.list vs])) e
  cases e; exact ⟨vs, H1, e1, rfl, rfl⟩
theorem ev_attr {o : ME} {a : Nat} (e : evE P call (.attr o a) l H = some (v, H')) : ∃ ov, evE P call o l H = some (ov, H') ∧ getA H' ov a = some v := by
  obtain ⟨ov, H1, e1, e⟩ := bnd_some (m := evE P call o l H) (f := fun o H => (match getA H o a with | some v => some (v, H) | none => none)) e
  cases h : getA H1 ov a with
  | none => rw [h] at e; exact nn e
  | some u => rw [h] at e; cases e; exact ⟨ov, e1, h⟩
theorem ev_idx {o i : ME} (e : evE P call (.idx o i) l H = some (v, H')) : ∃ ov H1 iv, evE P call o l H = some (ov, H1) ∧ evE P call i l H1 = some (iv, H') ∧ idxV H' ov iv = some v := by
  obtain ⟨ov, H1, e1, e⟩ := bnd_some (m := evE P call o l H) (f := fun o H => bnd (evE P call i l H) fun i H => (match idxV H o i with | some v => some (v, H) | none => none)) e
  obtain ⟨iv, H2, e2, e⟩ := bnd_some (m := evE P call i l H1) e
  cases h : idxV H2 ov iv with
  | none => rw [h] at e; exact nn e
  | some u => rw [h] at e; cases e; exact ⟨ov, H1, iv, e1, e2, h⟩
theorem ev_slice {o lo hi st : ME} {r : V × Hp} (e : evE P call (.slice o lo hi st) l H = some r) : ∃ ov H1 lv H2 uv H3 tv H4, evE P call o l H = some (ov, H1) ∧ evE P call lo l H1 = some (lv, H2) ∧ evE P call hi l H2 = some (uv, H3) ∧ evE P call st l H3 = some (tv, H4) ∧ sliceV ov lv uv tv H4 = some r := by
  obtain ⟨ov, H1, e1, e⟩ := bnd_some (m := evE P call o l H) (f := fun o H => bnd (evE P call lo l H) fun lo H => bnd (evE P call hi l H) fun hi H => bnd (evE P call st l H) fun st H => sliceV o lo hi st H) e
  obtain ⟨lv, H2, e2, e⟩ := bnd_some (m := evE P call lo l H1) e
  obtain ⟨uv, H3, e3, e⟩ := bnd_some (m := evE P call hi l H2) e
  obtain ⟨tv, H4, e4, e⟩ := bnd_some (m := evE P call st l H3) e
  exact ⟨ov, H1, lv, H2, uv, H3, tv, H4, e1, e2, e3, e4, e⟩
theorem ev_bin {op : BOp} {a b : ME} {r : V × Hp} (e : evE P call (.bin op a b) l H = some r) : ∃ x H1 y H2, evE P call a l H = some (x, H1) ∧ evE P call b l H1 = some (y, H2) ∧ binV op x y H2 = some r := by
  obtain ⟨ov, H1, e1, e⟩ := bnd_some (m := evE P call a l H) (f := fun a H => bnd (evE P call b l H) fun b H => binV op a b H) e
  obtain ⟨iv, H2, e2, e⟩ := bnd_some (m := evE P call b l H1) e
  exact ⟨ov, H1, iv, H2, e1, e2, e⟩
theorem ev_neg {a : ME} (e : evE P call (.neg a) l H = some (v, H')) : ∃ i, evE P call a l H = some (.int i, H') ∧ v = .int (-i) := by
  obtain ⟨ov, H1, e1, e⟩ := bnd_some (m := evE P call a l H) (f := fun a H => (match a with | .int i => some (V.int (-i), H) | _ => none)) e
  cases ov <;> first | (cases e; exact ⟨_, e1, rfl⟩) | exact nn e
theorem ev_not {a : ME} (e : evE P call (.not a) l H = some (v, H')) : ∃ b, evE P call a l H = some (.bool b, H') ∧ v = .bool (!b) := by
  obtain ⟨ov, H1, e1, e⟩ := bnd_some (m := evE P call a l H) (f := fun a H => (match a with | .bool b => some (V.bool (!b), H) | _ => none)) e
  cases ov <;> first | (cases e; exact ⟨_, e1, rfl⟩) | exact nn e
theorem opt_bool {o : Option Bool} {H : Hp} {r : V × Hp} (e : (match o with | some r => some (V.bool r, H) | none => none) = some r) : ∃ b, o = some b ∧ (V.bool b, H) = r := by
  cases o with
  | none => exact nn e
  | some b => exact ⟨b, rfl, Option.some.inj e⟩
theorem ev_cmp {op : COp} {a b : ME} {r : V × Hp} (e : evE P call (.cmp op a b) l H = some r) : ∃ x H1 y H2 q, evE P call a l H = some (x, H1) ∧ evE P call b l H1 = some (y, H2) ∧ cmpV H2 op x y = some q ∧ (V.bool q, H2) = r := by
  obtain ⟨ov, H1, e1, e⟩ := bnd_some (m := evE P call a l H) (f := fun a H => bnd (evE P call b l H) fun b H => (match cmpV H op a b with | some r => some (V.bool r, H) | none => none)) e
  obtain ⟨iv, H2, e2, e⟩ := bnd_some (m := evE P call b l H1) e
  obtain ⟨q, h, e⟩ := opt_bool e
  exact ⟨ov, H1, iv, H2, q, e1, e2, h, e⟩
theorem ev_ife {t a b : ME} {r : V × Hp} (e : evE P call (.ife t a b) l H = some r) : ∃ H1, (evE P call t l H = some (.bool true, H1) ∧ evE P call a l H1 = some r) ∨ (evE P call t l H = some (.bool false, H1) ∧ evE P call b l H1 = some r) := by
  obtain ⟨ov, H1, e1, e⟩ := bnd_some (m := evE P call t l H) (f := fun t H => (match t with | .bool true => evE P call a l H | .bool false => evE P call b l H | _ => none)) e
  cases ov with
  | bool q => cases q with
    | true => exact ⟨H1, .inl ⟨e1, e⟩⟩
    | false => exact ⟨H1, .inr ⟨e1, e⟩⟩
  | _ => exact nn e
theorem ev_call {f : ME} {es : List ME} {r : V × Hp} (e : evE P call (.call f es) l H = some r) : ∃ k H1 vs H2, evE P call f l H = some (.fn k, H1) ∧ evL P call es l H1 = some (vs, H2) ∧ call k vs H2 = some r := by
  obtain ⟨ov, H1, e1, e⟩ := bnd_some (m := evE P call f l H) (f := fun f H => bnd (evL P call es l H) fun vs H => (match f with | .fn k => call k vs H | _ => none)) e
  obtain ⟨vs, H2, e2, e⟩ := bnd_some (m := evL P call es l H1) e
  cases ov <;> first | exact ⟨_, _, _, _, e1, e2, e⟩ | exact nn e
theorem ev_new {c : Nat} {es : List ME} (e : evE P call (.new c es) l H = some (v, H')) : ∃ vs H1 ci, evL P call es l H = some (vs, H1) ∧ P.cls[c]? = some ci ∧ call ci.init (.loc H1.length :: vs) (H1 ++ [.inst c []]) = some (.none, H') ∧ v = .loc H1.length := by
  obtain ⟨vs, H1, e1, e⟩ := bnd_some (m := evL P call es l H) (f := fun vs H => (match P.cls[c]? with
    | some ci => bnd (call ci.init (.loc H.length :: vs) (H ++ [.inst c []])) fun r H' => (match r with | .none => some (V.loc H.length, H') | _ => none)
    | none => none)) e
  cases h : P.cls[c]? with
  | none => rw [h] at e; exact nn e
  | some ci =>
    rw [h] at e
    obtain ⟨r, H2, e2, e⟩ := bnd_some (m := call ci.init (.loc H1.length :: vs) (H1 ++ [.inst c []])) e
    cases r <;> first | (cases e; exact ⟨vs, H1, ci, e1, rfl, e2, rfl⟩) | exact nn e
theorem ev_meth {o : ME} {m : Nat} {es : List ME} {r : V × Hp} (e : evE P call (.meth o m es) l H = some r) : ∃ n H1 c fs ci k vs H2, evE P call o l H = some (.loc n, H1) ∧ H1[n]? = some (.inst c fs) ∧ P.cls[c]? = some ci ∧ lookN m ci.meths = some k ∧ evL P call es l H1 = some (vs, H2) ∧ call k (.loc n :: vs) H2 = some r := by
  obtain ⟨ov, H1, e1, e⟩ := bnd_some (m := evE P call o l H) (f := fun o H => (match o with
    | .loc n => (match H[n]? with
      | some (.inst c _) => (match P.cls[c]? with
        | some ci => (match lookN m ci.meths with
          | some k => bnd (evL P call es l H) fun vs H => call k (o :: vs) H
          | none => none)
        | none => none)
      | _ => none)
    | _ => none)) e
  cases ov with
  | loc n =>
    dsimp only at e
    cases h : H1[n]? with
    | none => rw [h] at e; exact nn e
    | some ob => cases ob with
      | inst c fs =>
        rw [h] at e
        dsimp only at e
        cases h2 : P.cls[c]? with
        | none => rw [h2] at e; exact nn e
        | some ci =>
          rw [h2] at e
          dsimp only at e
          cases h3 : lookN m ci.meths with
          | none => rw [h3] at e; exact nn e
          | some k =>
            rw [h3] at e
            obtain ⟨vs, H2, e2, e⟩ := bnd_some e
            exact ⟨n, H1, c, fs, ci, k, vs, H2, e1, h, h2, h3, e2, e⟩
      | _ => rw [h] at e; exact nn e
  | _ => exact nn e
theorem ev_bmeth {o : ME} {m : BM} {es : List ME} {r : V × Hp} (e : evE P call (.bmeth o m es) l H = some r) : ∃ ov H1 vs H2, evE P call o l H = some (ov, H1) ∧ bmK m ov H1 = true ∧ evL P call es l H1 = some (vs, H2) ∧ bmV m ov vs H2 = some r := by
  obtain ⟨ov, H1, e1, e⟩ := bnd_some (m := evE P call o l H) (f := fun o H => if bmK m o H then bnd (evL P call es l H) fun vs H => bmV m o vs H else none) e
  cases h : bmK m ov H1 with
  | false => rw [h] at e; exact nn e
  | true =>
    rw [h] at e
    obtain ⟨vs, H2, e2, e⟩ := bnd_some (m := evL P call es l H1) e
    exact ⟨ov, H1, vs, H2, e1, h, e2, e⟩
theorem ev_prim {p : Pr} {es : List ME} {r : V × Hp} (e : evE P call (.prim p es) l H = some r) : ∃ vs H1, evL P call es l H = some (vs, H1) ∧ primV p vs H1 = some r :=
  bnd_some (m := evL P call es l H) (f := fun vs H => primV p vs H) e
theorem ev_isin {o : ME} {k : IK} (e : evE P call (.isin o k) l H = some (v, H')) : ∃ ov b, evE P call o l H = some (ov, H') ∧ isV ov k = some b ∧ v = .bool b := by
  obtain ⟨ov, H1, e1, e⟩ := bnd_some (m := evE P call o l H) (f := fun v H => (match isV v k with | some b => some (V.bool b, H) | none => none)) e
  obtain ⟨b, h, e⟩ := opt_bool e
  cases e; exact ⟨ov, b, e1, h, rfl⟩
theorem ev_comp {elt src : ME} {t : CT} {k : Nat} {cs : List ME} (e : evE P call (.comp elt src t k cs) l H = some (v, H')) : ∃ sv H1 itr vs H2, evE P call src l H = some (sv, H1) ∧ iterV H1 sv = some itr ∧ compN (fun l H => evC P call cs l H) (fun l H => evE P call elt l H) t (l ++ List.replicate k none) 1048576 itr [] H1 = some (vs, H2) ∧ vs.length ≤ lim ∧ v = .loc H2.length ∧ H' = H2 ++ [.list vs] := by
  obtain ⟨sv, H1, e1, e⟩ := bnd_some (m := evE P call src l H) (f := fun s H => (match iterV H s with
    | some it => bnd (compN (fun l H => evC P call cs l H) (fun l H => evE P call elt l H) t (l ++ List.replicate k none) 1048576 it [] H) fun vs H =>
        if vs.length ≤ lim then some (V.loc H.length, H ++ [O.list vs]) else none
    | none => none)) e
  cases h : iterV H1 sv with
  | none => rw [h] at e; exact nn e
  | some itr =>
    rw [h] at e
    obtain ⟨vs, H2, e2, e⟩ := bnd_some e
    by_cases hl : vs.length ≤ lim
    · rw [if_pos hl] at e
      cases e
      exact ⟨sv, H1, itr, vs, H2, e1, h, e2, hl, rfl, rfl⟩
    · rw [if_neg hl] at e; exact nn e
theorem ev_dict {es : List ME} (e : evE P call (.dict es) l H = some (v, H')) : ∃ ds H1, evD P call es l H = some (ds, H1) ∧ v = .loc H1.length ∧ H' = H1 ++ [.dict ds] := by
  obtain ⟨vs, H1, e1, e⟩ := bnd_some (m := evD P call es l H) (f := fun vs H => some (V.loc H.length, H ++ [O.dict vs])) e
  cases e; exact ⟨vs, H1, e1, rfl, rfl⟩
theorem bndS_some {β : Type} {m : Option (Lo × Hp)} {f : Lo → Hp → Option β} {r : β} (e : bndS m f = some r) : ∃ l H, m = some (l, H) ∧ f l H = some r := by
  cases m with
  | none => exact nn e
  | some z => exact ⟨z.1, z.2, rfl, e⟩
section
variable {r : Fl × Lo × Hp}
theorem ex_expr {e0 : ME} (e : exS P call (.expr e0) l H = some r) : ∃ v H1, evE P call e0 l H = some (v, H1) ∧ (Fl.next, l, H1) = r := by
  obtain ⟨v, H1, e1, e⟩ := bnd_some (m := evE P call e0 l H) (f := fun _ H => (some (Fl.next, l, H) : SR)) e
  exact ⟨v, H1, e1, Option.some.inj e⟩
theorem ex_ret {e0 : ME} (e : exS P call (.ret e0) l H = some r) : ∃ v H1, evE P call e0 l H = some (v, H1) ∧ (Fl.ret v, l, H1) = r := by
  obtain ⟨v, H1, e1, e⟩ := bnd_some (m := evE P call e0 l H) (f := fun v H => (some (Fl.ret v, l, H) : SR)) e
  exact ⟨v, H1, e1, Option.some.inj e⟩
theorem ex_asg {t : Tg} {e0 : ME} (e : exS P call (.asg t e0) l H = some r) : ∃ v H1 l1 H2, evE P call e0 l H = some (v, H1) ∧ asgT (evE P call) t v l H1 = some (l1, H2) ∧ (Fl.next, l1, H2) = r := by
  obtain ⟨v, H1, e1, e⟩ := bnd_some (m := evE P call e0 l H) (f := fun v H => bndS (asgT (evE P call) t v l H) fun l H => (some (Fl.next, l, H) : SR)) e
  obtain ⟨l1, H2, e2, e⟩ := bndS_some (m := asgT (evE P call) t v l H1) e
  exact ⟨v, H1, l1, H2, e1, e2, Option.some.inj e⟩
theorem ex_ife {t : ME} {b o : List MS} (e : exS P call (.ife t b o) l H = some r) : ∃ H1, (evE P call t l H = some (.bool true, H1) ∧ exB P call b l H1 = some r) ∨ (evE P call t l H = some (.bool false, H1) ∧ exB P call o l H1 = some r) := by
  obtain ⟨v, H1, e1, e⟩ := bnd_some (m := evE P call t l H) (f := fun v H => (match v with | .bool true => exB P call b l H | .bool false => exB P call o l H | _ => none)) e
  cases v with
  | bool q => cases q with
    | true => exact ⟨H1, .inl ⟨e1, e⟩⟩
    | false => exact ⟨H1, .inr ⟨e1, e⟩⟩
  | _ => exact nn e
theorem ex_for {t : CT} {e0 : ME} {b : List MS} (e : exS P call (.for t e0 b) l H = some r) : ∃ v H1 it, evE P call e0 l H = some (v, H1) ∧ iterV H1 v = some it ∧ forN t (fun l H => exB P call b l H) 1048576 it l H1 = some r := by
  obtain ⟨v, H1, e1, e⟩ := bnd_some (m := evE P call e0 l H) (f := fun v H => (match iterV H v with
    | some it => forN t (fun l H => exB P call b l H) 1048576 it l H
    | none => none)) e
  cases h : iterV H1 v with
  | none => rw [h] at e; exact nn e
  | some it => rw [h] at e; exact ⟨v, H1, it, e1, h, e⟩
theorem ex_auga {o : ME} {a : Nat} {op : BOp} {e0 : ME} (e : exS P call (.auga o a op e0) l H = some r) : ∃ ov H1 u b H2 q H3, evE P call o l H = some (ov, H1) ∧ getA H1 ov a = some u ∧ evE P call e0 l H1 = some (b, H2) ∧ augV op u b = some q ∧ setA H2 ov a q = some H3 ∧ (Fl.next, l, H3) = r := by
  obtain ⟨ov, H1, e1, e⟩ := bnd_some (m := evE P call o l H) (f := fun o H => (match getA H o a with
    | some x => bnd (evE P call e0 l H) fun b H => (match augV op x b with | some r => (match setA H o a r with | some H => (some (.next, l, H) : SR) | none => none) | none => none)
    | none => none)) e
  cases h : getA H1 ov a with
  | none => rw [h] at e; exact nn e
  | some u =>
    rw [h] at e
    obtain ⟨b, H2, e2, e⟩ := bnd_some (m := evE P call e0 l H1) e
    cases h2 : augV op u b with
    | none => rw [h2] at e; exact nn e
    | some q =>
      rw [h2] at e
      dsimp only at e
      cases h3 : setA H2 ov a q with
      | none => rw [h3] at e; exact nn e
      | some H3 => rw [h3] at e; exact ⟨ov, H1, u, b, H2, q, H3, e1, h, e2, h2, h3, Option.some.inj e⟩
end
section
variable {ev : ME → Lo → Hp → Option (V × Hp)} {l1 : Lo}
theorem as_attr {o : ME} {a : Nat} (e : asgT ev (.attr o a) v l H = some (l1, H')) : ∃ ov H1, ev o l H = some (ov, H1) ∧ setA H1 ov a v = some H' ∧ l = l1 := by
  obtain ⟨ov, H1, e1, e⟩ := bnd_some (m := ev o l H) (f := fun o H => (match setA H o a v with | some H => some (l, H) | none => none)) e
  cases h : setA H1 ov a v with
  | none => rw [h] at e; exact nn e
  | some H2 => rw [h] at e; cases e; exact ⟨ov, H1, e1, h, rfl⟩
theorem as_idx {o i : ME} (e : asgT ev (.idx o i) v l H = some (l1, H')) : ∃ ov H1 iv H2, ev o l H = some (ov, H1) ∧ ev i l H1 = some (iv, H2) ∧ setI H2 ov iv v = some H' ∧ l = l1 := by
  obtain ⟨ov, H1, e1, e⟩ := bnd_some (m := ev o l H) (f := fun o H => bnd (ev i l H) fun i H => (match setI H o i v with | some H => some (l, H) | none => none)) e
  obtain ⟨iv, H2, e2, e⟩ := bnd_some (m := ev i l H1) e
  cases h : setI H2 ov iv v with
  | none => rw [h] at e; exact nn e
  | some H3 => rw [h] at e; cases e; exact ⟨ov, H1, iv, H2, e1, e2, h, rfl⟩
theorem as_tup {ts : List Tg} {r : Lo × Hp} (e : asgT ev (.tup ts) v l H = some r) : ∃ vs, unpk H v = some vs ∧ asgTs ev ts vs l H = some r := by
  have e : (match unpk H v with | some vs => asgTs ev ts vs l H | none => none) = some r := e
  cases h : unpk H v with
  | none => rw [h] at e; exact nn e
  | some vs => rw [h] at e; exact ⟨vs, rfl, e⟩
end
end
end Mine

namespace Mine

noncomputable abbrev As := List (Addr × Option Addr)
noncomputable def owned (as : As) : List Addr := as.flatMap fun p => p.1 :: p.2.toList
/-- what never changes: tuples, ranges, the script -/
inductive Im where
  | tup (ws : List Value) | ro (ws : List Value) | rng (a b c : Int)
noncomputable abbrev TS := Addr → Im → Prop

/-- the fixed surroundings: addresses of the text's defs and classes, the heap at the call, the hashes -/
structure Sur where
  prog : Program
  w : World
  P : Pg
  K : Frag
  fa : List Nat
  ca : List Nat
  G : Str → Option GV
  T0 : TS
  h0 : Heap

mutual
inductive VR (fa : List Nat) (as : As) (T : TS) : V → Value → Prop
  | none : VR fa as T .none .none
  | bool (b : Bool) : VR fa as T (.bool b) (.bool b)
  | int (i : Int) (t : Tok) : VR fa as T (.int i) (.int i t)
  | str (s : List Nat) (t : Tok) : s.length ≤ lim → VR fa as T (.str s) (.str ⟨s.toArray⟩ t)
  | tup {a : Addr} {l : List V} {ws : List Value} : T a (.tup ws) → l.length ≤ lim → VRs fa as T l ws → VR fa as T (.tup l) (.ref a)
  | ro {a : Addr} {l : List V} {ws : List Value} : T a (.ro ws) → l.length ≤ lim → VRs fa as T l ws → VR fa as T (.ro l) (.ref a)
  | rng {a : Addr} {i j k : Int} : T a (.rng i j k) → VR fa as T (.rng i j k) (.ref a)
  | loc {n : Nat} {p : Addr × Option Addr} : as[n]? = some p → VR fa as T (.loc n) (.ref p.1)
  | fn {k : Nat} {a : Addr} : fa[k]? = some a → VR fa as T (.fn k) (.ref a)
inductive VRs (fa : List Nat) (as : As) (T : TS) : List V → List Value → Prop
  | nil : VRs fa as T [] []
  | cons {v : V} {w : Value} {l : List V} {ws : List Value} : VR fa as T v w → VRs fa as T l ws → VRs fa as T (v :: l) (w :: ws)
end

structure Mono (as : As) (T : TS) (as' : As) (T' : TS) : Prop where
  asx : ∀ (n : Nat) (p : Addr × Option Addr), as[n]? = some p → as'[n]? = some p
  tx : ∀ (a : Addr) (i : Im), T a i → T' a i
theorem Mono.refl (as : As) (T : TS) : Mono as T as T := ⟨fun _ _ e => e, fun _ _ e => e⟩
theorem Mono.trans {as as' as'' : As} {T T' T'' : TS} (x : Mono as T as' T') (y : Mono as' T' as'' T'') : Mono as T as'' T'' := ⟨fun n p e => y.asx n p (x.asx n p e), fun a i e => y.tx a i (x.tx a i e)⟩

mutual
theorem VR.mono {fa : List Nat} {as as' : As} {T T' : TS} (m : Mono as T as' T') {v : V} {w : Value} (x : VR fa as T v w) : VR fa as' T' v w := by
  cases x with
  | none => exact .none
  | bool b => exact .bool b
  | int i t => exact .int i t
  | str s t h => exact .str s t h
  | tup h k r => exact .tup (m.tx _ _ h) k (VRs.mono m r)
  | ro h k r => exact .ro (m.tx _ _ h) k (VRs.mono m r)
  | rng h => exact .rng (m.tx _ _ h)
  | loc h => exact .loc (m.asx _ _ h)
  | fn h => exact .fn h
theorem VRs.mono {fa : List Nat} {as as' : As} {T T' : TS} (m : Mono as T as' T') {l : List V} {ws : List Value} (x : VRs fa as T l ws) : VRs fa as' T' l ws := by
  cases x with
  | nil => exact .nil
  | cons h r => exact .cons (VR.mono m h) (VRs.mono m r)
end

section
variable {fa : List Nat} {as : As} {T : TS}
theorem VRs.length : ∀ {l : List V} {ws : List Value}, VRs fa as T l ws → ws.length = l.length
  | _, _, .nil => rfl
  | _, _, .cons _ r => congrArg (· + 1) (VRs.length r)
theorem VRs.get : ∀ {l : List V} {ws : List Value} (n : Nat), VRs fa as T l ws → ∀ {v : V}, l[n]? = some v → ∃ w, ws[n]? = some w ∧ VR fa as T v w
  | _, _, 0, .cons h _, _, e => by cases e; exact ⟨_, rfl, h⟩
  | _, _, n + 1, .cons _ r, _, e => VRs.get n r (by simpa using e)
theorem VRs.append : ∀ {l m : List V} {ws us : List Value}, VRs fa as T l ws → VRs fa as T m us → VRs fa as T (l ++ m) (ws ++ us)
  | _, _, _, _, .nil, r => r
  | _, _, _, _, .cons h r, q => .cons h (VRs.append r q)
theorem VRs.set : ∀ {l : List V} {ws : List Value} (n : Nat) {v : V} {w : Value}, VRs fa as T l ws → VR fa as T v w → VRs fa as T (l.set n v) (ws.set n w)
  | _, _, _, _, _, .nil, _ => .nil
  | _, _, 0, _, _, .cons _ r, q => .cons q r
  | _, _, n + 1, _, _, .cons h r, q => .cons h (VRs.set n r q)
theorem VRs.take : ∀ {l : List V} {ws : List Value} (n : Nat), VRs fa as T l ws → VRs fa as T (l.take n) (ws.take n)
  | _, _, 0, _ => by simp; exact .nil
  | _, _, _ + 1, .nil => .nil
  | _, _, n + 1, .cons h r => .cons h (VRs.take n r)
theorem VRs.drop : ∀ {l : List V} {ws : List Value} (n : Nat), VRs fa as T l ws → VRs fa as T (l.drop n) (ws.drop n)
  | _, _, 0, h => by simpa using h
  | _, _, _ + 1, .nil => .nil
  | _, _, n + 1, .cons _ r => VRs.drop n r
theorem VRs.reverse : ∀ {l : List V} {ws : List Value}, VRs fa as T l ws → VRs fa as T l.reverse ws.reverse
  | _, _, .nil => .nil
  | _, _, .cons h r => by
    rw [List.reverse_cons, List.reverse_cons]
    exact VRs.append (VRs.reverse r) (.cons h .nil)
end

noncomputable def ImAt (h : Heap) (a : Addr) : Im → Prop
  | .tup ws => h.IsTuple a ws.toArray
  | .ro ws => h.IsList a ws.toArray
  | .rng i j k => ∃ t u v, IsRange h a i j k t u v
theorem ImAt.keep {h h' : Heap} {a : Addr} {i : Im} (x : ImAt h a i) (k : ∀ o, h.get? a = some o → h'.get? a = some o) : ImAt h' a i := by
  cases i with
  | tup ws => obtain ⟨o, e, r⟩ := x; exact ⟨o, k _ e, r⟩
  | ro ws => obtain ⟨o, e, r⟩ := x; exact ⟨o, k _ e, r⟩
  | rng i j l => obtain ⟨t, u, v, e⟩ := x; exact ⟨t, u, v, k _ e⟩
theorem ImAt.alive {h : Heap} {a : Addr} {i : Im} (x : ImAt h a i) : ∃ o, h.get? a = some o := by
  cases i with
  | tup ws => obtain ⟨o, e, r⟩ := x; exact ⟨o, e⟩
  | ro ws => obtain ⟨o, e, r⟩ := x; exact ⟨o, e⟩
  | rng i j l => obtain ⟨t, u, v, e⟩ := x; exact ⟨_, e⟩

noncomputable def lst (ws : List Value) (n : Nat) : Obj := { cls := .type "list", data := .seq ws.toArray n }
/-- a dict's entries -/
inductive DR (S : Sur) (as : As) (T : TS) : List (List Nat × V) → List (Str × Value) → Prop
  | nil : DR S as T [] []
  | cons {k : List Nat} {v : V} {w : Value} {es : List (List Nat × V)} {ds : List (Str × Value)} : VR S.fa as T v w → DR S as T es ds → DR S as T ((k, v) :: es) ((⟨k.toArray⟩, w) :: ds)
/-- the names of a thing that a class made -/
noncomputable def FR (S : Sur) (as : As) (T : TS) (fs : List (Nat × V)) (m : Str → Option Value) : Prop :=
  (∀ i v, lookN i fs = some v → i < 22 ∧ ∃ w, m (nmOf i) = some w ∧ VR S.fa as T v w) ∧ ∀ x w, m x = some w → ∃ i, i < 22 ∧ x = nmOf i ∧ (lookN i fs).isSome
theorem DR.mono {S : Sur} {as as' : As} {T T' : TS} (m : Mono as T as' T') : ∀ {es : List (List Nat × V)} {ds : List (Str × Value)}, DR S as T es ds → DR S as' T' es ds
  | _, _, .nil => .nil
  | _, _, .cons h r => .cons (h.mono m) (DR.mono m r)
theorem FR.mono {S : Sur} {as as' : As} {T T' : TS} (m : Mono as T as' T') {fs : List (Nat × V)} {f : Str → Option Value} (h : FR S as T fs f) : FR S as' T' fs f :=
  ⟨fun i v e => let ⟨a, w, b, c⟩ := h.1 i v e; ⟨a, w, b, c.mono m⟩, h.2⟩

/-- an object of the small heap, borne by the true one -/
inductive OR (S : Sur) (as : As) (T : TS) (h : Heap) : O → Addr × Option Addr → Prop
  | list {l : List V} {a : Addr} {ws : List Value} {n : Nat} : h.get? a = some (lst ws n) → l.length ≤ lim → VRs S.fa as T l ws → OR S as T h (.list l) (a, none)
  | dict {es : List (List Nat × V)} {a : Addr} {ds : List (Str × Value)} : h.DictOf (strKind S.prog S.w) a ds → es.length ≤ 1024 → DR S as T es ds → OR S as T h (.dict es) (a, none)
  | inst {c : Nat} {fs : List (Nat × V)} {C a dx : Addr} {f : Str → Option Value} : c < 5 → S.ca[c]? = some C → h.get? a = some (instObj C dx) → h.Ns1 dx f → FR S as T fs f →
      OR S as T h (.inst c fs) (a, some dx)

theorem mem_owned {as : As} {n : Nat} {p : Addr × Option Addr} (h : as[n]? = some p) : p.1 ∈ owned as ∧ ∀ d, p.2 = some d → d ∈ owned as := by
  have hm := List.mem_of_getElem? h
  refine ⟨List.mem_flatMap.mpr ⟨p, hm, .head _⟩, fun d e => List.mem_flatMap.mpr ⟨p, hm, ?_⟩⟩
  rw [e]; exact .tail _ (.head _)

theorem OR.keep {S : Sur} {as as' : As} {T T' : TS} {h h' : Heap} {o : O} {p : Addr × Option Addr} (x : OR S as T h o p) (m : Mono as T as' T')
    (k1 : ∀ q, h.get? p.1 = some q → h'.get? p.1 = some q) (k2 : ∀ d q, p.2 = some d → h.get? d = some q → h'.get? d = some q) : OR S as' T' h' o p := by
  cases x with
  | list e z r => exact .list (k1 _ e) z (r.mono m)
  | dict e z r => exact .dict (let ⟨o, es, ep, q, t⟩ := e; ⟨o, es, ep, k1 _ q, t⟩) z (r.mono m)
  | inst c5 c e1 e2 r => exact .inst c5 c (k1 _ e1) (e2.at fun o q => k2 _ _ rfl q) (r.mono m)

structure HR (S : Sur) (as : As) (T : TS) (H : Hp) (h : Heap) : Prop where
  base : ∀ b o, S.h0.get? b = some o → h.get? b = some o
  len : as.length = H.length
  obj : ∀ (n : Nat) (o : O) (p : Addr × Option Addr), H[n]? = some o → as[n]? = some p → OR S as T h o p
  nd : (owned as).Nodup
  new : ∀ a ∈ owned as, S.h0.get? a = none
  im : ∀ a i, T a i → ImAt h a i
  t0 : ∀ a i, S.T0 a i → T a i
  ro : ∀ a ws, T a (.ro ws) → ∃ o, S.h0.get? a = some o
  two : ∃ o, S.h0.get? cStatics = some o
  big : ∀ a ∈ owned as, sysModules < a

/-- from one state to a later one: all stays but what the small heap owns, and X -/
structure Ext (X : Addr → Prop) (as : As) (T : TS) (h : Heap) (as' : As) (T' : TS) (h' : Heap) : Prop where
  mono : Mono as T as' T'
  kp : ∀ b o, b ∉ owned as → ¬ X b → h.get? b = some o → h'.get? b = some o
  al : ∀ b, X b → (h.get? b).isSome → (h'.get? b).isSome
  own : ∀ b ∈ owned as', b ∈ owned as ∨ h.get? b = none
noncomputable def Nil : Addr → Prop := fun _ => False

theorem Ext.refl (X : Addr → Prop) (as : As) (T : TS) (h : Heap) : Ext X as T h as T h := ⟨.refl .., fun _ _ _ _ e => e, fun _ _ e => e, fun _ e => .inl e⟩
theorem Ext.trans {X : Addr → Prop} {as as1 as2 : As} {T T1 T2 : TS} {h h1 h2 : Heap} (x : Ext X as T h as1 T1 h1) (y : Ext X as1 T1 h1 as2 T2 h2) : Ext X as T h as2 T2 h2 := by
  refine ⟨x.mono.trans y.mono, fun b o n1 n2 e => ?_, fun b hb e => y.al b hb (x.al b hb e), fun b hb => ?_⟩
  · have e1 := x.kp b o n1 n2 e
    refine y.kp b o (fun hb => ?_) n2 e1
    rcases x.own b hb with q | q
    · exact n1 q
    · rw [q] at e; first | exact nn e | exact ff e | cases e
  · rcases y.own b hb with q | q
    · exact x.own b q
    · cases e : h.get? b with
      | none => exact .inr rfl
      | some o =>
        by_cases ho : b ∈ owned as
        · exact .inl ho
        · by_cases hX : X b
          · have := x.al b hX (by rw [e]; rfl); rw [q] at this; first | exact nn this | exact ff this | cases this
          · have := x.kp b o ho hX e; rw [q] at this; first | exact nn this | exact ff this | cases this
theorem Ext.weak {X Y : Addr → Prop} {as as1 : As} {T T1 : TS} {h h1 : Heap} (x : Ext Nil as T h as1 T1 h1) (hY : ∀ b, Y b → b ∉ owned as) : Ext Y as T h as1 T1 h1 :=
  ⟨x.mono, fun b o n1 _ e => x.kp b o n1 (fun q => q) e, fun b hb e => by
    obtain ⟨o, e⟩ := Option.isSome_iff_exists.mp e
    rw [x.kp b o (hY b hb) (fun q => q) e]; rfl, x.own⟩

/-- all stays -/
theorem HR.keep {S : Sur} {as : As} {T : TS} {H : Hp} {h h' : Heap} (x : HR S as T H h) (k : ∀ b o, h.get? b = some o → h'.get? b = some o) : HR S as T H h' :=
  ⟨fun b o e => k b o (x.base b o e), x.len, fun n o p e1 e2 => (x.obj n o p e1 e2).keep (.refl ..) (fun q => k _ q) (fun d q _ => k _ q), x.nd, x.new, fun a i t => (x.im a i t).keep (k a), x.t0, x.ro, x.two, x.big⟩
/-- all stays but at a place that is not the small heap's -/
theorem HR.but {S : Sur} {as : As} {T : TS} {H : Hp} {h h' : Heap} {y : Addr} (x : HR S as T H h) (k : ∀ b o, b ≠ y → h.get? b = some o → h'.get? b = some o) (ho : y ∉ owned as) (hb : S.h0.get? y = none) (hT : ∀ i, ¬ T y i) : HR S as T H h' := by
  refine ⟨fun b o e => k b o (fun q => by rw [q, hb] at e; cases e) (x.base b o e), x.len, fun n o p e1 e2 => ?_, x.nd, x.new, fun a i t => (x.im a i t).keep fun o e => k a o (fun q => hT i (q ▸ t)) e, x.t0, x.ro, x.two, x.big⟩
  have hm := mem_owned e2
  exact (x.obj n o p e1 e2).keep (.refl ..) (fun q => k _ q fun z => ho (z ▸ hm.1)) (fun d q hd => k _ q fun z => ho (z ▸ hm.2 d hd))

theorem owned_append (as bs : As) : owned (as ++ bs) = owned as ++ owned bs := by simp [owned]
theorem getElem?_append_some {α : Type} {l m : List α} {n : Nat} {a : α} (h : l[n]? = some a) : (l ++ m)[n]? = some a := by
  rw [List.getElem?_append_left (by have := List.getElem?_eq_some_iff.mp h; exact this.1)]; exact h

theorem HR.alive {S : Sur} {as : As} {T : TS} {H : Hp} {h : Heap} (x : HR S as T H h) {b : Addr} (hb : b ∈ owned as) : ∃ q, h.get? b = some q := by
  obtain ⟨q, hq, hb⟩ := List.mem_flatMap.mp hb
  obtain ⟨n, hn⟩ := List.getElem?_of_mem hq
  have hl : n < H.length := by rw [← x.len]; exact (List.getElem?_eq_some_iff.mp hn).1
  obtain ⟨o, ho⟩ : ∃ o, H[n]? = some o := ⟨_, List.getElem?_eq_getElem hl⟩
  have := x.obj n o q ho hn
  cases this with
  | list e _ _ => simp at hb; subst hb; exact ⟨_, e⟩
  | dict e _ _ => simp at hb; subst hb; exact (let ⟨o, _, _, e, _⟩ := e; ⟨o, e⟩)
  | inst _ _ e1 e2 _ => simp at hb; rcases hb with rfl | rfl; exact ⟨_, e1⟩; exact (let ⟨o, _, _, e, _⟩ := e2; ⟨o, e⟩)

/-- a fresh object: what it is, is said of the later state -/
theorem HR.alloc {S : Sur} {as : As} {T : TS} {H : Hp} {h h' : Heap} {o : O} {p : Addr × Option Addr} (x : HR S as T H h) (k : ∀ b q, h.get? b = some q → h'.get? b = some q)
    (hn : (p.1 :: p.2.toList).Nodup) (hf : ∀ a ∈ p.1 :: p.2.toList, h.objs.size ≤ a) (ho : OR S (as ++ [p]) T h' o p) : HR S (as ++ [p]) T (H ++ [o]) h' := by
  have hs := hf
  have hf : ∀ a ∈ p.1 :: p.2.toList, h.get? a = none := fun a ha => by
    cases e : h.get? a with
    | none => rfl
    | some o => exact absurd (Heap.lt_size e) (Nat.not_lt.mpr (hs a ha))
  have m : Mono as T (as ++ [p]) T := ⟨fun n q e => getElem?_append_some e, fun _ _ e => e⟩
  refine ⟨fun b q e => k _ _ (x.base b q e), by simp [x.len], fun n q r e1 e2 => ?_, ?_, fun a ha => ?_, fun a i t => (x.im a i t).keep (k a), x.t0, x.ro, x.two, fun a ha => ?_⟩
  · by_cases hl : n < H.length
    · rw [List.getElem?_append_left hl] at e1
      rw [List.getElem?_append_left (by rw [x.len]; exact hl)] at e2
      exact (x.obj n q r e1 e2).keep m (k _) (fun d z _ => k _ z)
    · have : n = H.length := by
        have := (List.getElem?_eq_some_iff.mp e1).1; simp at this; omega
      subst this
      rw [List.getElem?_append_right (Nat.le_refl _), Nat.sub_self] at e1
      rw [List.getElem?_append_right (by rw [x.len]; exact Nat.le_refl _), x.len, Nat.sub_self] at e2
      cases e1; cases e2; exact ho
  · rw [owned_append]
    refine List.nodup_append.mpr ⟨x.nd, by simpa [owned] using hn, fun a ha b hb e => ?_⟩
    obtain ⟨q, hq⟩ := x.alive ha
    rw [e, hf b (by simpa [owned] using hb)] at hq; cases hq
  · rw [owned_append] at ha
    rcases List.mem_append.mp ha with q | q
    · exact x.new a q
    · cases e : S.h0.get? a with
      | none => rfl
      | some o' => have := x.base a o' e; rw [hf a (by simpa [owned] using q)] at this; cases this
  · rw [owned_append] at ha
    rcases List.mem_append.mp ha with q | q
    · exact x.big a q
    · obtain ⟨o', ho'⟩ := x.two
      have h2 := Heap.lt_size (x.base _ _ ho')
      have h3 := hs a (by simpa [owned] using q)
      exact Nat.lt_of_lt_of_le (Nat.lt_trans (by decide) h2) h3

theorem nodup_flat_apart {α β : Type} {f : α → List β} : ∀ {l : List α} {i j : Nat} {a b : α}, (l.flatMap f).Nodup → l[i]? = some a → l[j]? = some b → i ≠ j → ∀ x ∈ f a, x ∉ f b := by
  intro l
  induction l with
  | nil => intro i j a b _ h; simp at h
  | cons c r ih =>
    intro i j a b hn hi hj hij x hx hb
    rw [List.flatMap_cons] at hn
    obtain ⟨n1, n2, n3⟩ := List.nodup_append.mp hn
    cases i with
    | zero => cases j with
      | zero => exact hij rfl
      | succ j =>
        simp at hi hj; subst hi
        exact n3 x hx x (List.mem_flatMap.mpr ⟨b, List.mem_of_getElem? hj, hb⟩) rfl
    | succ i => cases j with
      | zero =>
        simp at hi hj; subst hj
        exact n3 x hb x (List.mem_flatMap.mpr ⟨a, List.mem_of_getElem? hi, hx⟩) rfl
      | succ j =>
        simp at hi hj
        exact ih n2 hi hj (fun q => hij (by rw [q])) x hx hb

/-- one owned object changes: it lies at n -/
theorem HR.upd {S : Sur} {as : As} {T : TS} {H : Hp} {h h' : Heap} {n : Nat} {o : O} {p : Addr × Option Addr} {y : Addr} (x : HR S as T H h) (hp : as[n]? = some p) (hn : n < H.length)
    (hy : y ∈ p.1 :: p.2.toList) (k : ∀ b q, b ≠ y → h.get? b = some q → h'.get? b = some q) (ho : OR S as T h' o p) (hT : ∀ i, ¬ T y i) : HR S as T (H.set n o) h' := by
  have yo : y ∈ owned as := List.mem_flatMap.mpr ⟨p, List.mem_of_getElem? hp, hy⟩
  refine ⟨fun b q e => k _ _ (fun z => by rw [z, x.new y yo] at e; cases e) (x.base b q e), by simp [x.len], fun m q r e1 e2 => ?_, x.nd, x.new, fun a i t => (x.im a i t).keep fun q e => k _ _ (fun z => hT i (z ▸ t)) e, x.t0, x.ro, x.two, x.big⟩
  by_cases hm : m = n
  · subst hm
    rw [List.getElem?_set_self hn] at e1
    rw [hp] at e2
    cases e1; cases e2; exact ho
  · rw [List.getElem?_set_ne (Ne.symm hm)] at e1
    have ap := nodup_flat_apart (f := fun p : Addr × Option Addr => p.1 :: p.2.toList) x.nd e2 hp hm
    exact (x.obj m q r e1 e2).keep (.refl ..) (fun z => k _ z fun w => ap _ (.head _) (w ▸ hy)) (fun d z hd => k _ z fun w => ap d (by rw [hd]; exact .tail _ (.head _)) (w ▸ hy))
end Mine

namespace Mine

theorem kindIs_eq {k l : NameKind} (h : kindIs k l = true) : k = l := by cases k <;> cases l <;> first | rfl | exact ff h | exact nn h | cases h
theorem nkOf_eq (x : Str) : ∀ nm : Nms, nkOf x nm = nm.lookup x
  | [] => rfl
  | (y, k) :: r => by
    rw [nkOf, List.lookup_cons]
    cases h : (x == y) with
    | true => simp
    | false => simp; exact nkOf_eq x r
theorem noDbg_mem : ∀ {nm : Nms} {x : Str} {k : NameKind}, noDbg nm = true → nm.lookup x = some k → (x == (Str.ofString "__debug__")) = false
  | (y, k') :: r, x, k, h, e => by
    simp only [noDbg, Bool.and_eq_true, Bool.not_eq_true'] at h
    rw [List.lookup_cons] at e
    cases q : (x == y) with
    | true => rw [beq_iff_eq.mp q]; exact h.1
    | false => rw [q] at e; exact noDbg_mem h.2 e

noncomputable def primVal : Pr → Value
  | .len => .builtin "len"
  | .abs => .builtin "abs"
  | .int => .type "int"
  | .chr => .builtin "chr"
  | .ord => .builtin "ord"
  | .list => .type "list"
  | .range => .type "range"
  | .min => .builtin "min"
  | .str => .type "str"
theorem boot_prim (p : Pr) : bootBuiltins (prName p) = some (primVal p) ∧ prName p ≠ "__name__" := by cases p <;> exact ⟨by kernel_rfl, by decide +kernel⟩
theorem boot_isi : bootBuiltins (Str.ofString "isinstance") = some (.builtin "isinstance") ∧ Str.ofString "isinstance" ≠ "__name__" := ⟨by kernel_rfl, by decide +kernel⟩
theorem boot_tuple : bootBuiltins (Str.ofString "tuple") = some (.type "tuple") ∧ Str.ofString "tuple" ≠ "__name__" := ⟨by kernel_rfl, by decide +kernel⟩

/-- what the text's own classes are -/
structure ClsOk (S : Sur) (C : Addr) (ci : CI) : Prop where
  makes : makesIn S.K C = true
  init : ∃ a, S.fa[ci.init]? = some a ∧ findIn S.K (.ref C) "__init__" = some (some (.ref a)) ∧ typeIn S.K (.ref a) = some (.type "function")
  get : findIn S.K (.ref C) "__getattribute__" = some (some (.builtin "object.__getattribute__")) ∧ findIn S.K (.ref C) "__getattr__" = some none
  hasDict : hasDictIn S.K C = true
  attr : ∀ i, i < 22 → ∃ at', findIn S.K (.ref C) (nmOf i) = some at' ∧ noGet S.K at' = true
  take : ∀ i, i < 22 → takerIn S.K C (nmOf i) = some none
  set : findIn S.K (.ref C) "__setattr__" = some (some (.builtin "object.__setattr__"))
  over : plainOver S.K C = true
  meth : ∀ m k, lookN m ci.meths = some k → ∃ a, S.fa[k]? = some a ∧ findIn S.K (.ref C) (mmOf m) = some (some (.ref a)) ∧ typeIn S.K (.ref a) = some (.type "function")
  apart : ∀ m k i, lookN m ci.meths = some k → i < 22 → (nmOf i == mmOf m) = false

noncomputable def tyNames : List String := ["int", "str", "bool", "NoneType", "tuple"]
noncomputable def kitAll (K : Frag) (ca : List Nat) : Bool :=
  tyNames.all (fun t => ["int", "str", "tuple"].all fun c => kitOne K (.type t) (.type c) == some (t == c || (t == "bool" && c == "int"))) &&
  ca.all fun D => kitOne K (.type "int") (.ref D) == some false && kitOne K (.type "str") (.ref D) == some false
structure Cx (S : Sur) : Prop where
  X : S.K.In S.h0
  lim : S.h0.NoLimit
  ns : ∃ mg mb, S.h0.Ns mainGlobals mg ∧ S.h0.Ns builtinsNs mb ∧ (∀ x : Str, x ≠ "__name__" → mb x = bootBuiltins x)
  gfn : ∀ x k, S.G x = some (.fn k) → ∃ a, S.fa[k]? = some a ∧ nsIn S.K mainGlobals x = some (some (.ref a))
  gval : ∀ x v, S.G x = some (.val v) → ∃ u, nsIn S.K mainGlobals x = some (some u) ∧ VR S.fa [] S.T0 v u
  gcls : ∀ x c, S.G x = some (.cls c) → ∃ C, S.ca[c]? = some C ∧ nsIn S.K mainGlobals x = some (some (.ref C)) ∧ x = CLSN.getD c Str.empty
  gpr : ∀ x p, S.G x = some (.pr p) → nsIn S.K mainGlobals x = some none
  gisi : ∀ x, S.G x = some .isi → nsIn S.K mainGlobals x = some none ∧ x = Str.ofString "isinstance"
  gtyp : ∀ x k, S.G x = some (.typ k) → nsIn S.K mainGlobals x = some none
  fns : ∀ (k : Nat) (fi : FI), S.P.fns[k]? = some fi → ∃ a : Nat, S.fa[k]? = some a ∧ chK S.G S.K fi a = true
  keep : ∀ (k a : Nat), S.fa[k]? = some a → keepIn S.K (.ref a) = true
  keepC : ∀ (c C : Nat), S.ca[c]? = some C → keepIn S.K (.ref C) = true
  cls : ∀ (c C : Nat), c < 5 → S.ca[c]? = some C → ∃ ci : CI, S.P.cls[c]? = some ci ∧ ClsOk S C ci
  kit : kitAll S.K S.ca = true

structure AOk (A : Around) (d : Nat) : Prop where
  handled : A.handled = none
  depth : A.depth + 4 * d + 8 ≤ 1000
  units : A.units + 32 * d + 200 ≤ 9900

/-- the frame -/
structure ER (S : Sur) (as : As) (T : TS) (env : Env) (nm : Nms) (sl : Sl) (l : Lo) (h : Heap) : Prop where
  kind : env.scope.kind = .function
  glob : env.globals = mainGlobals
  blt : env.builtins = builtinsNs
  names : env.scope.names = nm
  dbg : noDbg nm = true
  len : l.length = sl.length
  nd : ∀ (i j : Nat) (x : Str) (b c : Bool), sl[i]? = some (some (x, b)) → sl[j]? = some (some (x, c)) → i = j
  loc : ∃ m, h.Ns env.locals m ∧ ∀ (i : Nat) (v : V) (x : Str), l[i]? = some (some v) → sl[i]? = some (some (x, false)) → ∃ w, m x = some w ∧ VR S.fa as T v w
  cell : ∀ (i : Nat) (x : Str), sl[i]? = some (some (x, true)) → ∃ c w, env.cells.lookup x = some c ∧ h.IsCell c w ∧ ∀ v, l[i]? = some (some v) → ∃ u, w = some u ∧ VR S.fa as T v u
  cellx : ∀ x y c, env.cells.lookup x = some c → env.cells.lookup y = some c → x = y
  cella : ∀ x c, env.cells.lookup x = some c → ∃ w, h.IsCell c w
  frame : env.locals ∉ owned as ∧ S.h0.get? env.locals = none
  cells : ∀ x c, env.cells.lookup x = some c → c ∉ owned as ∧ S.h0.get? c = none

noncomputable def EX (env : Env) (b : Addr) : Prop := b = env.locals ∨ ∃ x, env.cells.lookup x = some b

section
variable {S : Sur} {as as' : As} {T T' : TS} {H H' : Hp} {h h' : Heap} {env : Env} {nm : Nms} {sl : Sl} {l : Lo}

theorem ns_alive {a : Addr} {m : Str → Option Value} (n : h.Ns a m) : ∃ o, h.get? a = some o := let ⟨o, _, _, e, _⟩ := n; ⟨o, e⟩
theorem ns_keep {a : Addr} {m : Str → Option Value} (n : h.Ns a m) (k : ∀ o, h.get? a = some o → h'.get? a = some o) : h'.Ns a m := let ⟨o, es, ep, e, r⟩ := n; ⟨o, es, ep, k _ e, r⟩
theorem cell_alive {c : Addr} {w : Option Value} (n : h.IsCell c w) : ∃ o, h.get? c = some o := let ⟨o, e, _⟩ := n; ⟨o, e⟩
theorem cell_keep {c : Addr} {w : Option Value} (n : h.IsCell c w) (k : ∀ o, h.get? c = some o → h'.get? c = some o) : h'.IsCell c w := let ⟨o, e, r⟩ := n; ⟨o, k _ e, r⟩

theorem ER.ext (x : ER S as T env nm sl l h) (e : Ext Nil as T h as' T' h') : ER S as' T' env nm sl l h' := by
  have k : ∀ b o, b ∉ owned as → h.get? b = some o → h'.get? b = some o := fun b o n q => e.kp b o n (fun z => z) q
  have own : ∀ b o, b ∉ owned as → h.get? b = some o → b ∉ owned as' := fun b o n q hb => by
    rcases e.own b hb with z | z
    · exact n z
    · rw [z] at q; first | exact nn q | exact ff q | cases q
  obtain ⟨m, hn, hm⟩ := x.loc
  obtain ⟨oL, hL⟩ := ns_alive hn
  refine ⟨x.kind, x.glob, x.blt, x.names, x.dbg, x.len, x.nd, ⟨m, ns_keep hn fun o => k _ o x.frame.1, fun i v y e1 e2 => ?_⟩, fun i y e1 => ?_, x.cellx, fun y c e1 => ?_, ⟨own _ _ x.frame.1 hL, x.frame.2⟩, fun y c e1 => ?_⟩
  · obtain ⟨w, h1, h2⟩ := hm i v y e1 e2
    exact ⟨w, h1, h2.mono e.mono⟩
  · obtain ⟨c, w, h1, h2, h3⟩ := x.cell i y e1
    refine ⟨c, w, h1, cell_keep h2 fun o => k _ o (x.cells y c h1).1, fun v hv => ?_⟩
    obtain ⟨u, h4, h5⟩ := h3 v hv
    exact ⟨u, h4, h5.mono e.mono⟩
  · obtain ⟨w, h2⟩ := x.cella y c e1
    exact ⟨w, cell_keep h2 fun o => k _ o (x.cells y c e1).1⟩
  · obtain ⟨w, h2⟩ := x.cella y c e1
    obtain ⟨o, ho⟩ := cell_alive h2
    exact ⟨own _ _ (x.cells y c e1).1 ho, (x.cells y c e1).2⟩

theorem noT_ns (x : HR S as T H h) {a : Addr} {m : Str → Option Value} (n : h.Ns a m) (i : Im) : ¬ T a i := fun t => by
  have := x.im a i t
  obtain ⟨o, es, ep, e, d, _⟩ := n
  cases i with
  | tup ws => obtain ⟨o', e', _, k, d'⟩ := this; rw [e] at e'; cases e'; rw [d] at d'; cases d'
  | ro ws => obtain ⟨o', e', _, k, d'⟩ := this; rw [e] at e'; cases e'; rw [d] at d'; cases d'
  | rng i j k => obtain ⟨t, u, v, e'⟩ := this; have e2 := e.symm.trans e'; cases e2; cases d
theorem noT_cell (x : HR S as T H h) {a : Addr} {w : Option Value} (n : h.IsCell a w) (i : Im) : ¬ T a i := fun t => by
  have := x.im a i t
  obtain ⟨o, e, d⟩ := n
  cases i with
  | tup ws => obtain ⟨o', e', _, k, d'⟩ := this; rw [e] at e'; cases e'; rw [d] at d'; cases d'
  | ro ws => obtain ⟨o', e', _, k, d'⟩ := this; rw [e] at e'; cases e'; rw [d] at d'; cases d'
  | rng i j k => obtain ⟨t, u, v, e'⟩ := this; have e2 := e.symm.trans e'; cases e2; cases d

variable {M : Model} {A : Around} {E : Value → Shared → Prop} {s : Shared} {Q : Value → Shared → Prop} {pos : Pos}

theorem isLoc_spec {i : Nat} {x : Str} (c : isLoc nm sl i x = true) : ∃ b, sl[i]? = some (some (x, b)) ∧ nm.lookup x = some (kOf b) := by
  unfold isLoc at c
  split at c
  · rename_i y b e
    simp only [Bool.and_eq_true] at c
    obtain ⟨c1, c2⟩ := c
    obtain rfl := beq_iff_eq.mp c1
    split at c2
    · rename_i k hk
      refine ⟨b, e, ?_⟩
      rw [← nkOf_eq, hk, kindIs_eq c2]
    · first | exact ff c2 | exact nn c2 | cases c2
  · first | exact ff c | exact nn c | cases c

theorem name_loc (x : ER S as T env nm sl l s.heap) {i : Nat} {v : V} {n : Str} (c : isLoc nm sl i n = true) (hv : l[i]? = some (some v)) (k : ∀ w, VR S.fa as T v w → Q w s) : wpAny M A (eval (.Name n pos) env) Q E s := by
  obtain ⟨b, e1, e2⟩ := isLoc_spec c
  have hk : env.kindOf n = some (kOf b) := by unfold Env.kindOf; rw [x.names]; exact e2
  have hd := noDbg_mem x.dbg e2
  cases b with
  | false =>
    obtain ⟨m, hn, hm⟩ := x.loc
    obtain ⟨w, h1, h2⟩ := hm i v n hv e1
    exact wpAny_Name (wpAny_loadName_local x.kind hk hn h1 (k w h2)) hd
  | true =>
    obtain ⟨c, w, h1, h2, h3⟩ := x.cell i n e1
    obtain ⟨u, rfl, h5⟩ := h3 v hv
    exact wpAny_Name (wpAny_loadName_cell x.kind hk h1 h2 (k u h5)) hd

theorem isGlob_spec {x : Str} (c : isGlob nm x = true) : nm.lookup x = some .globalImplicit := by
  unfold isGlob at c
  split at c
  · rename_i k hk; rw [← nkOf_eq, hk, kindIs_eq c]
  · first | exact ff c | exact nn c | cases c
theorem gIs_spec {G : Str → Option GV} {x : Str} {p : GV → Bool} (c : gIs G nm x p = true) : nm.lookup x = some .globalImplicit ∧ ∃ g, G x = some g ∧ p g = true := by
  unfold gIs at c
  simp only [Bool.and_eq_true] at c
  refine ⟨isGlob_spec c.1, ?_⟩
  have := c.2
  split at this
  · rename_i g hg; exact ⟨g, hg, this⟩
  · first | exact ff this | exact nn this | cases this

theorem name_glob (C : Cx S) (x : ER S as T env nm sl l s.heap) (hr : HR S as T H s.heap) {n : Str} (hg : nm.lookup n = some .globalImplicit) {v : Value} (hv : nsIn S.K mainGlobals n = some (some v)) (k : Q v s) : wpAny M A (eval (.Name n pos) env) Q E s := by
  obtain ⟨mg, mb, h1, h2, h3⟩ := C.ns
  refine Calls.Name_function_global x.kind (by unfold Env.kindOf; rw [x.names]; exact hg) (Calls.loadGlobal_global (mg := mg) (by rw [x.glob]; exact h1.keeps hr.base) (mg_of C.X h1 hv) k) (noDbg_mem x.dbg hg)
theorem name_blt (C : Cx S) (x : ER S as T env nm sl l s.heap) (hr : HR S as T H s.heap) {n : Str} (hg : nm.lookup n = some .globalImplicit) {v : Value} (hn : nsIn S.K mainGlobals n = some none) (hv : bootBuiltins n = some v) (h' : n ≠ "__name__") (k : Q v s) : wpAny M A (eval (.Name n pos) env) Q E s := by
  obtain ⟨mg, mb, h1, h2, h3⟩ := C.ns
  refine Calls.Name_function_global x.kind (by unfold Env.kindOf; rw [x.names]; exact hg) (Calls.loadGlobal_builtin (mg := mg) (mb := mb) (by rw [x.glob]; exact h1.keeps hr.base) (mg_none_of C.X h1 hn) (by rw [x.blt]; exact h2.keeps hr.base) ((h3 n h').trans hv) k) (noDbg_mem x.dbg hg)
end
end Mine

namespace Mine

/-- what comes back: a value, a heap -/
noncomputable def Ret (S : Sur) (as : As) (T : TS) (s : Shared) (H' : Hp) (v : V) (Q : Value → Shared → Prop) : Prop :=
  ∀ w h' tk as' T', Ext Nil as T s.heap as' T' h' → HR S as' T' H' h' → VR S.fa as' T' v w → Q w { s with heap := h', toks := tk }
/-- the same, no value -/
noncomputable def RetU (S : Sur) (as : As) (T : TS) (s : Shared) (H' : Hp) (Q : Unit → Shared → Prop) : Prop :=
  ∀ h' tk as' T', Ext Nil as T s.heap as' T' h' → HR S as' T' H' h' → Q () { s with heap := h', toks := tk }

section
variable {S : Sur} {as as1 : As} {T T1 : TS} {H H' : Hp} {h h' h1 : Heap} {s : Shared} {v : V} {w : Value} {Q : Value → Shared → Prop} {A : Around} {E : Value → Shared → Prop}

theorem Ret.from {tk : Tok} (k : Ret S as T s H' v Q) (e : Ext Nil as T s.heap as1 T1 h1) : Ret S as1 T1 { s with heap := h1, toks := tk } H' v Q :=
  fun w h' tk' as' T' e' hr vr => k w h' tk' as' T' (e.trans e') hr vr
theorem RetU.from {tk : Tok} {Q : Unit → Shared → Prop} (k : RetU S as T s H' Q) (e : Ext Nil as T s.heap as1 T1 h1) : RetU S as1 T1 { s with heap := h1, toks := tk } H' Q :=
  fun h' tk' as' T' e' hr => k h' tk' as' T' (e.trans e') hr
theorem Ret.now (k : Ret S as T s H v Q) (hr : HR S as T H s.heap) (vr : VR S.fa as T v w) : Q w s := k w s.heap s.toks as T (.refl ..) hr vr
theorem Ret.tok (k : Ret S as T s H v Q) (hr : HR S as T H s.heap) (vr : VR S.fa as T v w) (tk : Tok) : Q w { s with toks := tk } := k w s.heap tk as T (.refl ..) hr vr

theorem Ext.keep (k : ∀ b o, h.get? b = some o → h'.get? b = some o) : Ext Nil as T h as T h' := ⟨.refl .., fun b o _ _ e => k b o e, fun b hb _ => hb.elim, fun b hb => .inl hb⟩
theorem keep_push (o : Obj) : ∀ b q, h.get? b = some q → (h.push o).get? b = some q := fun _ _ e => Heap.get?_push_of_some o e
theorem size_none : h.get? h.objs.size = none := by
  cases e : h.get? h.objs.size with
  | none => rfl
  | some o => exact absurd (Heap.lt_size e) (Nat.lt_irrefl _)

/-- a new immutable thing at a place that was free -/
theorem new_im (hr : HR S as T H h) (k : ∀ b o, h.get? b = some o → h'.get? b = some o) {a : Addr} {i : Im} (hi : ImAt h' a i) (hro : ∀ ws, i ≠ .ro ws) :
    Ext Nil as T h as (fun b j => T b j ∨ (b = a ∧ j = i)) h' ∧ HR S as (fun b j => T b j ∨ (b = a ∧ j = i)) H h' := by
  have m : Mono as T as (fun b j => T b j ∨ (b = a ∧ j = i)) := ⟨fun _ _ e => e, fun _ _ e => .inl e⟩
  refine ⟨⟨m, fun b o _ _ e => k b o e, fun b hb _ => hb.elim, fun b hb => .inl hb⟩, ?_⟩
  have r := hr.keep k
  refine ⟨r.base, r.len, fun n o p e1 e2 => (hr.obj n o p e1 e2).keep m (k _) (fun d q _ => k _ q), r.nd, r.new, fun b j t => ?_, fun b j t => .inl (hr.t0 b j t), fun b ws t => ?_, r.two, r.big⟩
  · rcases t with t | ⟨rfl, rfl⟩
    · exact r.im b j t
    · exact hi
  · rcases t with t | ⟨_, q⟩
    · exact hr.ro b ws t
    · exact absurd q.symm (hro ws)
theorem push_tup (hr : HR S as T H h) {l : List V} {ws : List Value} (hv : VRs S.fa as T l ws) (hl : l.length ≤ lim) :
    ∃ T', Ext Nil as T h as T' (h.push { cls := .type "tuple", data := .seq ws.toArray }) ∧ HR S as T' H (h.push { cls := .type "tuple", data := .seq ws.toArray }) ∧ VR S.fa as T' (.tup l) (.ref h.objs.size) := by
  obtain ⟨e, r⟩ := new_im (a := h.objs.size) (i := .tup ws) hr (keep_push { cls := .type "tuple", data := .seq ws.toArray }) ⟨_, Heap.get?_push_size _ rfl, rfl, 0, rfl⟩ (fun _ q => by cases q)
  exact ⟨_, e, r, .tup (.inr ⟨rfl, rfl⟩) hl (hv.mono e.mono)⟩
/-- a new list -/
theorem new_list (hr : HR S as T H h) (k : ∀ b o, h.get? b = some o → h'.get? b = some o) {a : Addr} (hsz : h.objs.size ≤ a) {l : List V} {ws : List Value} {n : Nat} (ho : h'.get? a = some (lst ws n)) (hv : VRs S.fa as T l ws) (hl : l.length ≤ lim) :
    Ext Nil as T h (as ++ [(a, none)]) T h' ∧ HR S (as ++ [(a, none)]) T (H ++ [.list l]) h' ∧ VR S.fa (as ++ [(a, none)]) T (.loc H.length) (.ref a) := by
  have ha : h.get? a = none := by
    cases e : h.get? a with
    | none => rfl
    | some o => exact absurd (Heap.lt_size e) (Nat.not_lt.mpr hsz)
  have m : Mono as T (as ++ [(a, none)]) T := ⟨fun n q e => getElem?_append_some e, fun _ _ e => e⟩
  refine ⟨⟨m, fun b o _ _ e => k b o e, fun b hb _ => hb.elim, fun b hb => ?_⟩, hr.alloc k (by simp) (by simpa using hsz) (.list ho hl (hv.mono m)), ?_⟩
  · rw [owned_append] at hb
    rcases List.mem_append.mp hb with q | q
    · exact .inl q
    · simp [owned] at q; subst q; exact .inr ha
  · exact .loc (p := (a, none)) (by rw [List.getElem?_append_right (by rw [hr.len]; exact Nat.le_refl _), hr.len, Nat.sub_self]; rfl)
theorem push_list (hr : HR S as T H h) {l : List V} {ws : List Value} (hv : VRs S.fa as T l ws) (hl : l.length ≤ lim) :
    Ext Nil as T h (as ++ [(h.objs.size, none)]) T (h.push { cls := .type "list", data := .seq ws.toArray }) ∧ HR S (as ++ [(h.objs.size, none)]) T (H ++ [.list l]) (h.push { cls := .type "list", data := .seq ws.toArray }) ∧ VR S.fa (as ++ [(h.objs.size, none)]) T (.loc H.length) (.ref h.objs.size) :=
  new_list (n := 0) hr (keep_push { cls := .type "list", data := .seq ws.toArray }) (Nat.le_refl _) (Heap.get?_push_size _ rfl) hv hl

/-- a value that is a place of the small heap -/
theorem VR.locE {n : Nat} (x : VR S.fa as T (.loc n) w) : ∃ p, as[n]? = some p ∧ w = .ref p.1 := by
  cases x with | loc e => exact ⟨_, e, rfl⟩
theorem HR.listAt (hr : HR S as T H h) {n : Nat} {l : List V} (hl : H[n]? = some (.list l)) (x : VR S.fa as T (.loc n) w) :
    ∃ a ws k, w = .ref a ∧ as[n]? = some (a, none) ∧ h.get? a = some (lst ws k) ∧ l.length ≤ lim ∧ VRs S.fa as T l ws := by
  obtain ⟨p, e, rfl⟩ := x.locE
  have := hr.obj n _ p hl e
  cases this with
  | list e1 e2 e3 => exact ⟨_, _, _, rfl, e, e1, e2, e3⟩
theorem HR.dictAt (hr : HR S as T H h) {n : Nat} {es : List (List Nat × V)} (hl : H[n]? = some (.dict es)) (x : VR S.fa as T (.loc n) w) :
    ∃ a ds, w = .ref a ∧ as[n]? = some (a, none) ∧ h.DictOf (strKind S.prog S.w) a ds ∧ es.length ≤ 1024 ∧ DR S as T es ds := by
  obtain ⟨p, e, rfl⟩ := x.locE
  have := hr.obj n _ p hl e
  cases this with
  | dict e1 e2 e3 => exact ⟨_, _, rfl, e, e1, e2, e3⟩
theorem HR.instAt (hr : HR S as T H h) {n c : Nat} {fs : List (Nat × V)} (hl : H[n]? = some (.inst c fs)) (x : VR S.fa as T (.loc n) w) :
    ∃ a dx C f, w = .ref a ∧ as[n]? = some (a, some dx) ∧ c < 5 ∧ S.ca[c]? = some C ∧ h.get? a = some (instObj C dx) ∧ h.Ns1 dx f ∧ FR S as T fs f := by
  obtain ⟨p, e, rfl⟩ := x.locE
  have := hr.obj n _ p hl e
  cases this with
  | inst e0 e1 e2 e3 e4 => exact ⟨_, _, _, _, rfl, e, e0, e1, e2, e3, e4⟩
theorem HR.noT_list (hr : HR S as T H h) {a : Addr} {ws : List Value} {k : Nat} (e : h.get? a = some (lst ws k)) (ho : a ∈ owned as) (i : Im) : ¬ T a i := fun t => by
  have := hr.im a i t
  cases i with
  | tup us => obtain ⟨o', e', c, _⟩ := this; rw [e] at e'; cases e'; simp [lst] at c
  | ro us => obtain ⟨o, q⟩ := hr.ro a us t; rw [hr.new a ho] at q; cases q
  | rng i j l => obtain ⟨t, u, v, e'⟩ := this; have e2 := e.symm.trans e'; simp [lst] at e2
theorem HR.noT_cls (hr : HR S as T H h) {a : Addr} {o : Obj} (e : h.get? a = some o) (h1 : o.cls ≠ .type "tuple") (h2 : o.cls ≠ .type "list") (h3 : o.cls ≠ .type "range") (i : Im) : ¬ T a i := fun t => by
  have := hr.im a i t
  cases i with
  | tup us => obtain ⟨o', e', c, _⟩ := this; rw [e] at e'; cases e'; exact h1 c
  | ro us => obtain ⟨o', e', c, _⟩ := this; rw [e] at e'; cases e'; exact h2 c
  | rng i j l => obtain ⟨t, u, v, e'⟩ := this; have e2 := e.symm.trans e'; cases e2; exact h3 rfl
theorem HR.noT_dict (hr : HR S as T H h) {a : Addr} {ds : List (Str × Value)} (e : h.DictOf (strKind S.prog S.w) a ds) (i : Im) : ¬ T a i := by
  obtain ⟨o, es, ep, q, x, _⟩ := e
  exact hr.noT_cls q (by rw [x.1]; decide) (by rw [x.1]; decide) (by rw [x.1]; decide) i

/-- an owned thing changes in place -/
theorem Ext.upd {a : Addr} (ho : a ∈ owned as) (k : ∀ b o, b ≠ a → h.get? b = some o → h'.get? b = some o) : Ext Nil as T h as T h' :=
  ⟨.refl .., fun b o n _ e => k b o (fun q => n (q ▸ ho)) e, fun b hb _ => hb.elim, fun b hb => .inl hb⟩
/-- a list of the small heap has changed -/
theorem list_set (hr : HR S as T H h) {n : Nat} {l l' : List V} {a : Addr} {ws ws' : List Value} {k k' : Nat} (hl : H[n]? = some (.list l)) (hp : as[n]? = some (a, none)) (e : h.get? a = some (lst ws k))
    (kp : ∀ b o, b ≠ a → h.get? b = some o → h'.get? b = some o) (e' : h'.get? a = some (lst ws' k')) (hl' : l'.length ≤ lim) (hv : VRs S.fa as T l' ws') : Ext Nil as T h as T h' ∧ HR S as T (H.set n (.list l')) h' := by
  have ho : a ∈ owned as := (mem_owned hp).1
  exact ⟨.upd ho kp, hr.upd hp (List.getElem?_eq_some_iff.mp hl).1 (.head _) kp (.list e' hl' hv) (hr.noT_list e ho)⟩
theorem keepBut_update {a : Addr} {f : Obj → Obj} : ∀ b o, b ≠ a → h.get? b = some o → (h.update a f).get? b = some o := fun b o n e => (Heap.get?_update_other h f (Ne.symm n)).trans e
theorem get_update_list {a : Addr} {ws ws' : List Value} {k : Nat} {f : Array Value → Array Value} (e : h.get? a = some (lst ws k)) (hf : f ws.toArray = ws'.toArray) : ∃ k', (h.update a (Obj.mapSeq f)).get? a = some (lst ws' k') := by
  have q := IsL.update (h := h) (l := a) e f
  rw [hf] at q
  exact ⟨_, q⟩
end
end Mine

namespace Mine
section
variable {S : Sur} {as as1 : As} {T T1 : TS} {H H' : Hp} {h h' h1 : Heap} {s : Shared} {v : V} {w : Value} {Q : Value → Shared → Prop} {A : Around} {E : Value → Shared → Prop}

theorem VR.handed (x : VR S.fa as T v w) : handedIn w = true := by cases x <;> rfl
theorem lim_size {n : Nat} (h : n ≤ lim) : n ≤ sizeLine := Nat.le_trans h (by decide)
theorem lim_63 {n : Nat} (h : n ≤ lim) : (n : Int) < 2 ^ 63 := by
  have : n ≤ 1048576 := h
  omega

theorem find_ns {es : Array DictEntry} {x : Str} {u : Value} (hf : nsFind es x = some u) : ∃ e, es.toList.find? (·.key.isStr x) = some e ∧ e.val = u := by
  unfold nsFind findBy at hf
  rw [← Array.find?_toList] at hf
  obtain ⟨e, h1, h2⟩ := Option.map_eq_some_iff.mp hf
  exact ⟨e, h1, h2⟩
theorem lookIn_some {od : Obj} {es : Array DictEntry} {ep : Nat} {x : Str} {u : Value} (hd : od.data = .dict es ep) (hf : nsFind es x = some u) : lookIn x od = some (some u) := by
  obtain ⟨e, h1, rfl⟩ := find_ns hf
  unfold lookIn
  rw [hd]
  dsimp only
  rw [h1]
theorem lookIn_none {od : Obj} {es : Array DictEntry} {ep : Nat} {x : Str} (hd : od.data = .dict es ep) (hk : StrKeys es) (hf : nsFind es x = none) : lookIn x od = some none := by
  unfold nsFind findBy at hf
  rw [← Array.find?_toList, Option.map_eq_none_iff] at hf
  unfold lookIn
  rw [hd]
  dsimp only
  rw [hf, if_neg]
  intro q
  obtain ⟨e, he, hr⟩ := List.any_eq_true.mp q
  obtain ⟨n, t, hkey⟩ := hk e (Array.mem_toList_iff.mp he)
  rw [DictEntry.refKey, hkey] at hr
  cases hr

theorem inst_at {a dx C : Addr} {f : Str → Option Value} (h1 : h.get? a = some (instObj C dx)) (h2 : h.Ns1 dx f) : ∃ od es ep, W.InstAt h a (instObj C dx) C (some od) ∧ od.data = .dict es ep ∧ StrKeys es ∧ ∀ x, nsFind es x = f x := by
  obtain ⟨o, es, ep, e, d, k, _, g⟩ := h2
  exact ⟨o, es, ep, ⟨h1, rfl, rfl, e⟩, d, k, g⟩

theorem getA_ok (C : Cx S) (hr : HR S as T H s.heap) {o : V} {a : Nat} (x : VR S.fa as T o w) (e : getA H o a = some v) {ex : Bool} (k : ∀ u tk, VR S.fa as T v u → Q u { s with toks := tk }) : wpAny (model S.prog S.w) A (getAttr w (nmOf a) ex) Q E s := by
  obtain ⟨n, hx, e1⟩ := onN_some e; subst hx; clear e; have e := e1; clear e1
  obtain ⟨c, fs, hn, e⟩ := atI_some e
  obtain ⟨p, dx, C', f, rfl, hp, c5, hC, h1, h2, h3, h4⟩ := hr.instAt hn x
  obtain ⟨a22, u, hu, vr⟩ := h3 a v e
  obtain ⟨ci, hci, ok⟩ := C.cls c C' c5 hC
  obtain ⟨od, es, ep, I, d, sk, g⟩ := inst_at h1 h2
  obtain ⟨at', ha, hn'⟩ := ok.attr a a22
  exact get_value (C.X.keeps hr.base) I ok.get.1 (findObj_own ok.hasDict ha hn' (lookIn_some d ((g _).trans hu))) vr.handed (k u _ vr)
theorem nmOf_inj {i j : Nat} (hi : i < 22) (hj : j < 22) (e : nmOf i = nmOf j) : i = j := by
  have h : ∀ i, i < 22 → ∀ j, j < 22 → nmOf i = nmOf j → i = j := by decide +kernel
  exact h i hi j hj e
theorem nms_mem {i : Nat} (hi : i < 22) : nmOf i ∈ NMS := by
  have h : ∀ i, i < 22 → nmOf i ∈ NMS := by decide +kernel
  exact h i hi
theorem within_nms {fs : List (Nat × V)} {f : Str → Option Value} (x : FR S as T fs f) : Within f NMS := by
  intro y hy
  cases e : f y with
  | none => exact absurd e hy
  | some u =>
    obtain ⟨i, hi, rfl, _⟩ := x.2 y u e
    have h : ∀ i, i < 22 → nmOf i ∈ NMS := by decide +kernel
    exact h i hi

theorem lookN_putN {α : Type} (i j : Nat) (v : α) : ∀ fs : List (Nat × α), lookN j (putN i v fs) = if j = i then some v else lookN j fs
  | [] => by
    simp only [putN, lookN]
    by_cases h : j = i
    · subst h; simp
    · have : ¬ i = j := fun q => h q.symm
      simp [h, this]
  | (k, u) :: r => by
    have ih := lookN_putN i j v r
    by_cases hk : k = i
    · subst hk
      by_cases h : j = k
      · subst h; simp [putN, lookN]
      · have : ¬ k = j := fun q => h q.symm
        simp [putN, lookN, h, this]
    · by_cases h : k = j
      · subst h; simp [putN, lookN, hk]
      · simp [putN, lookN, hk, h, ih]

/-- the store of a field, as the semantics does it -/
theorem setattr_raw {a dx C' : Addr} {f : Str → Option Value} {name : Str} {u : Value} {Q : Unit → Shared → Prop} (C : Cx S) (hb : ∀ b o, S.h0.get? b = some o → s.heap.get? b = some o) (h1 : s.heap.get? a = some (instObj C' dx)) (h2 : s.heap.Ns1 dx f)
    (hs : findIn S.K (.ref C') "__setattr__" = some (some (.builtin "object.__setattr__"))) (hp : plainOver S.K C' = true) (ht : takerIn S.K C' name = some none) (hh : hasDictIn S.K C' = true) (hw : Within f NMS) (hn : name ∈ NMS)
    (k : ∀ h' tk, h'.Ns1 dx (fun x => if x = name then some u else f x) → Heap.SameBut dx s.heap h' → Q () { s with heap := h', toks := tk }) : wpAny (model S.prog S.w) A (setAttr (.ref a) name u) Q E s := by
  obtain ⟨od, es, ep, I, d, sk, g⟩ := inst_at h1 h2
  have X := C.X.keeps hb
  refine set_plain X I hs (osa_open (s := { s with toks := s.toks + 1 }) X I hp ht fun b => ?_)
  obtain ⟨cd, hc, hd'⟩ := any_some hh
  refine wpAny_bind (wpAny_pure (wpAny_bind (wpAny_bind (wpAny_loadPart h1 (wpAny_bind (Looks.here (s := { s with toks := s.toks + 1 }) (looks_clsIn X hc) ?_))))))
  rw [hd']
  refine wpAny_pure (a := some dx) (wpAny_bind (wpAny_pure (wpAny_bind ?_)))
  refine wpAny_nsSet1EFk (s := { s with toks := s.toks + 1 }) h2 fun h' n' sb _ => ?_
  obtain ⟨oD, esD, epD, hoD, hdD, hcD⟩ := n'.count (ns := name :: NMS) (Within.cons name u hw)
  refine wpAny_bind (wpAny_lookBehind hoD (by rw [hdD]; exact pastItsLine_dict (Nat.le_trans hcD (by rw [List.length_cons, show NMS.length = 22 from by decide +kernel]; decide))) ?_)
  exact wpAny_pure (k h' _ n' sb)

theorem setA_ok (C : Cx S) (hr : HR S as T H s.heap) {o : V} {a : Nat} {u : Value} {Q : Unit → Shared → Prop} (x : VR S.fa as T o w) (y : VR S.fa as T v u) (ha : a < 22) (e : setA H o a v = some H') (k : RetU S as T s H' Q) : wpAny (model S.prog S.w) A (setAttr w (nmOf a) u) Q E s := by
  obtain ⟨n, hx, e1⟩ := onN_some e; subst hx; clear e; have e := e1; clear e1
  obtain ⟨c, fs, hn, e⟩ := atI_some e
  cases e
  obtain ⟨p, dx, C', f, rfl, hp, c5, hC, h1, h2, h3⟩ := hr.instAt hn x
  obtain ⟨ci, hci, ok⟩ := C.cls c C' c5 hC
  have dxo : dx ∈ owned as := (mem_owned hp).2 dx rfl
  have ndx : ∀ i, ¬ T dx i := by
    obtain ⟨o, es, ep, q, d, _⟩ := id h2
    intro i t
    have := hr.im dx i t
    cases i with
    | tup us => obtain ⟨o', e', c, _, d'⟩ := this; rw [q] at e'; cases e'; rw [d] at d'; cases d'
    | ro us => obtain ⟨o', e', c, _, d'⟩ := this; rw [q] at e'; cases e'; rw [d] at d'; cases d'
    | rng i j l => obtain ⟨t, u, v, e'⟩ := this; have e2 := q.symm.trans e'; cases e2; cases d
  have pne : p ≠ dx := by
    intro q
    obtain ⟨o, es, ep, q', d, _⟩ := id h2
    rw [← q, h1] at q'; cases q'; cases d
  refine setattr_raw C hr.base h1 h2 ok.set ok.over (ok.take a ha) ok.hasDict (within_nms h3) (nms_mem ha) fun h' tk n' sb => ?_
  have kp : ∀ b o, b ≠ dx → s.heap.get? b = some o → h'.get? b = some o := fun b o hb e => (sb.2 b hb).trans e
  refine k h' tk as T (.upd dxo kp) (hr.upd hp (List.getElem?_eq_some_iff.mp hn).1 (.tail _ (.head _)) kp (.inst c5 hC (kp _ _ pne h1) n' ⟨fun i v' e => ?_, fun z w' e => ?_⟩) ndx)
  · rw [lookN_putN] at e
    by_cases hi : i = a
    · subst hi; simp at e; subst e
      exact ⟨ha, u, by simp, y⟩
    · rw [if_neg hi] at e
      obtain ⟨i22, w'', e1, e2⟩ := h3.1 i v' e
      refine ⟨i22, w'', ?_, e2⟩
      show (if nmOf i = nmOf a then some u else f (nmOf i)) = some w''
      rw [if_neg (fun q => hi (nmOf_inj i22 ha q))]; exact e1
  · by_cases hz : z = nmOf a
    · exact ⟨a, ha, hz, by rw [lookN_putN]; simp⟩
    · have e : (if z = nmOf a then some u else f z) = some w' := e
      rw [if_neg hz] at e
      obtain ⟨i, hi, hz', hl⟩ := h3.2 z w' e
      refine ⟨i, hi, hz', ?_⟩
      rw [lookN_putN]
      by_cases q : i = a
      · simp [q]
      · rw [if_neg q]; exact hl

/-- a method of the text's own class -/
theorem meth_ok (C : Cx S) (hr : HR S as T H s.heap) {n c : Nat} {fs : List (Nat × V)} {ci : CI} {m k : Nat} {pl : Sem Bool} {Q : Value × List Value → Shared → Prop} (x : VR S.fa as T (.loc n) w) (hn : H[n]? = some (.inst c fs)) (hci : S.P.cls[c]? = some ci) (hm : lookN m ci.meths = some k)
    (q : ∀ a, S.fa[k]? = some a → Q (.ref a, [w]) s) : wpAny (model S.prog S.w) A (getMethod w (mmOf m) pl) Q E s := by
  obtain ⟨p, dx, C', f, rfl, hp, c5, hC, h1, h2, h3⟩ := hr.instAt hn x
  obtain ⟨ci', hci', ok⟩ := C.cls c C' c5 hC
  rw [hci] at hci'; cases hci'
  obtain ⟨od, es, ep, I, d, sk, g⟩ := inst_at h1 h2
  obtain ⟨a, ha, hf, ht⟩ := ok.meth m k hm
  have hno : f (mmOf m) = none := by
    cases e : f (mmOf m) with
    | none => rfl
    | some u =>
      obtain ⟨i, hi, q, _⟩ := h3.2 _ _ e
      have := ok.apart m k i hm hi
      rw [← q] at this
      simp at this
  exact method_fn (C.X.keeps hr.base) I ok.get.1 ok.get.2 hf ht (by show (lookIn (mmOf m) od).map _ = _; rw [lookIn_none d sk ((g _).trans hno)]; rfl) (q a ha)
end
end Mine

namespace Mine
section
variable {S : Sur} {as as1 : As} {T T1 : TS} {H H' : Hp} {h h' h1 : Heap} {s : Shared} {v : V} {w : Value} {Q : Value → Shared → Prop} {A : Around} {E : Value → Shared → Prop}

/-- a list has changed in place: what comes back -/
theorem ret_list {n : Nat} {l l' : List V} {a : Addr} {ws ws' : List Value} {k k' : Nat} {r : V} {u : Value} (hr : HR S as T H s.heap) (hl : H[n]? = some (.list l)) (hp : as[n]? = some (a, none)) (e : s.heap.get? a = some (lst ws k))
    (kp : ∀ b o, b ≠ a → s.heap.get? b = some o → h'.get? b = some o) (e' : h'.get? a = some (lst ws' k')) (hl' : l'.length ≤ lim) (hv : VRs S.fa as T l' ws') (vr : VR S.fa as T r u) (q : Ret S as T s (H.set n (.list l')) r Q) (tk : Tok) : Q u { s with heap := h', toks := tk } := by
  obtain ⟨x1, x2⟩ := list_set hr hl hp e kp e' hl' hv
  exact q u h' tk as T x1 x2 vr

theorem append_ok {n : Nat} {l : List V} {x : V} {u : Value} (hr : HR S as T H s.heap) (vn : VR S.fa as T (.loc n) w) (vx : VR S.fa as T x u) (hl : H[n]? = some (.list l)) (hlen : l.length < lim) (q : Ret S as T s (H.set n (.list (l ++ [x]))) .none Q) :
    wpAny (model S.prog S.w) A (call (.builtin "list.append") [w, u]) Q E s := by
  obtain ⟨a, ws, k, rfl, hp, e, hz, hv⟩ := hr.listAt hl vn
  have hwl := hv.length
  refine append_at (its := ws.toArray) (n := k) e (fun h' sb e' => ?_) (by rw [List.size_toArray, hwl]; exact lim_size hz)
  exact ret_list (ws' := ws ++ [u]) (k' := k + 1) hr hl hp e (fun b o nb q => (sb.2 b nb).trans q) (by rw [e']; simp [lst]) (by simp; exact hlen) (hv.append (.cons vx .nil)) .none q _

theorem pop_ok {n : Nat} {l : List V} {x : V} (hr : HR S as T H s.heap) (vn : VR S.fa as T (.loc n) w) (hl : H[n]? = some (.list l)) (hx : l.getLast? = some x) (q : Ret S as T s (H.set n (.list l.dropLast)) x Q) :
    wpAny (model S.prog S.w) A (call (.builtin "list.pop") [w]) Q E s := by
  obtain ⟨a, ws, k, rfl, hp, e, hz, hv⟩ := hr.listAt hl vn
  have hwl := hv.length
  rw [List.getLast?_eq_getElem?] at hx
  obtain ⟨u, hu, vu⟩ := hv.get _ hx
  have hy : ws.toArray[ws.toArray.size - 1]? = some u := by simp [hwl, hu]
  obtain ⟨k', e'⟩ := get_update_list (ws' := ws.dropLast) (f := fun xs => xs.eraseIdxIfInBounds (ws.toArray.size - 1)) e (by
    apply Array.toList_inj.mp
    have hlt : ws.length - 1 < ws.length := by
      have := (List.getElem?_eq_some_iff.mp hx).1; omega
    simp [Array.eraseIdxIfInBounds, hlt, List.eraseIdx_eq_dropLast, List.dropLast_eq_take])
  refine call_meets PySem.F.slot_list_pop ⟨_, e, rfl⟩ PySem.F.entry_list_pop (PySem.F.args_list_pop_1 _) (PySem.MeetsSeq.list_pop_last a ws.toArray k u hy (by rw [List.size_toArray, hwl]; exact lim_size hz)) ⟨e, ?_⟩
  have hd : VRs S.fa as T l.dropLast ws.dropLast := by
    rw [List.dropLast_eq_take, List.dropLast_eq_take, hwl]; exact hv.take _
  exact ret_list hr hl hp e keepBut_update e' (by simp; omega) hd vu q _

theorem extend_ok {n j : Nat} {l m : List V} {u : Value} (hr : HR S as T H s.heap) (vn : VR S.fa as T (.loc n) w) (vj : VR S.fa as T (.loc j) u) (hl : H[n]? = some (.list l)) (hm : H[j]? = some (.list m)) (hlen : l.length + m.length < lim)
    (q : Ret S as T s (H.set n (.list (l ++ m))) .none Q) : wpAny (model S.prog S.w) A (call (.builtin "list.extend") [w, u]) Q E s := by
  obtain ⟨a, ws, k, rfl, hp, e, hz, hv⟩ := hr.listAt hl vn
  obtain ⟨b, us, k2, rfl, hp2, e2, hz2, hv2⟩ := hr.listAt hm vj
  have hwl := hv.length
  have hul := hv2.length
  obtain ⟨k', e'⟩ := get_update_list (ws' := ws ++ us) (f := fun x => x ++ us.toArray) e (by simp)
  have hsum : ws.toArray.size + us.toArray.size ≤ sizeLine := by rw [List.size_toArray, List.size_toArray, hwl, hul]; exact lim_size (Nat.le_of_lt hlen)
  refine call_meets PySem.F.slot_list_extend ⟨_, e, rfl⟩ PySem.F.entry_list_extend (PySem.F.args_list_extend_2 _ _) (PySem.AutoSeq1.list_extend_list_list_0 a ws.toArray k b us.toArray k2 ?_ (by omega) (by omega)) ⟨e, e2, ?_⟩
  · intro q'
    simp only [Bool.and_eq_true, Builtin.List.listTooLong, decide_eq_true_eq] at q'
    have := q'.2
    omega
  · exact ret_list hr hl hp e keepBut_update e' (by simp; omega) (hv.append hv2) .none q _

theorem reverse_ok {n : Nat} {l : List V} (hr : HR S as T H s.heap) (vn : VR S.fa as T (.loc n) w) (hl : H[n]? = some (.list l)) (q : Ret S as T s (H.set n (.list l.reverse)) .none Q) :
    wpAny (model S.prog S.w) A (call (.builtin "list.reverse") [w]) Q E s := by
  obtain ⟨a, ws, k, rfl, hp, e, hz, hv⟩ := hr.listAt hl vn
  have hwl := hv.length
  obtain ⟨k', e'⟩ := get_update_list (ws' := ws.reverse) (f := fun x => x.reverse) e (by simp)
  refine call_meets PySem.F.slot_list_reverse ⟨_, e, rfl⟩ PySem.F.entry_list_reverse (PySem.F.args_list_reverse_1 _) (PySem.AutoSeq1.list_reverse_list_0 a ws.toArray k (by rw [List.size_toArray, hwl]; exact lim_size hz)) ⟨e, ?_⟩
  exact ret_list hr hl hp e keepBut_update e' (by simpa using hz) hv.reverse .none q _

/-- a list that is made: what comes back -/
theorem ret_new {l : List V} {ws : List Value} {n : Nat} (hr : HR S as T H s.heap) (k : ∀ b o, s.heap.get? b = some o → h'.get? b = some o) (ho : h'.get? s.heap.objs.size = some (lst ws n)) (hv : VRs S.fa as T l ws) (hl : l.length ≤ lim)
    (q : Ret S as T s (H ++ [.list l]) (.loc H.length) Q) (tk : Tok) : Q (.ref s.heap.objs.size) { s with heap := h', toks := tk } := by
  obtain ⟨x1, x2, x3⟩ := new_list hr k (Nat.le_refl _) ho hv hl
  exact q _ h' tk _ _ x1 x2 x3

theorem addList_ok {i j : Nat} {l m : List V} {u : Value} (hr : HR S as T H s.heap) (vn : VR S.fa as T (.loc i) w) (vj : VR S.fa as T (.loc j) u) (hl : H[i]? = some (.list l)) (hm : H[j]? = some (.list m)) (hlen : l.length + m.length ≤ lim)
    (q : Ret S as T s (H ++ [.list (l ++ m)]) (.loc H.length) Q) : wpAny (model S.prog S.w) A (binaryOp .Add w u) Q E s := by
  obtain ⟨a, ws, k, rfl, hp, e, hz, hv⟩ := hr.listAt hl vn
  obtain ⟨b, us, k2, rfl, hp2, e2, hz2, hv2⟩ := hr.listAt hm vj
  have hsum : ws.toArray.size + us.toArray.size ≤ sizeLine := by rw [List.size_toArray, List.size_toArray, hv.length, hv2.length]; exact lim_size hlen
  refine concat_meets ⟨_, e, rfl⟩ ⟨_, e2, rfl⟩ noFill_list_add seq_list_add PySem.F.slot_list_add PySem.F.entry_list_add (PySem.F.args_list_add_2 _ _) (list_addW a b ws.toArray us.toArray k k2 none none #[] #[] hsum) ⟨e, e2, ?_⟩
  rw [show ws.toArray ++ us.toArray = (ws ++ us).toArray by simp]
  exact ret_new hr (keep_push (lst (ws ++ us) 0)) (Heap.get?_push_size _ rfl) (hv.append hv2) (by simpa using hlen) q _

theorem listCopy_ok {i : Nat} {l : List V} (hr : HR S as T H s.heap) (vn : VR S.fa as T (.loc i) w) (hl : H[i]? = some (.list l)) (q : Ret S as T s (H ++ [.list l]) (.loc H.length) Q) : wpAny (model S.prog S.w) A (call (.type "list") [w]) Q E s := by
  obtain ⟨a, ws, k, rfl, hp, e, hz, hv⟩ := hr.listAt hl vn
  exact call_list_seq (hsz := by rw [List.size_toArray, hv.length]; exact lim_size hz) a (.inl rfl) e rfl rfl fun h' c' hk hD => ret_new hr hk hD hv hz q _
theorem tupE {l : List V} (hr : HR S as T H h) (x : VR S.fa as T (.tup l) w) : ∃ a ws, w = .ref a ∧ h.IsTuple a ws.toArray ∧ l.length ≤ lim ∧ VRs S.fa as T l ws := by
  cases x with
  | tup t hl hv => exact ⟨_, _, rfl, hr.im _ _ t, hl, hv⟩
theorem listTup_ok {l : List V} (hr : HR S as T H s.heap) (vn : VR S.fa as T (.tup l) w) (q : Ret S as T s (H ++ [.list l]) (.loc H.length) Q) : wpAny (model S.prog S.w) A (call (.type "list") [w]) Q E s := by
  obtain ⟨a, ws, rfl, ⟨o, e, c, n, d⟩, hz, hv⟩ := tupE hr vn
  exact call_list_seq (hsz := by rw [List.size_toArray, hv.length]; exact lim_size hz) a (.inr rfl) e c d fun h' c' hk hD => ret_new hr hk hD hv hz q _

/-- items -/
theorem item_list_ok {n : Nat} {l : List V} {i : Int} {t : Tok} {x : V} (hr : HR S as T H s.heap) (vn : VR S.fa as T (.loc n) w) (hl : H[n]? = some (.list l)) (hi : 0 ≤ i) (hx : l[i.toNat]? = some x) (q : ∀ u, VR S.fa as T x u → Q u s) :
    wpAny (model S.prog S.w) A (getItem w (.int i t)) Q E s := by
  obtain ⟨a, ws, k, rfl, hp, e, hz, hv⟩ := hr.listAt hl vn
  obtain ⟨u, hu, vu⟩ := hv.get _ hx
  have h1 := (List.getElem?_eq_some_iff.mp hx).1
  exact wpAny_getItem_list ⟨_, e, rfl, k, rfl⟩ hi (by have := lim_63 hz; omega) (by simpa using hu) (q u vu)
theorem item_tup_ok {l : List V} {i : Int} {t : Tok} {x : V} (hr : HR S as T H s.heap) (vn : VR S.fa as T (.tup l) w) (hi : 0 ≤ i) (hx : l[i.toNat]? = some x) (q : ∀ u, VR S.fa as T x u → Q u s) :
    wpAny (model S.prog S.w) A (getItem w (.int i t)) Q E s := by
  obtain ⟨a, ws, rfl, e, hz, hv⟩ := tupE hr vn
  obtain ⟨u, hu, vu⟩ := hv.get _ hx
  have h1 := (List.getElem?_eq_some_iff.mp hx).1
  have h2 := lim_63 hz
  refine getItem_tuple (j := i.toNat) e (by omega) (by omega) ?_ (by simpa using hu) (q u vu)
  unfold seqIndex?
  rw [List.size_toArray, hv.length]
  simp only [show ¬ i < 0 by omega, if_false]
  rw [if_pos (by simp; omega)]

theorem setItem_list_ok {n : Nat} {l : List V} {i : Int} {t : Tok} {x : V} {u : Value} {Q : Unit → Shared → Prop} (hr : HR S as T H s.heap) (vn : VR S.fa as T (.loc n) w) (vx : VR S.fa as T x u) (hl : H[n]? = some (.list l)) (hi : 0 ≤ i) (hx : i.toNat < l.length)
    (q : RetU S as T s (H.set n (.list (l.set i.toNat x))) Q) : wpAny (model S.prog S.w) A (setItem w (.int i t) u) Q E s := by
  obtain ⟨a, ws, k, rfl, hp, e, hz, hv⟩ := hr.listAt hl vn
  have hwl := hv.length
  refine ki_setAt e hi (by have := lim_63 hz; omega) (by rw [List.size_toArray, hwl]; omega) ?_
  obtain ⟨k', e'⟩ := get_update_list (ws' := ws.set i.toNat u) (f := fun x => x.setIfInBounds i.toNat u) e (by apply Array.toList_inj.mp; simp)
  obtain ⟨x1, x2⟩ := list_set (l' := l.set i.toNat x) hr hl hp e keepBut_update e' (by simpa using hz) (hv.set _ vx)
  exact q _ _ as T x1 x2

/-- arithmetic -/
theorem fdiv_pos {i j : Int} (h : 0 < j) : Int.fdiv i j = i / j := Int.fdiv_eq_ediv_of_nonneg _ (Int.le_of_lt h)
theorem fmod_pos {i j : Int} (h : 0 < j) : Int.fmod i j = i % j := Int.fmod_eq_emod_of_nonneg _ (Int.le_of_lt h)
end
end Mine

namespace Mine
section
variable {S : Sur} {as as1 : As} {T T1 : TS} {H H' : Hp} {h h' h1 : Heap} {s : Shared} {v : V} {w : Value} {Q : Value → Shared → Prop} {A : Around} {E : Value → Shared → Prop}

theorem strE {x : List Nat} (h : VR S.fa as T (.str x) w) : ∃ t, w = .str ⟨x.toArray⟩ t ∧ x.length ≤ lim := by
  cases h with | str _ t hl => exact ⟨t, rfl, hl⟩
theorem intE {i : Int} (h : VR S.fa as T (.int i) w) : ∃ t, w = .int i t := by
  cases h with | int _ t => exact ⟨t, rfl⟩
theorem boolE {b : Bool} (h : VR S.fa as T (.bool b) w) : w = .bool b := by cases h; rfl
theorem noneE (h : VR S.fa as T .none w) : w = .none := by cases h; rfl

theorem small_div {i j : Int} (h1 : 0 < j) (h2 : j < 1152921504606846976) : Builtin.divisionGoesByPylong i j = false := by
  unfold Builtin.divisionGoesByPylong
  dsimp only
  have hj : ¬ (j == 0) = true := by intro q; have := beq_iff_eq.mp q; omega
  have hlog : j.natAbs.log2 < 61 := (Nat.log2_lt (by omega)).mpr (by omega)
  have : ¬ (if (j == 0) = true then 0 else j.natAbs.log2 / 30 + 1) > 300 := by rw [if_neg hj]; omega
  rw [decide_eq_false this]; rfl
theorem small_bits {i : Int} (h : i.natAbs < 1152921504606846976) : Builtin.Int.intBits i ≤ 62 := by
  unfold Builtin.Int.intBits
  by_cases h0 : i = 0
  · subst h0; decide
  · have hlog : i.natAbs.log2 < 60 := (Nat.log2_lt (by omega)).mpr (by omega)
    first | (split <;> omega) | omega | (simp; omega)
theorem small_mul {i j : Int} (h : i.natAbs < 1152921504606846976) : IntMulOk i j := by
  have := small_bits h
  unfold IntMulOk
  have h1 : ¬ Builtin.Int.intBits i > shortFactorBits := by show ¬ _ > 64; omega
  rw [decide_eq_false h1]
  simp

theorem addTup_ok {l m : List V} {u : Value} (hr : HR S as T H s.heap) (vn : VR S.fa as T (.tup l) w) (vj : VR S.fa as T (.tup m) u) (hlen : l.length + m.length ≤ lim) (q : Ret S as T s H (.tup (l ++ m)) Q) : wpAny (model S.prog S.w) A (binaryOp .Add w u) Q E s := by
  obtain ⟨a, ws, rfl, ht, hz, hv⟩ := tupE hr vn
  obtain ⟨b, us, rfl, hb, hz2, hv2⟩ := tupE hr vj
  obtain ⟨⟨cls, dd, data, sl⟩, ho, hc, n, hd⟩ := id ht
  obtain ⟨⟨cls2, dd2, data2, sl2⟩, ho2, hc2, n2, hd2⟩ := id hb
  simp only at hc hd hc2 hd2
  subst hc hd hc2 hd2
  by_cases hw : ws = []
  · refine concat_meets ⟨_, ho, rfl⟩ ⟨_, ho2, rfl⟩ noFill_tuple_add seq_tuple_add PySem.F.slot_tuple_add PySem.F.entry_tuple_add (PySem.F.args_tuple_add_2 _ _)
      (tuple_addW0 a b ws.toArray us.toArray n n2 dd dd2 sl sl2 (by simp [hw])) ⟨ho, ho2, ?_⟩
    have : l = [] := List.length_eq_zero_iff.mp (by rw [← hv.length, hw]; rfl)
    subst this
    exact Ret.now q hr (by simpa using vj)
  · by_cases hu : us = []
    · refine concat_meets ⟨_, ho, rfl⟩ ⟨_, ho2, rfl⟩ noFill_tuple_add seq_tuple_add PySem.F.slot_tuple_add PySem.F.entry_tuple_add (PySem.F.args_tuple_add_2 _ _)
        (tuple_addW1 a b ws.toArray us.toArray n n2 dd dd2 sl sl2 (by simpa using hw) (by simp [hu])) ⟨ho, ho2, ?_⟩
      have : m = [] := List.length_eq_zero_iff.mp (by rw [← hv2.length, hu]; rfl)
      subst this
      exact Ret.now q hr (by simpa using vn)
    · refine concat_meets ⟨_, ho, rfl⟩ ⟨_, ho2, rfl⟩ noFill_tuple_add seq_tuple_add PySem.F.slot_tuple_add PySem.F.entry_tuple_add (PySem.F.args_tuple_add_2 _ _)
        (tuple_addW2 a b ws.toArray us.toArray n n2 dd dd2 sl sl2 (by simpa using hw) (by simpa using hu) (by rw [List.size_toArray, List.size_toArray, hv.length, hv2.length]; exact lim_size hlen)) ⟨ho, ho2, ?_⟩
      rw [show ws.toArray ++ us.toArray = (ws ++ us).toArray by simp]
      obtain ⟨T', x1, x2, x3⟩ := push_tup hr (hv.append hv2) (by simpa using hlen)
      exact q _ _ _ _ _ x1 x2 x3

theorem str_app (x y : List Nat) : (⟨x.toArray⟩ : Str) ++ (⟨y.toArray⟩ : Str) = (⟨(x ++ y).toArray⟩ : Str) := by
  show (⟨x.toArray ++ y.toArray⟩ : Str) = _
  simp
theorem str_len (x : List Nat) : (⟨x.toArray⟩ : Str).length = x.length := by
  show x.toArray.size = _
  simp

theorem repL_length {α : Type} (l : List α) : ∀ n, (repL l n).length = n * l.length
  | 0 => by simp [repL]
  | n + 1 => by rw [repL, List.length_append, repL_length l n, Nat.succ_mul]; omega
theorem foldl_rep {α : Type} (l : List α) : ∀ (n : Nat) (acc : List α), List.foldl (fun x1 x2 => x1 ++ x2) acc.toArray (List.replicate n l.toArray) = (acc ++ repL l n).toArray
  | 0, acc => by simp [repL]
  | n + 1, acc => by
    rw [List.replicate_succ, List.foldl_cons, show acc.toArray ++ l.toArray = (acc ++ l).toArray by simp, foldl_rep l n (acc ++ l), repL, List.append_assoc]
theorem mul_okS {x : List Nat} {j : Int} (h0 : 0 ≤ j) (h1 : x.length ≤ 1024) (h2 : j ≤ 1024) : MulOk ⟨x.toArray⟩ j := by
  refine ⟨by simp; omega, fun a b => ?_, fun a b => ?_⟩
  · rw [str_len]
    have : (1024 : Int) ≤ (2 ^ 63 - 1) / j := by
      rw [Int.le_ediv_iff_mul_le (by omega)]
      omega
    omega
  · rw [str_len]
    unfold Builtin.Str.tooLong
    have h3 : j.toNat ≤ 1024 := by omega
    have := Nat.mul_le_mul h1 h3
    have h4 : x.length * j.toNat ≤ sizeLine := Nat.le_trans this (by decide)
    simp; omega
theorem mul_txt (x : List Nat) {j : Int} (h0 : 0 ≤ j) : Txt.mul ⟨x.toArray⟩ j = (⟨(repL x j.toNat).toArray⟩ : Str) := by
  unfold Txt.mul
  by_cases h1 : j < 1
  · rw [if_pos h1]
    have : j.toNat = 0 := by omega
    rw [this]; rfl
  · rw [if_neg h1]
    split
    · rename_i hc
      rw [Bool.or_eq_true] at hc
      rcases hc with hc | hc
      · have : j = 1 := beq_iff_eq.mp hc
        subst this
        simp [repL]
      · rw [str_len] at hc
        have : x = [] := List.length_eq_zero_iff.mp (beq_iff_eq.mp hc)
        subst this
        have : repL ([] : List Nat) j.toNat = [] := List.length_eq_zero_iff.mp (by rw [repL_length]; simp)
        rw [this]
    · have := foldl_rep x j.toNat []
      simp only [List.nil_append] at this
      rw [← this]
theorem mulList_ok {n : Nat} {l : List V} {j : Int} {u : Value} (hr : HR S as T H s.heap) (vn : VR S.fa as T (.loc n) w) (vj : VR S.fa as T (.int j) u) (hl : H[n]? = some (.list l)) (h0 : 0 ≤ j) (h1 : l.length ≤ 1024) (h2 : j ≤ 1024)
    (q : Ret S as T s (H ++ [.list (repL l j.toNat)]) (.loc H.length) Q) : wpAny (model S.prog S.w) A (binaryOp .Mult w u) Q E s := by
  obtain ⟨a, ws, k, rfl, hp, e, hz, hv⟩ := hr.listAt hl vn
  obtain ⟨t, rfl⟩ := intE vj
  have hwl := hv.length
  have h3 : j.toNat ≤ 1024 := by omega
  have hm : ws.toArray.size * j.toNat ≤ 2 ^ 20 := by rw [List.size_toArray, hwl, show (2 : Nat) ^ 20 = 1024 * 1024 from rfl]; exact Nat.mul_le_mul h1 h3
  have rep : ∀ n, VRs S.fa as T (repL l n) (repL ws n) := by
    intro n
    induction n with
    | zero => exact .nil
    | succ n ih => exact hv.append ih
  refine wpAny_binaryOp_repeat_ref (T := "list") (U := "int") (by decide) ⟨_, e, rfl⟩ (fun s' => typeIs_int s' j t) noFill_list_mul F.fills_int_mul F.slot_int_rmul repeat_list F.slot_int_index.lookup
    (call_meets F.slot_int_rmul (typeIs_int s j t) F.entry_int_rmul (F.args_int_rmul_2 _ _) (int___rmul___int_list j t a ws.toArray k)
      ⟨e, rfl, ⟨_, e, rfl⟩, call_meets F.slot_list_mul ⟨_, e, rfl⟩ F.entry_list_mul (F.args_list_mul_2 _ _)
        (AutoListH.list___mul___list_int_3 a ws.toArray k j t (by simp [Builtin.List.listFitsIndex]; omega) (by omega) (by simp only [Builtin.List.listTooLong]; have : ws.toArray.size * j.toNat ≤ sizeLine := Nat.le_trans hm (by decide); simp; simpa using this))
        ⟨e, ?_⟩⟩)
  have hf : List.foldl (fun x1 x2 => x1 ++ x2) #[] (List.replicate (if ws.toArray.isEmpty = true then 0 else j.toNat) ws.toArray) = (repL ws j.toNat).toArray := by
    by_cases he : ws = []
    · subst he
      have : repL ([] : List Value) j.toNat = [] := List.length_eq_zero_iff.mp (by rw [repL_length]; simp)
      rw [this]; rfl
    · rw [if_neg (by simpa using he)]
      have := foldl_rep ws j.toNat []
      simpa using this
  rw [hf]
  exact ret_new hr (keep_push (lst (repL ws j.toNat) 0)) (Heap.get?_push_size _ rfl) (rep _) (by rw [repL_length]; exact Nat.le_trans (Nat.mul_le_mul h3 h1) (by decide)) q _

theorem addV_ok {a b r : V} {wa wb : Value} (e : addV a b H = some (r, H')) (hr : HR S as T H s.heap) (va : VR S.fa as T a wa) (vb : VR S.fa as T b wb) (q : Ret S as T s H' r Q) : wpAny (model S.prog S.w) A (binaryOp .Add wa wb) Q E s := by
  cases a with
  | int i =>
    obtain ⟨j, hx, e1⟩ := onI_some e; subst hx; clear e; have e := e1; clear e1
    cases e
    obtain ⟨t, rfl⟩ := intE va; obtain ⟨u, rfl⟩ := intE vb
    exact add_int (q.tok hr (.int _ _) _)
  | str x =>
    obtain ⟨y, hx, e1⟩ := onS_some e; subst hx; clear e; have e := e1; clear e1
    obtain ⟨hl, e⟩ := gd_some e
    cases e
    obtain ⟨t, rfl, h1⟩ := strE va; obtain ⟨u, rfl, h2⟩ := strE vb
    refine SBL.add (fun t' k _ => ?_) (by rw [str_len, str_len]; exact lim_size hl)
    rw [str_app]
    exact q.tok hr (.str _ _ (by rw [List.length_append]; exact hl)) _
  | tup l =>
    obtain ⟨m, hx, e1⟩ := onT_some e; subst hx; clear e; have e := e1; clear e1
    obtain ⟨hl, e⟩ := gd_some e
    cases e
    exact addTup_ok hr va vb hl q
  | loc i =>
    obtain ⟨j, hx, e1⟩ := onN_some e; subst hx; clear e; have e := e1; clear e1
    obtain ⟨l, h1, e⟩ := atL_some e
    obtain ⟨m, h2, e⟩ := atL_some e
    obtain ⟨hl, e⟩ := gd_some e
    cases e
    exact addList_ok hr va vb h1 h2 hl q
  | _ => first | exact ff e | exact nn e | cases e
theorem mulV_ok {a b r : V} {wa wb : Value} (e : mulV a b H = some (r, H')) (hr : HR S as T H s.heap) (va : VR S.fa as T a wa) (vb : VR S.fa as T b wb) (q : Ret S as T s H' r Q) : wpAny (model S.prog S.w) A (binaryOp .Mult wa wb) Q E s := by
  cases a with
  | int i =>
    obtain ⟨j, hx, e1⟩ := onI_some e; subst hx; clear e; have e := e1; clear e1
    obtain ⟨hl, e⟩ := gd_some e
    cases e
    obtain ⟨t, rfl⟩ := intE va; obtain ⟨u, rfl⟩ := intE vb
    exact mul_int (q.tok hr (.int _ _) _) (small_mul hl.1)
  | str x =>
    obtain ⟨j, hx, e1⟩ := onI_some e; subst hx; clear e; have e := e1; clear e1
    obtain ⟨hl, e⟩ := gd_some e
    cases e
    obtain ⟨t, rfl, h1⟩ := strE va; obtain ⟨u, rfl⟩ := intE vb
    refine SB.mul (mul_okS hl.1 hl.2.1 hl.2.2) fun t' k => ?_
    rw [mul_txt x hl.1]
    refine q.tok hr (.str _ _ ?_) _
    rw [repL_length]
    have : j.toNat ≤ 1024 := by omega
    exact Nat.le_trans (Nat.mul_le_mul this hl.2.1) (by decide)
  | loc n =>
    obtain ⟨j, hx, e1⟩ := onI_some e; subst hx; clear e; have e := e1; clear e1
    obtain ⟨l, h1, e⟩ := atL_some e
    obtain ⟨hl, e⟩ := gd_some e
    cases e
    exact mulList_ok hr va vb h1 hl.1 hl.2.1 hl.2.2 q
  | _ => first | exact ff e | exact nn e | cases e
theorem bin_ok {op : BOp} {o : Operator} {a b r : V} {wa wb : Value} (e : binV op a b H = some (r, H')) (c : opIs op o = true) (hr : HR S as T H s.heap) (va : VR S.fa as T a wa) (vb : VR S.fa as T b wb) (q : Ret S as T s H' r Q) : wpAny (model S.prog S.w) A (binaryOp o wa wb) Q E s := by
  cases op with
  | add => cases o <;> first | (cases c; done) | exact addV_ok e hr va vb q
  | mul => cases o <;> first | (cases c; done) | exact mulV_ok e hr va vb q
  | sub =>
    obtain ⟨i, hx, e1⟩ := onI_some e; subst hx; clear e; have e := e1; clear e1
    obtain ⟨j, hx, e1⟩ := onI_some e; subst hx; clear e; have e := e1; clear e1
    cases e
    obtain ⟨t, rfl⟩ := intE va; obtain ⟨u, rfl⟩ := intE vb
    cases o <;> first | (cases c; done) | exact sub_int (q.tok hr (.int _ _) _)
  | fdiv =>
    obtain ⟨i, hx, e1⟩ := onI_some e; subst hx; clear e; have e := e1; clear e1
    obtain ⟨j, hx, e1⟩ := onI_some e; subst hx; clear e; have e := e1; clear e1
    obtain ⟨hl, e⟩ := gd_some e
    cases e
    obtain ⟨t, rfl⟩ := intE va; obtain ⟨u, rfl⟩ := intE vb
    have : wpAny (model S.prog S.w) A (binaryOp .FloorDiv (.int i t) (.int j u)) Q E s := by
      refine floordiv_int (Int.ne_of_gt hl.1) ?_ (.inl (small_div hl.1 hl.2.2))
      rw [fdiv_pos hl.1]
      exact q.tok hr (.int _ _) _
    cases o <;> first | (cases c; done) | exact this
  | mod =>
    obtain ⟨i, hx, e1⟩ := onI_some e; subst hx; clear e; have e := e1; clear e1
    obtain ⟨j, hx, e1⟩ := onI_some e; subst hx; clear e; have e := e1; clear e1
    obtain ⟨hl, e⟩ := gd_some e
    cases e
    obtain ⟨t, rfl⟩ := intE va; obtain ⟨u, rfl⟩ := intE vb
    have : wpAny (model S.prog S.w) A (binaryOp .Mod (.int i t) (.int j u)) Q E s := by
      refine mod_int' (Int.ne_of_gt hl) ?_
      rw [fmod_pos hl]
      exact q.tok hr (.int _ _) _
    cases o <;> first | (cases c; done) | exact this
theorem aug_ok {op : BOp} {o : Operator} {a b r : V} {wa wb : Value} (e : augV op a b = some r) (c : opIs op o = true) (hr : HR S as T H s.heap) (va : VR S.fa as T a wa) (vb : VR S.fa as T b wb) (q : Ret S as T s H r Q) : wpAny (model S.prog S.w) A (inplaceOp o wa wb) Q E s := by
  obtain ⟨i, hx, e1⟩ := onI_some e; subst hx; clear e; have e := e1; clear e1
  obtain ⟨j, hx, e1⟩ := onI_some e; subst hx; clear e; have e := e1; clear e1
  obtain ⟨t, rfl⟩ := intE va; obtain ⟨u, rfl⟩ := intE vb
  cases op with
  | add => cases e; cases o <;> first | (cases c; done) | exact iadd_int (q.tok hr (.int _ _) _)
  | sub => cases e; cases o <;> first | (cases c; done) | exact PySem.AutoIntOps.isub_0 (q.tok hr (.int _ _) _)
  | fdiv =>
    obtain ⟨hl, e⟩ := gd_some e
    cases e
    have : wpAny (model S.prog S.w) A (inplaceOp .FloorDiv (.int i t) (.int j u)) Q E s := by
      refine PySem.AutoIntOps.ifloordiv_1 (by simp; omega) (by rw [small_div hl.1 hl.2.2]; decide) ?_
      rw [fdiv_pos hl.1]
      exact q.tok hr (.int _ _) _
    cases o <;> first | (cases c; done) | exact this
  | _ => first | exact ff e | exact nn e | cases e
theorem strOk_ascii {x : List Nat} (h : x.all (· < 128) = true) : PyData.strOk ⟨x.toArray⟩ = true := by
  unfold PyData.strOk
  rw [← Array.all_toList]
  refine List.all_eq_true.mpr fun c hc => ?_
  have := List.all_eq_true.mp h c (by simpa using hc)
  simp at this ⊢
  omega
theorem dat_reads (hr : HR S as T H h) : ∀ (n : Nat) {v : V} {w : Value} {d : PyData}, dat H n v = some d → VR S.fa as T v w → ∃ bs, Reads h w d bs := by
  intro n
  induction n with
  | zero => intro v w d e; cases e
  | succ n ih =>
    have all : ∀ {l : List V} {ws : List Value} {ds : List PyData}, mapO (dat H n) l = some ds → VRs S.fa as T l ws → ∃ bs, ReadsAll h ws ds bs := by
      intro l
      induction l with
      | nil => intro ws ds e x; cases e; cases x; exact ⟨_, .nil⟩
      | cons a r ihl =>
        intro ws ds e x
        cases x with
        | cons y z =>
          unfold mapO at e
          split at e
          · rename_i d hd
            split at e
            · rename_i ds' hds
              cases e
              obtain ⟨bs, r1⟩ := ih hd y
              obtain ⟨cs, r2⟩ := ihl hds z
              exact ⟨_, .cons r1 r2⟩
            · first | exact ff e | exact nn e | cases e
          · first | exact ff e | exact nn e | cases e
    intro v w d e x
    unfold dat at e
    split at e
    · cases e; cases noneE x; exact ⟨_, .none⟩
    · cases e; cases boolE x; exact ⟨_, .bool _⟩
    · cases e; obtain ⟨t, rfl⟩ := intE x; exact ⟨_, .int _ _⟩
    · split at e
      · cases e; obtain ⟨t, rfl, _⟩ := strE x; exact ⟨_, .str _ _⟩
      · first | exact ff e | exact nn e | cases e
    · obtain ⟨ds, hds, rfl⟩ := Option.map_eq_some_iff.mp e
      obtain ⟨a, ws, rfl, ⟨o, e1, c, k, d1⟩, hz, hv⟩ := tupE hr x
      obtain ⟨bs, r⟩ := all hds hv
      exact ⟨_, .tuple e1 c d1 (by simpa using r)⟩
    · split at e
      · rename_i l hl
        obtain ⟨ds, hds, rfl⟩ := Option.map_eq_some_iff.mp e
        obtain ⟨a, ws, k, rfl, hp, e1, hz, hv⟩ := hr.listAt hl x
        obtain ⟨bs, r⟩ := all hds hv
        exact ⟨_, .list e1 rfl rfl (by simpa using r)⟩
      · first | exact ff e | exact nn e | cases e
    · first | exact ff e | exact nn e | cases e
theorem dat_shape : ∀ (n : Nat) {v : V} {d : PyData}, dat H n v = some d → d.canLay0 = true ∧ d.depth ≤ n := by
  intro n
  induction n with
  | zero => intro v d e; cases e
  | succ n ih =>
    have all : ∀ {l : List V} {ds : List PyData}, mapO (dat H n) l = some ds → PyData.canLayAll0 ds = true ∧ PyData.depthAll ds ≤ n := by
      intro l
      induction l with
      | nil => intro ds e; cases e; exact ⟨rfl, Nat.zero_le _⟩
      | cons a r ihl =>
        intro ds e
        unfold mapO at e
        split at e
        · rename_i d hd
          split at e
          · rename_i ds' hds
            cases e
            have h1 := ih hd
            have h2 := ihl hds
            refine ⟨?_, ?_⟩
            · simp only [PyData.canLayAll0, h1.1, h2.1, Bool.and_self]
            · simp only [PyData.depthAll]; omega
          · first | exact ff e | exact nn e | cases e
        · first | exact ff e | exact nn e | cases e
    intro v d e
    unfold dat at e
    split at e
    · cases e; exact ⟨rfl, Nat.zero_le _⟩
    · cases e; exact ⟨rfl, Nat.zero_le _⟩
    · cases e; exact ⟨rfl, Nat.zero_le _⟩
    · split at e
      · rename_i ha; cases e; exact ⟨by simp only [PyData.canLay0]; exact strOk_ascii ha, Nat.zero_le _⟩
      · first | exact ff e | exact nn e | cases e
    · obtain ⟨ds, hds, rfl⟩ := Option.map_eq_some_iff.mp e
      have := all hds
      exact ⟨by simp only [PyData.canLay0]; exact this.1, by simp only [PyData.depth]; omega⟩
    · split at e
      · obtain ⟨ds, hds, rfl⟩ := Option.map_eq_some_iff.mp e
        have := all hds
        exact ⟨by simp only [PyData.canLay0]; exact this.1, by simp only [PyData.depth]; omega⟩
      · first | exact ff e | exact nn e | cases e
    · first | exact ff e | exact nn e | cases e
theorem dat_shaped {v : V} {d : PyData} (e : dat H 8 v = some d) : SeqAt.shaped d = true := by
  have := dat_shape 8 e
  unfold SeqAt.shaped
  rw [this.1, Bool.true_and]
  exact decide_eq_true (by omega)
end
end Mine

namespace Mine
open PySem.MeetsSeq3 in
theorem lt_loop (l b : Addr) (xs ys : List Int) (ws us : List Value) (n n2 : Nat) (hx : ∀ (j : Nat) (x : Int), xs[j]? = some x → ∃ t, ws[j]? = some (Value.int x t)) (hy : ∀ (j : Nat) (x : Int), ys[j]? = some x → ∃ t, us[j]? = some (Value.int x t)) (lx : ws.length = xs.length) (ly : us.length = ys.length) (k : Nat) :
    ∀ i : Nat, ws.length - i = k → i ≤ ws.length → i ≤ us.length → Meets (Builtin.«list.__eq__.loop» ⟨[.ref l, .ref b, rawInt i, rawInt 0], []⟩)
      (fun _ R s => s.heap.get? l = some { cls := .type "list", dict := none, data := .seq ws.toArray n, slots := #[] } ∧ s.heap.get? b = some { cls := .type "list", dict := none, data := .seq us.toArray n2, slots := #[] } ∧
        R (.ok (.ret (.bool (ltInts (xs.drop i) (ys.drop i))))) s) := by
  induction k with
  | zero =>
    intro i hk hi hi' prog w A R s h
    obtain ⟨hp, g, d, tk, os⟩ := s; obtain ⟨hl, hb, h⟩ := h
    have e1 : i = ws.length := by omega
    wp_walk using AutoSeq1.wpAny_loadPart' hl, AutoSeq1.wpAny_loadPart' hb
    have hi1 : ws.toArray[((i : Nat) : Int).toNat]? = none := by simp; omega
    rw [hi1]
    wp_walk using AutoSeq1.wpAny_loadPart' hl, AutoSeq1.wpAny_loadPart' hb
    show R (.ok (.ret (.bool (decide (ws.toArray.size < us.toArray.size))))) _
    have hd : xs.drop i = [] := List.drop_of_length_le (by omega)
    rw [hd] at h
    have : ltInts [] (ys.drop i) = decide (ws.toArray.size < us.toArray.size) := by
      rw [List.size_toArray, List.size_toArray]
      cases hq : ys.drop i with
      | nil =>
        have := congrArg List.length hq
        simp at this
        simp only [ltInts]
        symm; simp; omega
      | cons y r =>
        have := congrArg List.length hq
        simp at this
        simp only [ltInts]
        symm; simp; omega
    rw [← this]; exact h
  | succ k ih =>
    intro i hk hi hi' prog w A R s h
    obtain ⟨hp, g, d, tk, os⟩ := s; obtain ⟨hl, hb, h⟩ := h
    have hlt : i < xs.length := by omega
    obtain ⟨t, ht⟩ := hx i xs[i] (List.getElem?_eq_getElem hlt)
    have hi1 : ws.toArray[((i : Nat) : Int).toNat]? = some (Value.int xs[i] t) := by simpa using ht
    have hd : xs.drop i = xs[i] :: xs.drop (i + 1) := List.drop_eq_getElem_cons hlt
    by_cases hu : i < ys.length
    · obtain ⟨u, hu'⟩ := hy i ys[i] (List.getElem?_eq_getElem hu)
      have hi2 : us.toArray[((i : Nat) : Int).toNat]? = some (Value.int ys[i] u) := by simpa using hu'
      have hd2 : ys.drop i = ys[i] :: ys.drop (i + 1) := List.drop_eq_getElem_cons hu
      have hc : ((i : Int) + 1) = ((i + 1 : Nat) : Int) := by push_cast; rfl
      wp_walk using AutoSeq1.wpAny_loadPart' hl, AutoSeq1.wpAny_loadPart' hb
      rw [hd, hd2, ltInts] at h
      rw [hi1, hi2]
      refine wpAny_bind (SeqAt.EqAt.int_int xs[i] t ys[i] u prog w _ _ ?_)
      cases hb' : (xs[i] == ys[i]) with
      | true =>
        rw [hb', if_pos rfl] at h
        wp_walk
        rw [hc]
        exact ⟨plainId_quiet plain_eq_loop _, codeAny_builtin entry_eq_loop (by
          rw [Around.under_plainId plain_eq_loop _]
          exact ih (i + 1) (by omega) (by omega) (by omega) prog w A R _ ⟨hl, hb, h⟩)⟩
      | false =>
        rw [hb', if_neg (by decide)] at h
        wp_walk using AutoSeq1.wpAny_loadPart' hl, AutoSeq1.wpAny_loadPart' hb
        rw [hi1, hi2]
        refine wpAny_bind (m := richCompare .Lt (Value.int xs[i] t) (Value.int ys[i] u)) ?_
        have := lt_int (prog := prog) (w := w) (A := A.in1) (E := fun e s' => R (.error e) s') (s := ⟨hp, g, d, tk, os⟩) (a := xs[i]) (b := ys[i]) (t := t) (u := u) (Q := fun v s' => R (.ok (.ret v)) s') h
        refine wpAny_mono this (fun v s' hq => ?_) fun _ _ e => e
        exact wpAny_pure hq
    · have hi2 : us.toArray[((i : Nat) : Int).toNat]? = none := by simp; omega
      have hd2 : ys.drop i = [] := List.drop_of_length_le (by omega)
      wp_walk using AutoSeq1.wpAny_loadPart' hl, AutoSeq1.wpAny_loadPart' hb
      rw [hd, hd2, ltInts] at h
      rw [hi1, hi2]
      wp_walk using AutoSeq1.wpAny_loadPart' hl, AutoSeq1.wpAny_loadPart' hb
      show R (.ok (.ret (.bool (decide (ws.toArray.size < us.toArray.size))))) _
      rw [show decide (ws.toArray.size < us.toArray.size) = false by simp; omega]
      exact h
open PySem.MeetsSeq3 in
theorem list_lt (l b : Addr) (xs ys : List Int) (ws us : List Value) (n n2 : Nat) (hx : ∀ (j : Nat) (x : Int), xs[j]? = some x → ∃ t, ws[j]? = some (Value.int x t)) (hy : ∀ (j : Nat) (x : Int), ys[j]? = some x → ∃ t, us[j]? = some (Value.int x t)) (lx : ws.length = xs.length) (ly : us.length = ys.length) :
    Meets (Builtin.«list.__lt__» ⟨[.ref l, .ref b], []⟩)
      (fun _ R s => s.heap.get? l = some { cls := .type "list", dict := none, data := .seq ws.toArray n, slots := #[] } ∧ s.heap.get? b = some { cls := .type "list", dict := none, data := .seq us.toArray n2, slots := #[] } ∧
        R (.ok (.ret (.bool (ltInts xs ys)))) s) := by
  intro prog w A R s h
  obtain ⟨hp, g, d, tk, os⟩ := s; obtain ⟨hl, hb, h⟩ := h
  have f3 := AutoSeq1.sub_list_list
  wp_walk using AutoSeq1.wpAny_loadPart' hl, AutoSeq1.wpAny_loadPart' hb
  exact ⟨plainId_quiet plain_eq_loop _, codeAny_builtin entry_eq_loop (by
    rw [Around.under_plainId plain_eq_loop _]
    exact lt_loop l b xs ys ws us n n2 hx hy lx ly _ 0 rfl (Nat.zero_le _) (Nat.zero_le _) prog w A R _ ⟨hl, hb, by simpa using h⟩)⟩
theorem ints_cons {a : V} {r : List V} {xs : List Int} (e : intsOf (a :: r) = some xs) : ∃ i l', a = .int i ∧ intsOf r = some l' ∧ xs = i :: l' := by
  cases a with
  | int i =>
    have e : (match intsOf r with | some l => some (i :: l) | none => none) = some xs := e
    cases h : intsOf r with
    | none => rw [h] at e; exact nn e
    | some l' => rw [h] at e; cases e; exact ⟨i, l', rfl, rfl, rfl⟩
  | _ => exact nn e
theorem ints_at {S : Sur} {as : As} {T : TS} {l : List V} : ∀ {xs : List Int} {ws : List Value}, intsOf l = some xs → VRs S.fa as T l ws → ws.length = xs.length ∧ ∀ (j : Nat) (x : Int), xs[j]? = some x → ∃ t, ws[j]? = some (.int x t) := by
  induction l with
  | nil => intro xs ws e v; cases v; cases e; exact ⟨rfl, fun j x h => nn h⟩
  | cons a r ih =>
    intro xs ws e v
    cases v with
    | cons v1 v2 =>
      obtain ⟨i, l', rfl, hl, rfl⟩ := ints_cons e
      obtain ⟨h1, h2⟩ := ih hl v2
      refine ⟨congrArg Nat.succ h1, fun j x h => ?_⟩
      cases j with
      | zero => cases h; obtain ⟨t, rfl⟩ := intE v1; exact ⟨t, rfl⟩
      | succ j => exact h2 j x h
theorem ltList_ok {S : Sur} {as : As} {T : TS} {H : Hp} {s : Shared} {Q : Value → Shared → Prop} {A : Around} {E : Value → Shared → Prop} {i j : Nat} {l m : List V} {xs ys : List Int} {wa wb : Value} (hu : A.units < cLine) (hr : HR S as T H s.heap) (hl : H[i]? = some (.list l)) (hm : H[j]? = some (.list m))
    (e1 : intsOf l = some xs) (e2 : intsOf m = some ys) (va : VR S.fa as T (.loc i) wa) (vb : VR S.fa as T (.loc j) wb) (q : ∀ tk, Q (.bool (ltInts xs ys)) { s with toks := tk }) : wpAny (model S.prog S.w) A (compareOp .Lt wa wb) Q E s := by
  obtain ⟨a, ws, k, rfl, hp, g1, hz, hv⟩ := hr.listAt hl va
  obtain ⟨b, us, k2, rfl, hp2, g2, hz2, hv2⟩ := hr.listAt hm vb
  obtain ⟨c1, c2⟩ := ints_at e1 hv
  obtain ⟨d1, d2⟩ := ints_at e2 hv2
  show wpAny _ A (richCompare .Lt (.ref a) (.ref b)) Q E s
  exact richCompare_meets_room (op := .Lt) ⟨_, g1, rfl⟩ ⟨_, g2, rfl⟩ PySem.F.slot_list_lt PySem.F.entry_list_lt (PySem.F.args_list_lt_2 _ _) (list_lt a b xs ys ws us k k2 c2 d2 c1 d1)
    ⟨g1, g2, show Value.bool (ltInts xs ys) ≠ Value.notImplemented ∧ Q (.bool (ltInts xs ys)) s from ⟨(fun x => nomatch x), q _⟩⟩ hu
end Mine

namespace Mine
section
variable {S : Sur} {as as1 : As} {T T1 : TS} {H H' : Hp} {h h' h1 : Heap} {s : Shared} {v : V} {w : Value} {Q : Value → Shared → Prop} {A : Around} {E : Value → Shared → Prop}

theorem str_beq2 (x y : List Nat) : ((⟨x.toArray⟩ : Str) == (⟨y.toArray⟩ : Str)) = (x == y) := by
  by_cases h : x = y
  · subst h; simp
  · have : (⟨x.toArray⟩ : Str) ≠ ⟨y.toArray⟩ := fun q => h (by simpa using congrArg (fun z => z.cps.toList) q)
    rw [beq_eq_false_iff_ne.mpr this, beq_eq_false_iff_ne.mpr h]

theorem eqD_ok {a b : V} {wa wb : Value} {r : Bool} (hu : A.units + 64 < cLine) (e : eqD H a b = some r) (hr : HR S as T H s.heap) (va : VR S.fa as T a wa) (vb : VR S.fa as T b wb) (q : ∀ tk, Q (.bool r) { s with toks := tk }) : wpAny (model S.prog S.w) A (compareOp .Eq wa wb) Q E s := by
  obtain ⟨x, y, hx, hy, hr'⟩ := eqD_some e
  obtain ⟨bs, r1⟩ := dat_reads hr 8 hx va
  obtain ⟨cs, r2⟩ := dat_reads hr 8 hy vb
  exact SeqAt.compareEq_shaped r1 r2 (dat_shaped hx) (dat_shaped hy) hu (by rw [hr']; exact q _)
theorem eq_ok {a b : V} {wa wb : Value} {r : Bool} (hu : A.units + 64 < cLine) (e : eqV H a b = some r) (hr : HR S as T H s.heap) (va : VR S.fa as T a wa) (vb : VR S.fa as T b wb) (q : ∀ tk, Q (.bool r) { s with toks := tk }) : wpAny (model S.prog S.w) A (compareOp .Eq wa wb) Q E s := by
  unfold eqV at e
  cases hf : fastEq H a b with
  | none => rw [hf] at e; exact eqD_ok hu e hr va vb q
  | some r' =>
    rw [hf] at e
    subst e
    cases a with
    | str x =>
      cases b with
      | str y =>
        cases hf
        obtain ⟨t, rfl, h1⟩ := strE va; obtain ⟨u, rfl, h2⟩ := strE vb
        exact eq_str (by rw [str_beq2]; exact q _)
      | _ => first | exact ff hf | exact nn hf | cases hf
    | int i =>
      cases b with
      | int j =>
        cases hf
        obtain ⟨t, rfl⟩ := intE va; obtain ⟨u, rfl⟩ := intE vb
        exact eq_int (q _)
      | _ => first | exact ff hf | exact nn hf | cases hf
    | tup l =>
      cases b with
      | str y =>
        cases hf
        obtain ⟨a', ws, rfl, ht, hz, hv⟩ := tupE hr va
        obtain ⟨u, rfl, h2⟩ := strE vb
        exact SeqAt.RcAt.tuple_str _ _ ht (by omega) S.prog S.w E Q (q _)
      | _ => first | exact ff hf | exact nn hf | cases hf
    | loc i =>
      cases b with
      | loc j =>
        simp only [fastEq] at hf
        split at hf <;> cases hf
      | _ => exact nn hf
    | _ => first | exact ff hf | exact nn hf | cases hf
theorem neD_ok {a b : V} {wa wb : Value} {r : Bool} (hu : A.units + 64 < cLine) (e : (eqD H a b).map (!·) = some r) (hr : HR S as T H s.heap) (va : VR S.fa as T a wa) (vb : VR S.fa as T b wb) (q : ∀ tk, Q (.bool r) { s with toks := tk }) : wpAny (model S.prog S.w) A (compareOp .NotEq wa wb) Q E s := by
  obtain ⟨r', e, h⟩ := map_some e
  obtain ⟨x, y, hx, hy, hr'⟩ := eqD_some e
  obtain ⟨bs, r1⟩ := dat_reads hr 8 hx va
  obtain ⟨cs, r2⟩ := dat_reads hr 8 hy vb
  exact SeqAt.compareNe_shaped r1 r2 (dat_shaped hx) (dat_shaped hy) hu (by rw [hr', h]; exact q _)
theorem ne_ok {a b : V} {wa wb : Value} {r : Bool} (hu : A.units + 64 < cLine) (e : neV H a b = some r) (hr : HR S as T H s.heap) (va : VR S.fa as T a wa) (vb : VR S.fa as T b wb) (q : ∀ tk, Q (.bool r) { s with toks := tk }) : wpAny (model S.prog S.w) A (compareOp .NotEq wa wb) Q E s := by
  unfold neV at e
  cases hf : fastNe a b with
  | none => rw [hf] at e; exact neD_ok hu e hr va vb q
  | some r' =>
    rw [hf] at e
    cases e
    obtain ⟨x, hx, e1⟩ := onS_some hf; subst hx
    obtain ⟨y, hy, e2⟩ := onS_some e1; subst hy
    cases e2
    obtain ⟨t, rfl, h1⟩ := strE va; obtain ⟨u, rfl, h2⟩ := strE vb
    exact ne_str (by rw [bne, str_beq2]; exact q _)
theorem strsE : ∀ {l : List V} {ws : List Value} {ss : List (List Nat)}, strsOf l = some ss → VRs S.fa as T l ws → StrsAre ws (ss.map fun x => (⟨x.toArray⟩ : Str))
  | _, _, _, e, .nil => by cases e; exact .nil
  | a :: r, _, _, e, .cons x y => by
    unfold strsOf at e
    split at e
    · rename_i q; cases q
    · rename_i z r' e'
      cases e'
      split at e
      · rename_i l hl
        cases e
        obtain ⟨t, rfl, _⟩ := strE x
        exact .cons _ _ (strsE hl y)
      · first | exact ff e | exact nn e | cases e
    · first | exact ff e | exact nn e | cases e
theorem strs_any (x : List Nat) : ∀ {ws : List Value} {ss : List (List Nat)}, StrsAre ws (ss.map fun x => (⟨x.toArray⟩ : Str)) → ws.any (fun y => y.isStr ⟨x.toArray⟩) = ss.any (· == x)
  | _, [], h => by cases h; rfl
  | _, y :: r, h => by
    cases h with
    | cons _ _ h' =>
      rw [List.any_cons, List.any_cons, strs_any x h']
      congr 1
      exact str_beq2 y x
theorem strs_eqAt (x : List Nat) (u : Tok) : ∀ {ws : List Value} {ss : List Str}, StrsAre ws ss → ∀ y ∈ ws, SeqAt.EqAt A s y (.str ⟨x.toArray⟩ u) (y.isStr ⟨x.toArray⟩) := by
  intro ws ss h
  induction h with
  | nil => intro y hy; cases hy
  | cons z t _ ih =>
    intro y hy
    cases hy with
    | head => exact SeqAt.EqAt.str_str _ _ _ _
    | tail _ hy => exact ih y hy

theorem in_ok {a b : V} {wa wb : Value} {r : Bool} (e : inV H a b = some r) (hr : HR S as T H s.heap) (va : VR S.fa as T a wa) (vb : VR S.fa as T b wb) (q : ∀ tk, Q (.bool r) { s with toks := tk }) : wpAny (model S.prog S.w) A (compareOp .In wa wb) Q E s := by
  obtain ⟨x, hx, e1⟩ := onS_some e; subst hx; clear e; have e := e1; clear e1
  obtain ⟨t1, rfl, h1⟩ := strE va
  cases b with
  | str t =>
    obtain ⟨u, rfl, h2⟩ := strE vb
    cases x with
    | nil => first | exact ff e | exact nn e | cases e
    | cons c x => cases x with
      | cons => first | exact ff e | exact nn e | cases e
      | nil =>
        cases e
        refine PyProof.Rows.in_str ?_
        rw [StrLaws.found_one]
        have : decide (c ∈ (⟨t.toArray⟩ : Str).cps.toList) = t.contains c := by simp
        rw [this]; exact q _
  | tup l =>
    obtain ⟨ss, hs, e⟩ := strsOf'_some e
    cases e
    obtain ⟨a', ws, rfl, ht, hz, hv⟩ := tupE hr vb
    have hst := strsE hs hv
    refine SeqAt.in_tupleAt (fun y => y.isStr ⟨x.toArray⟩) ht (fun y hy => strs_eqAt x t1 hst y (by simpa using hy)) ?_
    rw [← Array.any_toList, List.toList_toArray, strs_any x hst]; exact q _
  | loc n =>
    obtain ⟨l, hl, e⟩ := atL_some e
    obtain ⟨ss, hs, e⟩ := strsOf'_some e
    cases e
    obtain ⟨a', ws, k, rfl, hp, e1, hz, hv⟩ := hr.listAt hl vb
    have hst := strsE hs hv
    refine SeqAt.in_listAt (fun y => y.isStr ⟨x.toArray⟩) ⟨_, e1, rfl, k, rfl⟩ (fun y hy => strs_eqAt x t1 hst y (by simpa using hy)) ?_
    rw [← Array.any_toList, List.toList_toArray, strs_any x hst]; exact q _
  | _ => first | exact ff e | exact nn e | cases e
theorem notin_ok {a b : V} {wa wb : Value} {r : Bool} (e : inV H a b = some r) (hr : HR S as T H s.heap) (va : VR S.fa as T a wa) (vb : VR S.fa as T b wb) (q : ∀ tk, Q (.bool (!r)) { s with toks := tk }) : wpAny (model S.prog S.w) A (compareOp .NotIn wa wb) Q E s := by
  obtain ⟨x, hx, e1⟩ := onS_some e; subst hx; clear e; have e := e1; clear e1
  obtain ⟨t1, rfl, h1⟩ := strE va
  cases b with
  | str t =>
    obtain ⟨u, rfl, h2⟩ := strE vb
    cases x with
    | nil => first | exact ff e | exact nn e | cases e
    | cons c x => cases x with
      | cons => first | exact ff e | exact nn e | cases e
      | nil =>
        cases e
        refine PyProof.Rows.notIn_str ?_
        rw [StrLaws.found_one]
        have : decide (c ∈ (⟨t.toArray⟩ : Str).cps.toList) = t.contains c := by simp
        rw [this]; exact q _
  | tup l =>
    obtain ⟨ss, hs, e⟩ := strsOf'_some e
    cases e
    obtain ⟨a', ws, rfl, ht, hz, hv⟩ := tupE hr vb
    have hst := strsE hs hv
    refine SeqAt.notIn_tupleAt (fun y => y.isStr ⟨x.toArray⟩) ht (fun y hy => strs_eqAt x t1 hst y (by simpa using hy)) ?_
    rw [← Array.any_toList, List.toList_toArray, strs_any x hst]; exact q _
  | loc n =>
    obtain ⟨l, hl, e⟩ := atL_some e
    obtain ⟨ss, hs, e⟩ := strsOf'_some e
    cases e
    obtain ⟨a', ws, k, rfl, hp, e1, hz, hv⟩ := hr.listAt hl vb
    have hst := strsE hs hv
    refine SeqAt.notIn_listAt (fun y => y.isStr ⟨x.toArray⟩) ⟨_, e1, rfl, k, rfl⟩ (fun y hy => strs_eqAt x t1 hst y (by simpa using hy)) ?_
    rw [← Array.any_toList, List.toList_toArray, strs_any x hst]; exact q _
  | _ => first | exact ff e | exact nn e | cases e
theorem vr_ne_none (x : VR S.fa as T v w) (hv : v ≠ .none) : w ≠ .none := by
  cases x <;> first | exact absurd rfl hv | (intro q; cases q)
theorem isV_some {a b : V} {r : Bool} (e : isV' a b = some r) : b = .none ∧ isNone0 a = r := by
  unfold isV' at e
  cases h : isNone0 b with
  | true => rw [h] at e; exact ⟨isNone0_eq h, Option.some.inj e⟩
  | false => rw [h] at e; first | exact nn e | exact ff e | cases e
theorem is_ok {a b : V} {wa wb : Value} {r : Bool} (e : isV' a b = some r) (va : VR S.fa as T a wa) (vb : VR S.fa as T b wb) (q : ∀ tk, Q (.bool r) { s with toks := tk }) : wpAny (model S.prog S.w) A (compareOp .Is wa wb) Q E s := by
  obtain ⟨rfl, rfl⟩ := isV_some e
  cases noneE vb
  cases h : isNone0 a with
  | true => cases isNone0_eq h; cases noneE va; exact wpAny_is_self rfl (q _)
  | false =>
    rw [h] at q
    refine wpAny_is_other ?_ (vr_ne_none va fun q => by rw [q] at h; cases h) (q _)
    cases va <;> rfl
theorem isnot_ok {a b : V} {wa wb : Value} {r : Bool} (e : isV' a b = some r) (va : VR S.fa as T a wa) (vb : VR S.fa as T b wb) (q : ∀ tk, Q (.bool (!r)) { s with toks := tk }) : wpAny (model S.prog S.w) A (compareOp .IsNot wa wb) Q E s := by
  obtain ⟨rfl, rfl⟩ := isV_some e
  cases noneE vb
  cases h : isNone0 a with
  | true => cases isNone0_eq h; cases noneE va; exact wpAny_isNot_self rfl (q _)
  | false =>
    rw [h] at q
    refine wpAny_isNot_other ?_ (vr_ne_none va fun q => by rw [q] at h; cases h) (q _)
    cases va <;> rfl
theorem lt_ok {a b : V} {wa wb : Value} {r : Bool} (hu : A.units + 64 < cLine) (e : ltV H a b = some r) (hr : HR S as T H s.heap) (va : VR S.fa as T a wa) (vb : VR S.fa as T b wb) (q : ∀ tk, Q (.bool r) { s with toks := tk }) : wpAny (model S.prog S.w) A (compareOp .Lt wa wb) Q E s := by
  cases a with
  | int i =>
    obtain ⟨j, hx, e1⟩ := onI_some e; subst hx; clear e; have e := e1; clear e1
    cases e
    obtain ⟨t, rfl⟩ := intE va; obtain ⟨u, rfl⟩ := intE vb
    exact lt_int (q _)
  | loc i =>
    obtain ⟨j, hx, e1⟩ := onN_some e; subst hx; clear e; have e := e1; clear e1
    obtain ⟨l, hl, e⟩ := atL_some e
    obtain ⟨m, hm, e⟩ := atL_some e
    cases h1 : intsOf l with
    | none => rw [h1] at e; first | exact nn e | exact ff e | cases e
    | some x =>
      rw [h1] at e
      cases h2 : intsOf m with
      | none => rw [h2] at e; first | exact nn e | exact ff e | cases e
      | some y =>
        rw [h2] at e
        cases e
        exact ltList_ok (by omega) hr hl hm h1 h2 va vb q
  | _ => first | exact ff e | exact nn e | cases e
theorem cmp_ok {op : COp} {o : CmpOp} {a b : V} {wa wb : Value} {r : Bool} (hu : A.units + 64 < cLine) (e : cmpV H op a b = some r) (c : copIs op o = true) (hr : HR S as T H s.heap) (va : VR S.fa as T a wa) (vb : VR S.fa as T b wb) (q : ∀ tk, Q (.bool r) { s with toks := tk }) :
    wpAny (model S.prog S.w) A (compareOp o wa wb) Q E s := by
  cases op with
  | eq => cases o <;> first | (cases c; done) | exact eq_ok hu e hr va vb q
  | ne => cases o <;> first | (cases c; done) | exact ne_ok hu e hr va vb q
  | lt => cases o <;> first | (cases c; done) | exact lt_ok hu e hr va vb q
  | le =>
    obtain ⟨i, hx, e1⟩ := onI_some e; subst hx; clear e; have e := e1; clear e1
    obtain ⟨j, hx, e1⟩ := onI_some e; subst hx; clear e; have e := e1; clear e1
    cases e
    obtain ⟨t, rfl⟩ := intE va; obtain ⟨u, rfl⟩ := intE vb
    cases o <;> first | (cases c; done) | exact le_int (q _)
  | gt =>
    obtain ⟨i, hx, e1⟩ := onI_some e; subst hx; clear e; have e := e1; clear e1
    obtain ⟨j, hx, e1⟩ := onI_some e; subst hx; clear e; have e := e1; clear e1
    cases e
    obtain ⟨t, rfl⟩ := intE va; obtain ⟨u, rfl⟩ := intE vb
    cases o <;> first | (cases c; done) | exact gt_int (q _)
  | ge =>
    obtain ⟨i, hx, e1⟩ := onI_some e; subst hx; clear e; have e := e1; clear e1
    obtain ⟨j, hx, e1⟩ := onI_some e; subst hx; clear e; have e := e1; clear e1
    cases e
    obtain ⟨t, rfl⟩ := intE va; obtain ⟨u, rfl⟩ := intE vb
    cases o <;> first | (cases c; done) | exact ge_int (q _)
  | is => cases o <;> first | (cases c; done) | exact is_ok e va vb q
  | isnot =>
    obtain ⟨r', h1, rfl⟩ := map_some e
    cases o <;> first | (cases c; done) | exact isnot_ok h1 va vb q
  | isin => cases o <;> first | (cases c; done) | exact in_ok e hr va vb q
  | notin =>
    obtain ⟨r', h1, rfl⟩ := map_some e
    cases o <;> first | (cases c; done) | exact notin_ok h1 hr va vb q
end
end Mine

namespace Mine
section
variable {S : Sur} {as as1 : As} {T T1 : TS} {H H' : Hp} {h h' h1 : Heap} {s : Shared} {v : V} {w : Value} {Q : Value → Shared → Prop} {A : Around} {E : Value → Shared → Prop}

noncomputable def Sub (s : Shared) (w : Value) : Prop := ∃ Ty id, s.TypeIs w Ty ∧ typeLookup (.type Ty) "__getitem__" = pure (some (.builtin id))
theorem idxL_some {α : Type} {l : List α} {i : Int} {x : α} (e : idxL l i = some x) : 0 ≤ i ∧ l[i.toNat]? = some x := by
  unfold idxL at e
  split at e
  · exact ⟨by assumption, e⟩
  · first | exact ff e | exact nn e | cases e
theorem str_eq_iff {x y : List Nat} : (⟨x.toArray⟩ : Str) = ⟨y.toArray⟩ ↔ x = y := ⟨fun q => by simpa using congrArg (fun z => z.cps.toList) q, fun q => by rw [q]⟩
theorem dr_at {es : List (List Nat × V)} {ds : List (Str × Value)} (x : DR S as T es ds) (k : List Nat) : match lookS k es with
    | some v => ∃ w, valueAt ds ⟨k.toArray⟩ = some w ∧ VR S.fa as T v w
    | none => valueAt ds ⟨k.toArray⟩ = none := by
  induction x with
  | nil => rfl
  | @cons k' v w es ds h r ih =>
    by_cases hk : k' = k
    · subst hk
      have h1 : lookS k' ((k', v) :: es) = some v := by simp [lookS]
      rw [h1]
      exact ⟨w, by simp [valueAt], h⟩
    · have h1 : lookS k ((k', v) :: es) = lookS k es := by simp [lookS, hk]
      have h2 : valueAt ((⟨k'.toArray⟩, w) :: ds) ⟨k.toArray⟩ = valueAt ds ⟨k.toArray⟩ := by
        unfold valueAt
        rw [List.find?_cons_of_neg]
        simp only [decide_eq_true_eq]
        exact fun q => hk (str_eq_iff.mp q)
      rw [h1, h2]
      exact ih
theorem list_sub {a : Addr} {ws : List Value} {k : Nat} (e : s.heap.get? a = some (lst ws k)) : Sub s (.ref a) := ⟨_, _, ⟨_, e, rfl⟩, PySem.slot_list_getitem.lookup⟩

theorem idx_ok {a i r : V} {wa wi : Value} (e : idxV H a i = some r) (hr : HR S as T H s.heap) (va : VR S.fa as T a wa) (vi : VR S.fa as T i wi) (q : ∀ u tk, VR S.fa as T r u → Q u { s with toks := tk }) :
    Sub s wa ∧ wpAny (model S.prog S.w) A (getItem wa wi) Q E s := by
  cases a with
  | tup l =>
    obtain ⟨i, hx, e1⟩ := onI_some e; subst hx; clear e; have e := e1; clear e1
    obtain ⟨t, rfl⟩ := intE vi
    obtain ⟨h1, h2⟩ := idxL_some e
    refine ⟨?_, item_tup_ok hr va h1 h2 fun u vu => q u s.toks vu⟩
    obtain ⟨a', ws, rfl, ⟨o, e1, c, _⟩, hz, hv⟩ := tupE hr va
    exact ⟨_, _, ⟨_, e1, c⟩, PySem.F.slot_tuple_getitem.lookup⟩
  | str x =>
    obtain ⟨i, hx, e1⟩ := onI_some e; subst hx; clear e; have e := e1; clear e1
    obtain ⟨t, rfl⟩ := intE vi
    obtain ⟨c, hc, rfl⟩ := map_some e
    obtain ⟨h1, h2⟩ := idxL_some hc
    obtain ⟨u, rfl, hz⟩ := strE va
    have hlt := (List.getElem?_eq_some_iff.mp h2).1
    have h63 := lim_63 hz
    refine ⟨⟨_, _, rfl, PySem.F.slot_str_getitem.lookup⟩, getItem_str (c := c) (by simp; omega) ?_ (q _ _ (.str [c] _ (by simp [lim])))⟩
    have : seqIndex? i (⟨x.toArray⟩ : Str).length = some i.toNat := by
      unfold seqIndex?
      rw [str_len]
      simp only [show ¬ i < 0 by omega, if_false]
      rw [if_pos (by simp; omega)]
    rw [this]
    simpa using h2
  | loc n =>
    cases i with
    | int i =>
      obtain ⟨t, rfl⟩ := intE vi
      obtain ⟨l, hl, e⟩ := atL_some e
      obtain ⟨h1, h2⟩ := idxL_some e
      refine ⟨?_, item_list_ok hr va hl h1 h2 fun u vu => q u s.toks vu⟩
      obtain ⟨a', ws, k, rfl, hp, e1, hz, hv⟩ := hr.listAt hl va
      exact list_sub e1
    | str k =>
      obtain ⟨t, rfl, hz⟩ := strE vi
      obtain ⟨es, hl, e⟩ := atD_some e
      obtain ⟨a', ds, rfl, hp, e1, hz, hv⟩ := hr.dictAt hl va
      have := dr_at hv k
      rw [e] at this
      obtain ⟨u, hu, vu⟩ := this
      refine ⟨?_, wpAny_getItem_of (knd := strKind S.prog S.w) (k := ⟨k.toArray⟩) (strKind_is _ _ _ _) e1.mapOf hu (q _ _ vu)⟩
      obtain ⟨o, es', ep, g, x, _⟩ := e1
      exact ⟨_, _, ⟨_, g, x.1⟩, PySem.F.slot_dict_getitem.lookup⟩
    | _ => first | exact ff e | exact nn e | cases e
  | _ => first | exact ff e | exact nn e | cases e
theorem dr_put {es : List (List Nat × V)} {ds : List (Str × Value)} {u : V} {w : Value} (x : DR S as T es ds) (vr : VR S.fa as T u w) (k : List Nat) (hn : (ds.map (·.1)).Nodup) : DR S as T (putS k u es) (stored ds ⟨k.toArray⟩ w) := by
  induction x with
  | nil => exact .cons vr .nil
  | @cons k' v' w' es ds h r ih =>
    obtain ⟨n1, n2⟩ := List.nodup_cons.mp hn
    by_cases hk : k' = k
    · subst hk
      have h1 : putS k' u ((k', v') :: es) = (k', u) :: es := by simp [putS]
      have h2 : stored ((⟨k'.toArray⟩, w') :: ds) ⟨k'.toArray⟩ w = (⟨k'.toArray⟩, w) :: ds := by
        unfold stored
        rw [if_pos (by simp), List.map_cons, if_pos rfl]
        congr 1
        rw [List.map_congr_left (g := id), List.map_id]
        intro z hz
        rw [if_neg]; rfl
        intro q
        exact n1 (q ▸ List.mem_map.mpr ⟨z, hz, rfl⟩)
      rw [h1, h2]
      exact .cons vr r
    · have hne : (⟨k'.toArray⟩ : Str) ≠ ⟨k.toArray⟩ := fun q => hk (str_eq_iff.mp q)
      have h1 : putS k u ((k', v') :: es) = (k', v') :: putS k u es := by simp [putS, hk]
      have h2 : stored ((⟨k'.toArray⟩, w') :: ds) ⟨k.toArray⟩ w = (⟨k'.toArray⟩, w') :: stored ds ⟨k.toArray⟩ w := by
        unfold stored
        rw [List.any_cons, decide_eq_false hne, Bool.false_or, List.map_cons, if_neg hne, List.cons_append]
        split <;> rfl
      rw [h1, h2]
      exact .cons h (ih n2)
theorem put_len {α : Type} (k : List Nat) (u : α) : ∀ es : List (List Nat × α), (putS k u es).length ≤ es.length + 1
  | [] => Nat.le_refl _
  | (j, v) :: r => by
    rw [putS]
    split
    · simp
    · have := put_len k u r; simp; omega
theorem dr_len {es : List (List Nat × V)} {ds : List (Str × Value)} (x : DR S as T es ds) : ds.length = es.length := by
  induction x with
  | nil => rfl
  | cons _ _ ih => rw [List.length_cons, List.length_cons, ih]
theorem setI_ok {o i x : V} {wo wi wx : Value} {Q : Unit → Shared → Prop} (e : setI H o i x = some H') (hr : HR S as T H s.heap) (vo : VR S.fa as T o wo) (vi : VR S.fa as T i wi) (vx : VR S.fa as T x wx) (q : RetU S as T s H' Q) :
    wpAny (model S.prog S.w) A (setItem wo wi wx) Q E s := by
  obtain ⟨n, hx, e1⟩ := onN_some e; subst hx; clear e; have e := e1; clear e1
  cases i with
  | int i =>
    obtain ⟨l, hl, e⟩ := atL_some e
    obtain ⟨hc, e⟩ := gd_some e
    cases e
    obtain ⟨t, rfl⟩ := intE vi
    exact setItem_list_ok hr vo vx hl hc.1 hc.2 q
  | str k =>
    obtain ⟨es, hl, e⟩ := atD_some e
    obtain ⟨hc, e⟩ := gd_some e
    cases e
    obtain ⟨t, rfl, hz⟩ := strE vi
    obtain ⟨a, ds, rfl, hp, e1, hz, hv⟩ := hr.dictAt hl vo
    have ao : a ∈ owned as := (mem_owned hp).1
    refine wpAny_setItem_pairs (knd := strKind S.prog S.w) (k := ⟨k.toArray⟩) (strKind_is _ _ _ _) e1 (fun h' e2 sb => ?_) (by rw [dr_len hv]; exact Nat.le_trans hz (by decide))
    have kp : ∀ b o, b ≠ a → s.heap.get? b = some o → h'.get? b = some o := fun b o nb e => (sb.2 b nb).trans e
    have hnd : (ds.map (·.1)).Nodup := by obtain ⟨_, _, _, _, _, _, _, _, z⟩ := e1; exact z
    exact q h' _ as T (.upd ao kp) (hr.upd hp (List.getElem?_eq_some_iff.mp hl).1 (.head _) kp (.dict e2 (Nat.le_trans (put_len k x es) hc) (dr_put hv vx k hnd)) (hr.noT_dict e1))
  | _ => first | exact ff e | exact nn e | cases e
noncomputable def KV (S : Sur) : IK → Value → Prop
  | .int, w => w = .type "int"
  | .str, w => w = .type "str"
  | .tuple, w => w = .type "tuple"
  | .cls k, w => ∃ C : Nat, S.ca[k]? = some C ∧ w = .ref C
theorem kit_ty (C : Cx S) {t c : String} (ht : t ∈ tyNames) (hc : c ∈ ["int", "str", "tuple"]) : kitOne S.K (.type t) (.type c) = some (t == c || (t == "bool" && c == "int")) := by
  have := C.kit
  unfold kitAll at this
  simp only [Bool.and_eq_true] at this
  exact beq_iff_eq.mp (List.all_eq_true.mp (List.all_eq_true.mp this.1 t ht) c hc)
theorem kit_cls (C : Cx S) {D k : Nat} (hD : S.ca[k]? = some D) : kitOne S.K (.type "int") (.ref D) = some false ∧ kitOne S.K (.type "str") (.ref D) = some false := by
  have := C.kit
  unfold kitAll at this
  simp only [Bool.and_eq_true] at this
  have := List.all_eq_true.mp this.2 D (List.mem_of_getElem? hD)
  simp only [Bool.and_eq_true] at this
  exact ⟨beq_iff_eq.mp this.1, beq_iff_eq.mp this.2⟩
noncomputable def tyV : V → Option String
  | .int _ => some "int"
  | .bool _ => some "bool"
  | .none => some "NoneType"
  | .str _ => some "str"
  | .tup _ => some "tuple"
  | _ => none
theorem kia_ty (C : Cx S) {x : V} {t : String} {b : Bool} {wx wk : Value} (hr : HR S as T H s.heap) (ht : tyV x = some t) (vx : VR S.fa as T x wx) (e : kitOne S.K (.type t) wk = some b) (q : ∀ tk, Q (.bool b) { s with toks := tk }) : wpAny (model S.prog S.w) A (call (.builtin "isinstance") [wx, wk]) Q E s := by
  have X := C.X.keeps hr.base
  cases x <;> simp only [tyV] at ht <;> cases ht
  · cases noneE vx
    exact kia_one kitx_none X trivial e (by intro q; cases q) q
  · cases boolE vx
    exact kia_one kitx_bool X trivial e (by intro q; cases q) q
  · obtain ⟨t, rfl⟩ := intE vx
    exact kia_one kitx_int X trivial e (by intro q; cases q) q
  · obtain ⟨t, rfl, _⟩ := strE vx
    exact kia_one kitx_str X trivial e (by intro q; cases q) q
  · obtain ⟨a, ws, rfl, ⟨o, e1, c1, _⟩, hz, hv⟩ := tupE hr vx
    exact kia_one kitx_tuple X ⟨o, e1, c1⟩ e (by intro q; cases q) q
theorem tyV_mem {x : V} {t : String} (h : tyV x = some t) : t ∈ tyNames := by
  cases x <;> simp only [tyV] at h <;> cases h <;> decide
theorem isi_ok {x : V} {k : IK} {b : Bool} {wx wk : Value} (C : Cx S) (e : isV x k = some b) (hr : HR S as T H s.heap) (vx : VR S.fa as T x wx) (hk : KV S k wk) (q : ∀ tk, Q (.bool b) { s with toks := tk }) :
    wpAny (model S.prog S.w) A (call (.builtin "isinstance") [wx, wk]) Q E s := by
  have ex : ∀ {c : String} {k : IK}, isV x k = some b → (k = .int ∧ c = "int") ∨ (k = .str ∧ c = "str") ∨ (k = .tuple ∧ c = "tuple") → ∃ t, tyV x = some t ∧ b = (t == c || (t == "bool" && c == "int")) := by
    intro c k h hk
    rcases hk with ⟨rfl, rfl⟩ | ⟨rfl, rfl⟩ | ⟨rfl, rfl⟩ <;> cases x <;> simp only [isV] at h <;> cases h <;> exact ⟨_, rfl, by decide⟩
  cases k with
  | int =>
    obtain ⟨t, h1, h2⟩ := ex (c := "int") e (.inl ⟨rfl, rfl⟩)
    rw [show wk = .type "int" from hk]
    exact kia_ty C hr h1 vx ((kit_ty C (tyV_mem h1) (by decide)).trans (by rw [h2])) q
  | str =>
    obtain ⟨t, h1, h2⟩ := ex (c := "str") e (.inr (.inl ⟨rfl, rfl⟩))
    rw [show wk = .type "str" from hk]
    exact kia_ty C hr h1 vx ((kit_ty C (tyV_mem h1) (by decide)).trans (by rw [h2])) q
  | tuple =>
    obtain ⟨t, h1, h2⟩ := ex (c := "tuple") e (.inr (.inr ⟨rfl, rfl⟩))
    rw [show wk = .type "tuple" from hk]
    exact kia_ty C hr h1 vx ((kit_ty C (tyV_mem h1) (by decide)).trans (by rw [h2])) q
  | cls k =>
    obtain ⟨D, hD, rfl⟩ := hk
    cases x <;> simp only [isV] at e <;> cases e
    · exact kia_ty C hr rfl vx (kit_cls C hD).1 q
    · exact kia_ty C hr rfl vx (kit_cls C hD).2 q
end
end Mine

namespace Mine
section
variable {S : Sur} {as as1 : As} {T T1 : TS} {H H' : Hp} {h h' h1 : Heap} {s : Shared} {v : V} {w : Value} {Q : Value → Shared → Prop} {A : Around} {E : Value → Shared → Prop}

theorem vrs1 {fa : List Nat} {a : V} {ws : List Value} (x : VRs fa as T [a] ws) : ∃ w, ws = [w] ∧ VR fa as T a w := by
  cases x with
  | cons h r => cases r; exact ⟨_, rfl, h⟩
theorem vrs2 {fa : List Nat} {a b : V} {ws : List Value} (x : VRs fa as T [a, b] ws) : ∃ w u, ws = [w, u] ∧ VR fa as T a w ∧ VR fa as T b u := by
  cases x with
  | cons h r => obtain ⟨u, rfl, k⟩ := vrs1 r; exact ⟨_, _, rfl, h, k⟩
theorem vrs3 {fa : List Nat} {a b c : V} {ws : List Value} (x : VRs fa as T [a, b, c] ws) : ∃ w u z, ws = [w, u, z] ∧ VR fa as T a w ∧ VR fa as T b u ∧ VR fa as T c z := by
  cases x with
  | cons h r => obtain ⟨u, z, rfl, k, m⟩ := vrs2 r; exact ⟨_, _, _, rfl, h, k, m⟩
theorem one_div {x c : Int} (h : c = 1 ∨ c = -1) : Builtin.divisionGoesByPylong x c = false := by
  have h1 : Nat.log2 1 = 0 := by decide
  unfold Builtin.divisionGoesByPylong
  rcases h with rfl | rfl <;> simp [h1]
theorem rng_len {a b c : Int} (h : c = 1 ∨ c = -1) : Builtin.Range.rangeSize a b c = (rngLen a b c : Nat) := by
  unfold Builtin.Range.rangeSize rngLen
  rcases h with rfl | rfl
  · simp only [show (1 : Int) > 0 by decide, show (0 : Int) < 1 by decide, if_true, Int.ediv_one]
    split <;> omega
  · simp only [show ¬ ((-1 : Int) > 0) by decide, show ¬ (0 : Int) < -1 by decide, show (-1 : Int) < 0 by decide, if_false, if_true, show (- -1 : Int) = 1 by decide, Int.ediv_one]
    split <;> omega
theorem rng_small {a b c : Int} (h : c = 1 ∨ c = -1) (ha : a.natAbs < 1048576) (hb : b.natAbs < 1048576) : Builtin.Range.small a b c = true := by
  have hs : Builtin.Range.rangeSize a b c ≤ 4194304 ∧ 0 ≤ Builtin.Range.rangeSize a b c := by
    unfold Builtin.Range.rangeSize
    rcases h with rfl | rfl
    · simp only [show (1 : Int) > 0 by decide, if_true, Int.ediv_one]
      split <;> omega
    · simp only [show ¬ ((-1 : Int) > 0) by decide, if_false, show (- -1 : Int) = 1 by decide, Int.ediv_one]
      split <;> omega
  have f : ∀ x : Int, -8388608 ≤ x → x ≤ 8388608 → Builtin.Range.rangeFitsLong x = true := fun x h1 h2 => by
    unfold Builtin.Range.rangeFitsLong
    simp only [Bool.and_eq_true, decide_eq_true_eq]
    omega
  unfold Builtin.Range.small
  simp only [Bool.and_eq_true, Bool.or_eq_true]
  refine ⟨⟨⟨⟨f _ (by omega) (by omega), f _ (by omega) (by omega)⟩, f _ (by omega) (by omega)⟩, f _ (by omega) (by omega)⟩, .inr ?_⟩
  split
  · exact f _ (by omega) (by omega)
  · exact f _ (by omega) (by omega)
theorem rngL_vrs {a c : Int} : ∀ (n : Nat) {k : Nat} {acc : List Value}, acc.length = n → (∀ j v, acc[j]? = some v → ∃ t, v = Value.int (a + (k + j : Nat) * c) t) → VRs S.fa as T ((rngL (a + k * c) c n).map .int) acc
  | 0, k, acc, hl, _ => by
    have : acc = [] := List.length_eq_zero_iff.mp hl
    subst this; exact .nil
  | n + 1, k, [], hl, _ => by simp at hl
  | n + 1, k, v :: r, hl, hv => by
    obtain ⟨t, rfl⟩ := hv 0 v rfl
    rw [rngL, List.map_cons]
    refine .cons (by simpa using VR.int (a + k * c) t) ?_
    have := rngL_vrs n (k := k + 1) (acc := r) (by simpa using hl) (fun j u hu => by
      obtain ⟨t, ht⟩ := hv (j + 1) u (by simpa using hu)
      exact ⟨t, by rw [ht]; congr 2; push_cast; congr 1; omega⟩)
    rw [show a + ((k + 1 : Nat) : Int) * c = a + k * c + c by push_cast; rw [Int.add_mul]; omega] at this
    exact this
theorem rngL_len (a c : Int) : ∀ n, (rngL a c n).length = n
  | 0 => rfl
  | n + 1 => by rw [rngL, List.length_cons, rngL_len]
/-- the kind's range value -/
theorem rngE {a b c : Int} (hr : HR S as T H h) (x : VR S.fa as T (.rng a b c) w) : ∃ p t u v, w = .ref p ∧ IsRange h p a b c t u v := by
  cases x with
  | rng t => obtain ⟨t1, u, v, e⟩ := hr.im _ _ t; exact ⟨_, _, _, _, rfl, e⟩
theorem new_rng {a b c : Int} {t u x : Tok} (hr : HR S as T H s.heap) (q : Ret S as T s H (.rng a b c) Q) (tk : Tok) :
    Q (.ref s.heap.objs.size) { s with heap := s.heap.push { cls := .type "range", data := .fields #[.int a t, .int b u, .int c x] }, toks := tk } := by
  obtain ⟨e, r⟩ := new_im (a := s.heap.objs.size) (i := .rng a b c) hr (keep_push { cls := .type "range", data := .fields #[.int a t, .int b u, .int c x] }) ⟨t, u, x, Heap.get?_push_size _ rfl⟩ (fun _ q => by cases q)
  exact q _ _ _ _ _ e r (.rng (.inr ⟨rfl, rfl⟩))

theorem listAtN {n : Nat} {l : List V} (hr : HR S as T H h) (hl : H[n]? = some (.list l)) (x : VR S.fa as T (.loc n) w) : ∃ a ws, w = .ref a ∧ h.IsList a ws.toArray ∧ l.length ≤ lim ∧ VRs S.fa as T l ws := by
  obtain ⟨a, ws, k, rfl, hp, e1, hz, hv⟩ := hr.listAt hl x
  exact ⟨a, ws, rfl, ⟨_, e1, rfl, k, rfl⟩, hz, hv⟩
theorem len_ok {a : V} {n : Nat} {w0 : Value} (e : lenV a H = some n) (hr : HR S as T H s.heap) (v0 : VR S.fa as T a w0) (q : Ret S as T s H (.int n) Q) : wpAny (model S.prog S.w) A (call (.builtin "len") [w0]) Q E s := by
  cases a with
  | str x =>
    cases e
    obtain ⟨t, rfl, hz⟩ := strE v0
    refine PyProof.Rows.len_str (by rw [str_len]; have := lim_63 hz; omega) ?_
    rw [str_len]
    exact q.tok hr (.int _ _) _
  | tup l =>
    cases e
    obtain ⟨a, ws, rfl, ht, hz, hv⟩ := tupE hr v0
    have hl := hv.length
    refine len_tuple ht (by rw [List.size_toArray, hl]; exact lim_63 hz) ?_
    rw [List.size_toArray, hl]
    exact q.tok hr (.int _ _) _
  | loc n =>
    obtain ⟨l, hl, e⟩ := atL_some e
    cases e
    obtain ⟨a, ws, rfl, ht, hz, hv⟩ := listAtN hr hl v0
    have hl := hv.length
    refine len_list ht (by rw [List.size_toArray, hl]; exact lim_63 hz) ?_
    rw [List.size_toArray, hl]
    exact q.tok hr (.int _ _) _
  | _ => first | exact ff e | exact nn e | cases e
theorem int_ok {a : V} {n : Int} {w0 : Value} (e : intV a = some n) (hr : HR S as T H s.heap) (v0 : VR S.fa as T a w0) (q : Ret S as T s H (.int n) Q) : wpAny (model S.prog S.w) A (call (.type "int") [w0]) Q E s := by
  cases a with
  | int i =>
    cases e
    obtain ⟨t, rfl⟩ := intE v0
    exact call_int_int (q.now hr (.int _ _))
  | bool b =>
    cases e
    cases boolE v0
    exact call_int_bool (q.tok hr (.int _ _) _)
  | str x =>
    cases x with
    | nil => first | exact ff e | exact nn e | cases e
    | cons c x => cases x with
      | cons => first | exact ff e | exact nn e | cases e
      | nil =>
        obtain ⟨hc, e⟩ := gd_some e
        cases e
        obtain ⟨t, rfl, hz⟩ := strE v0
        refine KIN.call_text (n := (c : Int) - 48) ?_ (by rw [str_len]; simp) (q.tok hr (.int _ _) _)
        have : ∀ c, c < 58 → 48 ≤ c → PySem.intText? ⟨[c].toArray⟩ = some ((c : Int) - 48) := by decide +kernel
        exact this c hc.2 hc.1
  | _ => first | exact ff e | exact nn e | cases e
theorem list_ok {a : V} {l : List V} {w0 : Value} (hh : A.handled = none) (e : listV a H = some l) (hr : HR S as T H s.heap) (v0 : VR S.fa as T a w0) (q : Ret S as T s (H ++ [.list l]) (.loc H.length) Q) : wpAny (model S.prog S.w) A (call (.type "list") [w0]) Q E s := by
  cases a with
  | tup l => cases e; exact listTup_ok hr v0 q
  | loc n =>
    obtain ⟨l, hl, e⟩ := atL_some e
    cases e
    exact listCopy_ok hr v0 hl q
  | rng a b c =>
    obtain ⟨hc, e⟩ := gd_some e
    cases e
    obtain ⟨p, t, u, x, rfl, hR⟩ := rngE hr v0
    refine PySem.call_list_range hh hR (rng_small hc.2.2.2 hc.2.1 hc.2.2.1) (rng_len hc.2.2.2) (Nat.le_trans hc.1 (by decide)) fun h' tk acc' c' kp hD hit => ?_
    have hv := rngL_vrs (S := S) (as := as) (T := T) (a := a) (c := c) (rngLen a b c) (k := 0) (acc := acc'.toList) (by rw [Array.length_toList]; exact hit.1) (fun j v hj => by
      obtain ⟨t, ht⟩ := hit.2 j v (by simpa using hj)
      exact ⟨t, by rw [ht]; simp⟩)
    rw [show a + ((0 : Nat) : Int) * c = a by simp] at hv
    exact ret_new hr kp (by rw [hD]; simp [lst]; rfl) hv (by rw [List.length_map, rngL_len]; exact Nat.le_trans hc.1 (by decide)) q tk
  | _ => first | exact ff e | exact nn e | cases e
theorem range_ok {vs : List V} {v : V} {ws : List Value} (e : rangeV vs = some v) (hr : HR S as T H s.heap) (vv : VRs S.fa as T vs ws) (q : Ret S as T s H v Q) : wpAny (model S.prog S.w) A (call (.type "range") ws) Q E s := by
  cases vv with
  | nil => first | exact ff e | exact nn e | cases e
  | cons v0 vv =>
    obtain ⟨a, hx, e1⟩ := onI_some e; subst hx; clear e; have e := e1; clear e1
    obtain ⟨t, rfl⟩ := intE v0
    cases vv with
    | nil =>
      obtain ⟨hc, e⟩ := gd_some e
      cases e
      exact PySem.call_range_1 (new_rng hr q _)
    | cons v1 vv =>
      obtain ⟨b, hx, e1⟩ := onI_some e; subst hx; clear e; have e := e1; clear e1
      obtain ⟨u, rfl⟩ := intE v1
      cases vv with
      | nil =>
        obtain ⟨hc, e⟩ := gd_some e
        cases e
        exact PySem.call_range_2 (new_rng hr q _)
      | cons v2 vv =>
        obtain ⟨c, hx, e1⟩ := onI_some e; subst hx; clear e; have e := e1; clear e1
        obtain ⟨x, rfl⟩ := intE v2
        obtain ⟨hx, e1⟩ := on0_some e; subst hx; clear e; have e := e1; clear e1
        cases vv
        obtain ⟨hc, e⟩ := gd_some e
        cases e
        exact PySem.call_range_3 (by rcases hc.2.2 with z | z <;> omega) (new_rng hr q _) (.inl (one_div hc.2.2))
theorem strI_ok {i : Int} {t : Tok} (hc : 0 ≤ i ∧ i < 10) (hr : HR S as T H s.heap) (q : Ret S as T s H (.str [48 + i.toNat]) Q) : wpAny (model S.prog S.w) A (call (.type "str") [.int i t]) Q E s := by
  have : ∀ n : Nat, n < 10 → Str.ofString (toString (n : Int)) = ⟨[48 + n].toArray⟩ := by decide +kernel
  obtain ⟨n, rfl⟩ := Int.eq_ofNat_of_zero_le hc.1
  refine P.str_of_int (a := (n : Int)) ?_ ?_
  · have : ((n : Int)).natAbs = n := by simp
    rw [this]
    by_cases h0 : n = 0
    · subst h0; decide
    · exact Nat.lt_of_lt_of_le ((Nat.log2_lt h0).mpr (show n < 2 ^ 10 by omega)) (by decide)
  · rw [this n (by omega)]
    exact q.tok hr (.str [48 + n] _ (by simp [lim])) _
theorem prim_ok {p : Pr} {r : V} {vs : List V} {ws : List Value} (hh : A.handled = none) (e : primV p vs H = some (r, H')) (hr : HR S as T H s.heap) (vv : VRs S.fa as T vs ws) (q : Ret S as T s H' r Q) :
    wpAny (model S.prog S.w) A (call (primVal p) ws) Q E s := by
  cases p with
  | len =>
    obtain ⟨a, hx, e1⟩ := on1_some e; subst hx; clear e; have e := e1; clear e1
    obtain ⟨w0, rfl, v0⟩ := vrs1 vv
    obtain ⟨n, e1, h⟩ := map_some e
    cases h
    exact len_ok e1 hr v0 q
  | abs =>
    obtain ⟨a, hx, e1⟩ := on1_some e; subst hx; clear e; have e := e1; clear e1
    obtain ⟨w0, rfl, v0⟩ := vrs1 vv
    obtain ⟨i, hx, e1⟩ := onI_some e; subst hx; clear e; have e := e1; clear e1
    cases e
    obtain ⟨t, rfl⟩ := intE v0
    refine PyProof.Rows.call_abs_int fun u tk => ?_
    have : (if i < 0 then -i else i) = (i.natAbs : Int) := by split <;> omega
    rw [this]
    exact q.tok hr (.int _ _) _
  | int =>
    obtain ⟨a, hx, e1⟩ := on1_some e; subst hx; clear e; have e := e1; clear e1
    obtain ⟨w0, rfl, v0⟩ := vrs1 vv
    obtain ⟨n, e1, h⟩ := map_some e
    cases h
    exact int_ok e1 hr v0 q
  | chr => exact nn e
  | ord => exact nn e
  | list =>
    obtain ⟨a, hx, e1⟩ := on1_some e; subst hx; clear e; have e := e1; clear e1
    obtain ⟨w0, rfl, v0⟩ := vrs1 vv
    obtain ⟨l, e1, h⟩ := map_some e
    cases h
    exact list_ok hh e1 hr v0 q
  | range =>
    obtain ⟨v, e1, h⟩ := map_some e
    cases h
    exact range_ok e1 hr vv q
  | min => cases e
  | str =>
    obtain ⟨a, hx, e1⟩ := on1_some e; subst hx; clear e; have e := e1; clear e1
    obtain ⟨w0, rfl, v0⟩ := vrs1 vv
    obtain ⟨i, hx, e1⟩ := onI_some e; subst hx; clear e; have e := e1; clear e1
    obtain ⟨hc, e⟩ := gd_some e
    cases e
    obtain ⟨t, rfl⟩ := intE v0
    exact strI_ok hc hr q
end
end Mine

namespace Mine
section
variable {S : Sur} {as as1 : As} {T T1 : TS} {H H' : Hp} {h h' h1 : Heap} {s : Shared} {v : V} {w : Value} {Q : Value → Shared → Prop} {A : Around} {E : Value → Shared → Prop}
noncomputable def bmTy : BM → String
  | .append => "list" | .pop => "list" | .extend => "list" | .reverse => "list" | .join => "str" | .replace => "str" | .startswith => "str" | .lstrip => "str" | .split => "str" | .get => "dict"
noncomputable def bmId : BM → String
  | .append => "list.append" | .pop => "list.pop" | .extend => "list.extend" | .reverse => "list.reverse" | .join => "str.join" | .replace => "str.replace" | .startswith => "str.startswith" | .lstrip => "str.lstrip" | .split => "str.split" | .get => "dict.get"

theorem strs_vals : ∀ {ws : List Value} {ss : List (List Nat)}, StrsAre ws (ss.map fun x => (⟨x.toArray⟩ : Str)) → ∃ l : List (Str × Tok), ws = strValues l ∧ l.map (·.1) = ss.map fun x => (⟨x.toArray⟩ : Str)
  | _, [], h => by cases h; exact ⟨[], rfl, rfl⟩
  | _, y :: r, h => by
    cases h with
    | cons _ t h' =>
      obtain ⟨l, h1, h2⟩ := strs_vals h'
      exact ⟨(_, t) :: l, by rw [h1]; rfl, by rw [List.map_cons, h2, List.map_cons]⟩
theorem glue_cat (ss : List (List Nat)) : Txt.join (⟨#[]⟩ : Str) (ss.map fun x => (⟨x.toArray⟩ : Str)) = ⟨(catL ss).toArray⟩ := by
  have gen : ∀ (r : List (List Nat)) (acc : List Nat), (List.foldl (fun acc (p : Str) => acc ++ (#[] : Array Nat) ++ p.cps) acc.toArray (r.map fun x => (⟨x.toArray⟩ : Str))) = (acc ++ catL r).toArray := by
    intro r
    induction r with
    | nil => intro acc; simp [catL]
    | cons x r ih =>
      intro acc
      rw [List.map_cons, List.foldl_cons]
      have : acc.toArray ++ (#[] : Array Nat) ++ x.toArray = (acc ++ x).toArray := by simp
      rw [this, ih, catL, List.append_assoc]
  cases ss with
  | nil => rfl
  | cons x r =>
    show (⟨List.foldl (fun acc (p : Str) => acc ++ (#[] : Array Nat) ++ p.cps) x.toArray (r.map fun x => (⟨x.toArray⟩ : Str))⟩ : Str) = _
    rw [gen]; rfl
theorem sum_cat : ∀ (ss : List (List Nat)) (n : Nat), List.foldl (fun x1 (x2 : Str) => x1 + x2.length + (⟨#[]⟩ : Str).length) n (ss.map fun x => (⟨x.toArray⟩ : Str)) = n + (catL ss).length
  | [], n => rfl
  | x :: r, n => by
    rw [List.map_cons, List.foldl_cons, sum_cat r, catL, List.length_append, str_len]
    show n + x.length + 0 + _ = _
    omega
theorem start_has : ∀ (t s : List Nat), Txt.startswith ⟨s.toArray⟩ ⟨t.toArray⟩ = hasPre t s := by
  have gen : ∀ (t s : List Nat), (s.take t.length == t) = hasPre t s := by
    intro t
    induction t with
    | nil => intro s; simp [hasPre]
    | cons a r ih =>
      intro s
      cases s with
      | nil => rfl
      | cons b u =>
        rw [hasPre, ← ih u, List.length_cons, List.take_succ_cons]
        show (b == a && List.take r.length u == r) = _
        congr 1
        rw [Bool.eq_iff_iff, beq_iff_eq, beq_iff_eq]
        exact eq_comm
  intro t s
  unfold Txt.startswith
  rw [StrLaws.subAt_eq, ← gen t s, str_len, str_len]
  show (decide (0 + t.length ≤ s.length) && (List.take t.length s == t)) = _
  rw [Nat.zero_add]
  by_cases hle : t.length ≤ s.length
  · simp [hle]
  · have : ¬ s.take t.length = t := fun q => by
      have := congrArg List.length q
      simp at this; omega
    simp [hle, this]

theorem join_ok {n : Nat} {v : V} {wo w0 : Value} (e : joinV H n = some v) (hr : HR S as T H s.heap) (vo : VR S.fa as T (.str []) wo) (v0 : VR S.fa as T (.loc n) w0) (q : Ret S as T s H v Q) :
    wpAny (model S.prog S.w) A (call (.builtin "str.join") [wo, w0]) Q E s := by
  obtain ⟨l, hl, e1⟩ := atL_some e
  obtain ⟨ss, hs, e2⟩ := strsOf'_some e1
  obtain ⟨hlen, he⟩ := gd_some e2
  cases he
  obtain ⟨t, rfl, hz⟩ := strE vo
  obtain ⟨a, us, rfl, hL, hz2, hv⟩ := listAtN hr hl v0
  obtain ⟨lt, h1, h2⟩ := strs_vals (strsE hs hv)
  subst h1
  refine SC.join (texts := ss.map fun x => (⟨x.toArray⟩ : Str)) hL h2 ?_ fun t' k => ?_
  · unfold JoinOk
    rw [← Array.foldl_toList, List.toList_toArray, sum_cat]
    unfold Builtin.Str.tooLong
    simp only [Bool.not_eq_true', decide_eq_false_iff_not]
    have := lim_size hlen
    show ¬ 0 + (catL ss).length > sizeLine
    omega
  · rw [glue_cat]
    exact q.tok hr (.str _ _ hlen) _
theorem dget_ok {n : Nat} {k : List Nat} {es : List (List Nat × V)} {dv : V} {wo w0 w2 : Value} (hl : H[n]? = some (.dict es)) (hr : HR S as T H s.heap) (vo : VR S.fa as T (.loc n) wo) (v0 : VR S.fa as T (.str k) w0) (v2 : VR S.fa as T dv w2) (q : Ret S as T s H ((lookS k es).getD dv) Q) :
    wpAny (model S.prog S.w) A (call (.builtin "dict.get") [wo, w0, w2]) Q E s := by
  obtain ⟨t, rfl, hz⟩ := strE v0
  obtain ⟨a, ds, rfl, hp, e1, hz2, hv⟩ := hr.dictAt hl vo
  have hd : (a == sysModules) = false := by
    rw [beq_eq_false_iff_ne]
    have := hr.big a (mem_owned hp).1
    exact Nat.ne_of_gt this
  have hm := e1.mapOf
  refine call_meetsIn PySem.F.slot_dict_get hm.typeIs PySem.F.entry_dict_get (PySem.F.args_dict_get_3 _ _ _) (meets_dict_get_default (strKind S.prog S.w) (k := ⟨k.toArray⟩) a (strKind_is _ _ _ _) hd w2) ⟨_, hm, ?_⟩
  have := dr_at hv k
  cases hk : lookS k es with
  | some v =>
    rw [hk] at this q
    obtain ⟨u, hu, vu⟩ := this
    rw [hu]
    exact q.tok hr vu _
  | none =>
    rw [hk] at this q
    rw [this]
    exact q.tok hr v2 _
theorem bm_ok {m : BM} {o r : V} {vs : List V} {wo : Value} {ws : List Value} (e : bmV m o vs H = some (r, H')) (hr : HR S as T H s.heap) (vo : VR S.fa as T o wo) (vv : VRs S.fa as T vs ws) (q : Ret S as T s H' r Q) :
    wpAny (model S.prog S.w) A (call (.builtin (bmId m)) (wo :: ws)) Q E s := by
  cases m with
  | append =>
    obtain ⟨n, hx, e1⟩ := onN_some e; subst hx
    obtain ⟨a, hx, e2⟩ := on1_some e1; subst hx
    obtain ⟨l, hl, e3⟩ := atL_some e2
    obtain ⟨hc, he⟩ := gd_some e3
    cases he
    obtain ⟨w0, rfl, v0⟩ := vrs1 vv
    exact append_ok hr vo v0 hl hc q
  | pop =>
    obtain ⟨n, hx, e1⟩ := onN_some e; subst hx
    obtain ⟨hx, e2⟩ := on0_some e1; subst hx
    obtain ⟨l, hl, e3⟩ := atL_some e2
    cases vv
    cases hv : l.getLast? with
    | none => rw [hv] at e3; first | exact nn e3 | exact ff e3 | cases e3
    | some v => rw [hv] at e3; cases e3; exact pop_ok hr vo hl hv q
  | extend =>
    obtain ⟨n, hx, e1⟩ := onN_some e; subst hx
    obtain ⟨a, hx, e2⟩ := on1_some e1; subst hx
    obtain ⟨k, hx, e3⟩ := onN_some e2; subst hx
    obtain ⟨l, hl, e4⟩ := atL_some e3
    obtain ⟨m, hm, e5⟩ := atL_some e4
    obtain ⟨hc, he⟩ := gd_some e5
    cases he
    obtain ⟨w0, rfl, v0⟩ := vrs1 vv
    exact extend_ok hr vo v0 hl hm hc.2 q
  | reverse => exact nn e
  | join =>
    obtain ⟨x, hx, e1⟩ := onS_some e; subst hx
    obtain ⟨a, hx, e2⟩ := on1_some e1; subst hx
    obtain ⟨n, hx, e3⟩ := onN_some e2; subst hx
    obtain ⟨w0, rfl, v0⟩ := vrs1 vv
    cases x with
    | cons => first | exact ff e3 | exact nn e3 | cases e3
    | nil =>
      obtain ⟨v, e4, he⟩ := map_some e3
      cases he
      exact join_ok e4 hr vo v0 q
  | replace => cases e
  | startswith => exact nn e
  | lstrip => cases e
  | split => cases e
  | get => exact nn e
theorem slice_list {items : Array Value} : slicePick items none (some 0) (some (-1)) = ((items.toList.drop 1).reverse).toArray := by
  unfold slicePick
  have hb : sliceBounds none (some 0) (some (-1)) items.size = ((items.size : Int) - 1, (if items.size = 0 then -1 else 0), -1) := by
    unfold sliceBounds
    simp only [Option.getD_some, show ¬ ((-1 : Int) > 0) by decide, if_false, show ¬ ((0 : Int) < 0) by decide]
    congr 2
    split <;> omega
  rw [hb]
  have hr : sliceRange ((items.size : Int) - 1) (if items.size = 0 then -1 else 0) (-1) = (List.range (items.size - 1)).map fun k => items.size - 1 - k := by
    unfold sliceRange
    have h1 : ¬ ((-1 : Int) > 0) := by decide
    by_cases h0 : items.size = 0
    · rw [h0]; simp
    · rw [if_neg h0]
      by_cases h : (items.size : Int) - 1 > 0
      · have e : ((items.size : Int) - 1 - 0 - -1 - 1) / (- -1) = ((items.size - 1 : Nat) : Int) := by
          rw [show (- -1 : Int) = 1 by decide, Int.ediv_one]
          omega
        simp only [h1, if_false, h, if_true, e, Int.toNat_natCast]
        apply List.map_congr_left
        intro k hk
        have := List.mem_range.mp hk
        omega
      · have e : items.size = 1 := by omega
        rw [e]; simp
  show ((sliceRange ((items.size : Int) - 1) (if items.size = 0 then -1 else 0) (-1)).filterMap (items[·]?)).toArray = _
  rw [hr]
  have hrev : (List.range (items.size - 1)).map (fun k => items.size - 1 - k) = ((List.range (items.size - 1)).map (1 + ·)).reverse := by
    rw [← List.map_reverse, ← krv_range, List.map_map]
    apply List.map_congr_left
    intro k hk
    have := List.mem_range.mp hk
    show _ = 1 + (items.size - 1 - 1 - k)
    omega
  rw [hrev, List.filterMap_reverse, pick_run, List.take_of_length_le (by rw [List.length_drop, Array.length_toList]; exact Nat.le_refl _)]

theorem str_pick {x : List Nat} {lo hi : Option (Int × Tok)} : slicePicked ⟨x.toArray⟩ lo hi none = sliceRange (sliceBounds (lo.map (·.1)) (hi.map (·.1)) none x.length).1 (sliceBounds (lo.map (·.1)) (hi.map (·.1)) none x.length).2.1 1 := by
  unfold slicePicked
  rw [str_len]
  rfl
theorem str_slice {x : List Nat} {t : Tok} {lo hi : Option (Int × Tok)} {sl : Addr} (hs : s.heap.IsSlice sl lo hi none) (hx : x.length ≤ lim)
    (q : ∀ t' k, Q (.str ⟨((x.drop (kms_lo (lo.map (·.1)) x.length)).take (kms_hi (hi.map (·.1)) x.length - kms_lo (lo.map (·.1)) x.length)).toArray⟩ t') { s with toks := k }) : wpAny (model S.prog S.w) A (getItem (.str ⟨x.toArray⟩ t) (.ref sl)) Q E s := by
  have hp : (slicePicked ⟨x.toArray⟩ lo hi none).filterMap (x.toArray[·]?) = (x.drop (kms_lo (lo.map (·.1)) x.length)).take (kms_hi (hi.map (·.1)) x.length - kms_lo (lo.map (·.1)) x.length) := by
    rw [str_pick, kms_bounds]
    show (sliceRange _ _ 1).filterMap _ = _
    rw [sliceRange_one, pick_run]
  have hlen : (slicePicked ⟨x.toArray⟩ lo hi none).length = x.length → (x.drop (kms_lo (lo.map (·.1)) x.length)).take (kms_hi (hi.map (·.1)) x.length - kms_lo (lo.map (·.1)) x.length) = x := by
    intro hl
    rw [str_pick, kms_bounds] at hl
    have hl : (sliceRange (kms_lo (lo.map (·.1)) x.length : Nat) (kms_hi (hi.map (·.1)) x.length : Nat) 1).length = x.length := hl
    rw [sliceRange_one, List.length_map, List.length_range] at hl
    have h2 : kms_hi (hi.map (·.1)) x.length ≤ x.length := by
      unfold kms_hi
      split
      · exact Nat.le_refl _
      · split <;> omega
    have h3 : kms_lo (lo.map (·.1)) x.length = 0 ∨ x.length = 0 := by omega
    rcases h3 with h3 | h3
    · rw [h3, List.drop_zero, List.take_of_length_le (by omega)]
    · have : x = [] := List.length_eq_zero_iff.mp h3
      subst this; simp
  refine wpAny_getItem_str_slice hs (by rfl) ?_
  unfold sliceMade
  split
  · rename_i hc
    simp only [Bool.and_eq_true, beq_iff_eq] at hc
    have := hlen (by rw [hc.2, str_len])
    show Q (.str ⟨x.toArray⟩ t) s
    have q := q t s.toks
    rw [this] at q
    exact q
  · show (⟨((slicePicked ⟨x.toArray⟩ lo hi none).filterMap (x.toArray[·]?)).toArray⟩ : Str).length ≤ sizeLine ∧ Q (.str ⟨((slicePicked ⟨x.toArray⟩ lo hi none).filterMap (x.toArray[·]?)).toArray⟩ s.toks) { s with toks := s.toks + 1 }
    rw [hp, str_len]
    refine ⟨Nat.le_trans ?_ (lim_size hx), q _ _⟩
    rw [List.length_take, List.length_drop]; omega

theorem slice_str_ok {x : List Nat} {lo hi st : V} {t : List Nat} {wa wl wu wt : Value} {sl : Addr} (ht : sliceL x lo hi st = some t) (hr : HR S as T H s.heap) (va : VR S.fa as T (.str x) wa) (vl : VR S.fa as T lo wl) (vu : VR S.fa as T hi wu) (vt : VR S.fa as T st wt)
    (hsl : s.heap.IsSliceOf sl wl wu wt) (q : Ret S as T s H (.str t) Q) : wpAny (model S.prog S.w) A (getItem wa (.ref sl)) Q E s := by
  obtain ⟨tk, rfl, hz⟩ := strE va
  obtain ⟨o, ho, hc, hd⟩ := hsl
  obtain ⟨rfl, ht⟩ := noneV_some ht
  cases noneE vt
  cases lo with
  | none =>
    obtain ⟨j, rfl, ht⟩ := onI_some ht
    obtain ⟨hj, rfl⟩ := gd_some ‹_›
    obtain ⟨u, rfl⟩ := intE vu
    cases noneE vl
    refine str_slice (lo := none) (hi := some (j, u)) ⟨o, ho, hc, hd⟩ hz fun t' k => ?_
    have : (x.drop (kms_lo none x.length)).take (kms_hi (some j) x.length - kms_lo none x.length) = x.take j.toNat := by
      simp only [kms_lo, kms_hi, List.drop_zero, Nat.sub_zero, show ¬ j < 0 by omega, if_false]
      by_cases hle : j.toNat ≤ x.length
      · rw [Nat.min_eq_left hle]
      · rw [Nat.min_eq_right (by omega), List.take_of_length_le (Nat.le_refl _), List.take_of_length_le (by omega)]
    show Q (.str ⟨((x.drop (kms_lo none x.length)).take (kms_hi (some j) x.length - kms_lo none x.length)).toArray⟩ t') _
    rw [this]
    exact q.tok hr (.str _ _ (by rw [List.length_take]; omega)) _
  | int i =>
    obtain ⟨u, rfl⟩ := intE vl
    cases hi with
    | none =>
      obtain ⟨hi', rfl⟩ := gd_some ht
      cases noneE vu
      refine str_slice (lo := some (i, u)) (hi := none) ⟨o, ho, hc, hd⟩ hz fun t' k => ?_
      have : (x.drop (kms_lo (some i) x.length)).take (kms_hi none x.length - kms_lo (some i) x.length) = x.drop i.toNat := by
        simp only [kms_lo, kms_hi, show ¬ i < 0 by omega, if_false]
        by_cases hle : i.toNat ≤ x.length
        · rw [Nat.min_eq_left hle, List.take_of_length_le (by rw [List.length_drop]; exact Nat.le_refl _)]
        · rw [Nat.min_eq_right (by omega), List.drop_of_length_le (Nat.le_refl _), List.drop_of_length_le (by omega)]; simp
      show Q (.str ⟨((x.drop (kms_lo (some i) x.length)).take (kms_hi none x.length - kms_lo (some i) x.length)).toArray⟩ t') _
      rw [this]
      exact q.tok hr (.str _ _ (by rw [List.length_drop]; omega)) _
    | int j =>
      obtain ⟨hij, rfl⟩ := gd_some ht
      obtain ⟨u', rfl⟩ := intE vu
      refine str_slice (lo := some (i, u)) (hi := some (j, u')) ⟨o, ho, hc, hd⟩ hz fun t' k => ?_
      have : (x.drop (kms_lo (some i) x.length)).take (kms_hi (some j) x.length - kms_lo (some i) x.length) = (x.take j.toNat).drop i.toNat := by
        simp only [kms_lo, kms_hi, show ¬ i < 0 by omega, show ¬ j < 0 by omega, if_false]
        rw [List.drop_take]
        by_cases hle : i.toNat ≤ x.length
        · rw [Nat.min_eq_left hle]
          by_cases hle2 : j.toNat ≤ x.length
          · rw [Nat.min_eq_left hle2]
          · rw [Nat.min_eq_right (by omega), List.take_of_length_le (by rw [List.length_drop]; exact Nat.le_refl _), List.take_of_length_le (by rw [List.length_drop]; omega)]
        · rw [Nat.min_eq_right (a := i.toNat) (by omega), List.drop_of_length_le (Nat.le_refl _), List.drop_of_length_le (by omega)]; simp
      show Q (.str ⟨((x.drop (kms_lo (some i) x.length)).take (kms_hi (some j) x.length - kms_lo (some i) x.length)).toArray⟩ t') _
      rw [this]
      exact q.tok hr (.str _ _ (by rw [List.length_drop, List.length_take]; omega)) _
    | _ => first | exact ff ht | exact nn ht | cases ht
  | _ => first | exact ff ht | exact nn ht | cases ht
theorem take_pick (ws : List Value) {j : Int} (hj : 0 ≤ j) : kms_pick ws none (some j) = ws.take j.toNat := by
  simp only [kms_pick, kms_lo, kms_hi, List.drop_zero, Nat.sub_zero, show ¬ j < 0 by omega, if_false]
  by_cases hle : j.toNat ≤ ws.length
  · rw [Nat.min_eq_left hle]
  · rw [Nat.min_eq_right (by omega), List.take_of_length_le (Nat.le_refl _), List.take_of_length_le (by omega)]
theorem slice_new {l : List V} {ws : List Value} (hr : HR S as T H s.heap) (hv : VRs S.fa as T l ws) (hl : l.length ≤ lim) (q : Ret S as T s (H ++ [.list l]) (.loc H.length) Q) : Q (.ref s.heap.objs.size) { s with heap := s.heap.push { cls := .type "list", data := .seq ws.toArray } } :=
  ret_new hr (keep_push (lst _ 0)) (Heap.get?_push_size _ rfl) hv hl q s.toks
theorem slice_list_ok {l t : List V} {a : Addr} {ws : List Value} {lo hi st : V} {wl wu wt : Value} {sl : Addr} (ht : sliceR l lo hi st = some t) (hr : HR S as T H s.heap) (hL : s.heap.IsList a ws.toArray) (hz : l.length ≤ lim) (hv : VRs S.fa as T l ws) (vl : VR S.fa as T lo wl) (vu : VR S.fa as T hi wu) (vt : VR S.fa as T st wt)
    (hsl : s.heap.IsSliceOf sl wl wu wt) (q : Ret S as T s (H ++ [.list t]) (.loc H.length) Q) : wpAny (model S.prog S.w) A (getItem (.ref a) (.ref sl)) Q E s := by
  have hfit : ws.toArray.size ≤ sizeLine := by rw [List.size_toArray, hv.length]; exact lim_size hz
  obtain ⟨rfl, ht⟩ := noneV_some ht
  cases noneE vl
  cases hi with
  | none =>
    cases noneE vu
    obtain ⟨k, hk, e1⟩ := onI_some ht; subst hk
    obtain ⟨rfl, rfl⟩ := gd_some e1
    obtain ⟨u, rfl⟩ := intE vt
    refine wpAny_getItem_list_slice hL hsl .none .none (.int (-1) u) (by simp) ?_ hfit
    rw [krv_pick, List.toList_toArray]
    exact slice_new hr hv.reverse (by simpa using hz) q
  | int j =>
    obtain ⟨u, rfl⟩ := intE vu
    cases st with
    | none =>
      obtain ⟨hj, rfl⟩ := gd_some ht
      cases noneE vt
      refine wpAny_getItem_list_slice hL hsl .none (.int j u) .none (by simp) ?_ hfit
      rw [kms_pick_eq, List.toList_toArray, take_pick ws hj]
      exact slice_new hr (hv.take _) (by rw [List.length_take]; omega) q
    | int k =>
      obtain ⟨⟨rfl, rfl⟩, rfl⟩ := gd_some ht
      obtain ⟨u', rfl⟩ := intE vt
      refine wpAny_getItem_list_slice hL hsl .none (.int 0 u) (.int (-1) u') (by simp) ?_ hfit
      rw [slice_list, List.toList_toArray]
      exact slice_new hr (hv.drop 1).reverse (by simp; omega) q
    | _ => first | exact ff ht | exact nn ht | cases ht
  | _ => first | exact ff ht | exact nn ht | cases ht
theorem list_subI {a : Addr} {ws : List Value} (hL : s.heap.IsList a ws.toArray) : Sub s (.ref a) := by
  obtain ⟨o, g1, g2, _⟩ := hL; exact ⟨_, _, ⟨_, g1, g2⟩, PySem.slot_list_getitem.lookup⟩
theorem slice_ok {a lo hi st r : V} {wa wl wu wt : Value} {sl : Addr} (e : sliceV a lo hi st H = some (r, H')) (hr : HR S as T H s.heap) (va : VR S.fa as T a wa) (vl : VR S.fa as T lo wl) (vu : VR S.fa as T hi wu) (vt : VR S.fa as T st wt)
    (hsl : s.heap.IsSliceOf sl wl wu wt) (q : Ret S as T s H' r Q) : Sub s wa ∧ wpAny (model S.prog S.w) A (getItem wa (.ref sl)) Q E s := by
  cases a with
  | str x =>
    obtain ⟨t, ht, he⟩ := map_some e
    cases he
    obtain ⟨tk, hw, hz⟩ := strE va
    exact ⟨hw ▸ ⟨_, _, rfl, PySem.F.slot_str_getitem.lookup⟩, slice_str_ok ht hr va vl vu vt hsl q⟩
  | ro l =>
    obtain ⟨hn, e1⟩ := noneV_some e; subst hn
    obtain ⟨hn, e2⟩ := noneV_some e1; subst hn
    obtain ⟨j, hj', e3⟩ := onI_some e2; subst hj'
    obtain ⟨hj, he⟩ := gd_some e3
    cases he
    cases va with
    | ro tt hz hv =>
      rename_i a ws
      have hL : s.heap.IsList a ws.toArray := hr.im _ _ tt
      obtain ⟨u, rfl⟩ := intE vu
      cases noneE vl; cases noneE vt
      refine ⟨list_subI hL, wpAny_getItem_list_slice hL hsl .none (.int j u) .none (by simp) ?_ (by rw [List.size_toArray, hv.length]; exact lim_size hz)⟩
      rw [kms_pick_eq, List.toList_toArray, take_pick ws hj]
      exact slice_new hr (hv.take _) (by rw [List.length_take]; omega) q
  | loc n =>
    obtain ⟨l, hl, e1⟩ := atL_some e
    obtain ⟨t, ht, he⟩ := map_some e1
    cases he
    obtain ⟨a, ws, rfl, hL, hz, hv⟩ := listAtN hr hl va
    exact ⟨list_subI hL, slice_list_ok ht hr hL hz hv vl vu vt hsl q⟩
  | _ => first | exact ff e | exact nn e | cases e
end
end Mine

namespace Mine

structure AOkC (A : Around) (d : Nat) : Prop where
  handled : A.handled = none
  depth : A.depth + 4 * d + 6 ≤ 1000
  units : A.units + 32 * d + 180 ≤ 9900
theorem AOk.c {A : Around} {d : Nat} (x : AOk A d) : AOkC A d := ⟨x.handled, by have := x.depth; omega, by have := x.units; omega⟩
theorem AOk.u {A : Around} {d : Nat} (x : AOk A d) : A.units + 64 < cLine := by
  have := x.units
  show A.units + 64 < 9900
  omega

noncomputable def CallOk (S : Sur) (call : CallT) (d : Nat) : Prop := ∀ {k : Nat} {vs : List V} {H H' : Hp} {v : V}, call k vs H = some (v, H') →
  ∀ {A : Around} {s : Shared} {as : As} {T : TS} {R : Result → Shared → Prop} {a : Addr} {ws : List Value}, AOkC A d → S.fa[k]? = some a → HR S as T H s.heap → VRs S.fa as T vs ws →
    Ret S as T s H' v (fun w s' => R (.ok (.ret w)) s') → codeAny (model S.prog S.w) A (Code.call (.ref a) { pos := ws }) R s

section
variable {S : Sur} {as as1 : As} {T T1 : TS} {H H' : Hp} {h h' h1 : Heap} {s : Shared} {v : V} {w : Value} {Q : Value → Shared → Prop} {A : Around} {E : Value → Shared → Prop}

theorem bm_slots (m : BM) : PlainAttrs (bmTy m) ∧ Slot (bmTy m) (bmName m) (bmId m) ∧ typeOf (.builtin (bmId m)) = pure (.type "method_descriptor") := by
  cases m
  · exact ⟨PySem.F.plainAttrs_list, PySem.F.slot_list_append, PySem.F.type_list_append⟩
  · exact ⟨PySem.F.plainAttrs_list, PySem.F.slot_list_pop, PySem.F.type_list_pop⟩
  · exact ⟨PySem.F.plainAttrs_list, PySem.F.slot_list_extend, PySem.F.type_list_extend⟩
  · exact ⟨PySem.F.plainAttrs_list, PySem.F.slot_list_reverse, PySem.F.type_list_reverse⟩
  · exact ⟨PySem.F.plainAttrs_str, PySem.F.slot_str_join, PySem.F.type_str_join⟩
  · exact ⟨PySem.F.plainAttrs_str, PySem.F.slot_str_replace, PySem.F.type_str_replace⟩
  · exact ⟨PySem.F.plainAttrs_str, PySem.F.slot_str_startswith, PySem.F.type_str_startswith⟩
  · exact ⟨PySem.F.plainAttrs_str, PySem.F.slot_str_lstrip, PySem.F.type_str_lstrip⟩
  · exact ⟨PySem.F.plainAttrs_str, PySem.F.slot_str_split, PySem.F.type_str_split⟩
  · exact ⟨PySem.F.plainAttrs_dict, PySem.F.slot_dict_get, PySem.F.type_dict_get⟩

theorem bm_kind {m : BM} {o : V} {wo : Value} (e : bmK m o H = true) (hr : HR S as T H s.heap) (vo : VR S.fa as T o wo) :
    s.TypeIs wo (bmTy m) ∧ ∀ a, wo = .ref a → ∃ ob, s.heap.get? a = some ob ∧ ob.dict = none := by
  cases o with
  | str s =>
    obtain ⟨t, rfl, _⟩ := strE vo
    cases m <;> first | exact ff e | exact ⟨rfl, fun a q => by cases q⟩
  | loc n =>
    have e : (match H[n]? with
      | some (.list _) => (match (generalizing := false) m with | .append => true | .pop => true | .extend => true | .reverse => true | _ => false)
      | some (.dict _) => (match (generalizing := false) m with | .get => true | _ => false)
      | _ => false) = true := e
    cases h : H[n]? with
    | none => rw [h] at e; exact ff e
    | some ob =>
      rw [h] at e
      cases ob with
      | list l =>
        obtain ⟨a, ws, k, rfl, hp, e1, hz, hv⟩ := hr.listAt h vo
        cases m <;> first | exact ff e | exact ⟨⟨_, e1, rfl⟩, fun b q => by cases q; exact ⟨_, e1, rfl⟩⟩
      | dict es =>
        obtain ⟨a, ds, rfl, hp, e1, hz, hv⟩ := hr.dictAt h vo
        obtain ⟨ob, es', ep, g, x, _⟩ := e1
        cases m <;> first | exact ff e | exact ⟨⟨_, g, x.1⟩, fun b q => by cases q; exact ⟨_, g, x.2.1⟩⟩
      | _ => exact ff e
  | _ => exact ff e

end
end Mine

namespace Mine

noncomputable def RetB (S : Sur) (as : As) (T : TS) (s : Shared) (H' : Hp) (b : Bool) (Q : Bool → Shared → Prop) : Prop :=
  ∀ h' tk as' T', Ext Nil as T s.heap as' T' h' → HR S as' T' H' h' → Q b { s with heap := h', toks := tk }
noncomputable def RetL (S : Sur) (as : As) (T : TS) (s : Shared) (H' : Hp) (vs : List V) (Q : List Value → Shared → Prop) : Prop :=
  ∀ ws h' tk as' T', Ext Nil as T s.heap as' T' h' → HR S as' T' H' h' → VRs S.fa as' T' vs ws → Q ws { s with heap := h', toks := tk }

noncomputable def EvS (S : Sur) (call : CallT) (d : Nat) (e : ME) : Prop := ∀ {l : Lo} {H H' : Hp} {v : V}, evE S.P call e l H = some (v, H') →
  ∀ {nm : Nms} {sl : Sl} {x : Expr} {s : Shared} {as : As} {T : TS} {env : Env} {A : Around} {E Q : Value → Shared → Prop}, AOk A d → chE S.G e nm sl x = true → ER S as T env nm sl l s.heap → HR S as T H s.heap →
    Ret S as T s H' v Q → wpAny (model S.prog S.w) A (eval x env) Q E s
noncomputable def TrS (S : Sur) (call : CallT) (d : Nat) (e : ME) : Prop := ∀ {l : Lo} {H H' : Hp} {b : Bool}, evE S.P call e l H = some (.bool b, H') →
  ∀ {nm : Nms} {sl : Sl} {x : Expr} {s : Shared} {as : As} {T : TS} {env : Env} {A : Around} {E : Value → Shared → Prop} {Q : Bool → Shared → Prop}, AOk A d → chE S.G e nm sl x = true → ER S as T env nm sl l s.heap → HR S as T H s.heap →
    RetB S as T s H' b Q → wpAny (model S.prog S.w) A (PySem.isTrue x env (eval x env)) Q E s
noncomputable def EvLS (S : Sur) (call : CallT) (d : Nat) (es : List ME) : Prop := ∀ {l : Lo} {H H' : Hp} {vs : List V}, evL S.P call es l H = some (vs, H') →
  ∀ {nm : Nms} {sl : Sl} {xs : List Expr} {s : Shared} {as : As} {T : TS} {env : Env} {A : Around} {E : Value → Shared → Prop} {Q : List Value → Shared → Prop} {pos : Pos}, AOk A d → chL S.G es nm sl xs = true → ER S as T env nm sl l s.heap → HR S as T H s.heap →
    RetL S as T s H' vs Q → wpAny (model S.prog S.w) A (spliced (backTo pos (starEach xs env))) Q E s

section
variable {S : Sur} {call : CallT} {d : Nat}

theorem RetB.from {as as1 : As} {T T1 : TS} {s : Shared} {H' : Hp} {h1 : Heap} {b : Bool} {Q : Bool → Shared → Prop} {tk : Tok} (k : RetB S as T s H' b Q) (e : Ext Nil as T s.heap as1 T1 h1) : RetB S as1 T1 { s with heap := h1, toks := tk } H' b Q :=
  fun h' tk' as' T' e' hr => k h' tk' as' T' (e.trans e') hr
theorem RetL.from {as as1 : As} {T T1 : TS} {s : Shared} {H' : Hp} {h1 : Heap} {vs : List V} {Q : List Value → Shared → Prop} {tk : Tok} (k : RetL S as T s H' vs Q) (e : Ext Nil as T s.heap as1 T1 h1) : RetL S as1 T1 { s with heap := h1, toks := tk } H' vs Q :=
  fun w h' tk' as' T' e' hr vr => k w h' tk' as' T' (e.trans e') hr vr

/-- a value's truth, the plain way -/
theorem tr_of_ev {e : ME} {x : Expr} {l : Lo} {H H' : Hp} {b : Bool} {nm : Nms} {sl : Sl} {s : Shared} {as : As} {T : TS} {env : Env} {A : Around} {E : Value → Shared → Prop} {Q : Bool → Shared → Prop}
    (he : PySem.isTrue x env (eval x env) = (do let v ← eval x env; standAt x.pos; holding [v] (truthy v))) (h : EvS S call d e) (e1 : evE S.P call e l H = some (.bool b, H')) (ao : AOk A d) (c : chE S.G e nm sl x = true)
    (er : ER S as T env nm sl l s.heap) (hr : HR S as T H s.heap) (q : RetB S as T s H' b Q) : wpAny (model S.prog S.w) A (PySem.isTrue x env (eval x env)) Q E s := by
  refine wpAny_isTrue_value (h e1 ao c er hr fun w h' tk as' T' x' hr' vr => ?_) he
  cases boolE vr
  exact wpAny_truthy_bool (q h' tk as' T' x' hr')

theorem noStar1 {x : Expr} (h : notStar x = true) (rest : List Expr) (env : Env) : starEach (x :: rest) env = (false, eval x env) :: starEach rest env := by
  cases x <;> first | rfl | cases h
noncomputable def noStar : List Expr → Bool
  | [] => true
  | x :: r => notStar x && noStar r
theorem chL_star {G : Str → Option GV} {nm : Nms} {sl : Sl} : ∀ {es : List ME} {xs : List Expr}, chL G es nm sl xs = true → noStar xs = true
  | [], [], _ => rfl
  | [], _ :: _, h => by simp [chL] at h
  | _ :: _, [], h => by simp [chL] at h
  | e :: r, x :: ys, h => by
    simp only [chL, Bool.and_eq_true] at h
    simp only [noStar, h.1.1, chL_star h.2, Bool.and_self]
theorem star_any {pos : Pos} {env : Env} : ∀ {xs : List Expr}, noStar xs = true → (backTo pos (starEach xs env)).any (·.1) = false
  | [], _ => rfl
  | x :: r, h => by
    simp only [noStar, Bool.and_eq_true] at h
    rw [noStar1 h.1]
    show (false || (backTo pos (starEach r env)).any (·.1)) = false
    rw [star_any h.2]; rfl
theorem args_ok {M : Model} {A : Around} {E : Value → Shared → Prop} {s : Shared} {env : Env} {pos : Pos} {f : Value} {xs : List Expr} {Q : Args → Shared → Prop} (h : noStar xs = true)
    (k : wpAny M A (spliced (backTo pos (starEach xs env))) (fun vs s' => Q { pos := vs } s') E s) : wpAny M A (evalArgs f true (backTo pos (starEach xs env)) []) Q E s := by
  cases xs with
  | nil => exact wpAny_bind (m := spliced []) (wpAny_mono k (fun vs s' h' => wpAny_bind (wpAny_pure (wpAny_holding (wpAny_bind (wpAny_pure (wpAny_pure h'))))) ) fun _ _ x => x)
  | cons x r =>
    simp only [noStar, Bool.and_eq_true] at h
    rw [noStar1 h.1] at k ⊢
    exact Calls.evalArgs_plain k

theorem evL_len {P : Pg} {call : CallT} : ∀ {es : List ME} {l : Lo} {H H' : Hp} {vs : List V}, evL P call es l H = some (vs, H') → vs.length = es.length
  | [], _, _, _, _, e => by rw [evL] at e; cases e; rfl
  | _ :: r, _, _, _, _, e => by
    rw [evL] at e
    obtain ⟨a, H1, e1, e⟩ := bnd_some e
    obtain ⟨b, H2, e2, e⟩ := bnd_some e
    cases e
    rw [List.length_cons, evL_len e2, List.length_cons]

theorem l_nil : EvLS S call d [] := by
  intro l H H' vs e nm sl xs s as T env A E Q pos ao c er hr q
  rw [evL] at e; cases e
  cases xs with
  | nil => exact spliced_none (q [] s.heap s.toks as T (.refl ..) hr .nil)
  | cons => simp [chL] at c
theorem l_cons {e : ME} {r : List ME} (he : EvS S call d e) (hl : EvLS S call d r) : EvLS S call d (e :: r) := by
  intro l H H' vs e nm sl xs s as T env A E Q pos ao c er hr q
  rw [evL] at e
  obtain ⟨a, H1, e1, e⟩ := bnd_some e
  obtain ⟨b, H2, e2, e⟩ := bnd_some e
  cases e
  cases xs with
  | nil => simp [chL] at c
  | cons x ys =>
    simp only [chL, Bool.and_eq_true] at c
    refine spliced_more (he e1 ao c.1.2 er hr fun wa h1 tk1 as1 T1 x1 hr1 ra => ?_) (noStar1 c.1.1 _ _)
    exact hl e2 ao c.2 (er.ext x1) hr1 fun ws h2 tk2 as2 T2 x2 hr2 rb => q _ _ _ _ _ (x1.trans x2) hr2 (.cons (ra.mono x2.mono) rb)

theorem s_bad : EvS S call d .bad := fun e => nn e
theorem s_lit {u : V} : EvS S call d (.lit u) := by
  intro l H H' v e nm sl x s as T env A E Q ao c er hr q
  obtain ⟨rfl, rfl⟩ := ev_lit e
  obtain ⟨k, y, z, rfl, c1⟩ := ch_lit c
  cases u with
  | none => cases k with
    | none => exact PyProof.Rows.Constant_none (q.now hr .none)
    | _ => exact ff c1
  | bool a => cases k with
    | bool b => cases beq_iff_eq.mp c1; exact PyProof.Rows.Constant_bool (q.now hr (.bool _))
    | _ => exact ff c1
  | int a => cases k with
    | int b => cases beq_iff_eq.mp c1; exact wpAny_Constant_int (q.tok hr (.int _ _) _)
    | _ => exact ff c1
  | str a => cases k with
    | str b =>
      obtain ⟨c2, c3⟩ := and2 c1
      have := beq_iff_eq.mp c2
      subst this
      exact PySem.wpAny_Constant_str (q.tok hr (.str b.cps.toList s.toks (by have := of_decide_eq_true c3; unfold lim; omega)) _)
    | _ => exact ff c1
  | _ => exact ff c1
theorem s_loc {i : Nat} : EvS S call d (.loc i) := by
  intro l H H' v e nm sl x s as T env A E Q ao c er hr q
  obtain ⟨hu, rfl⟩ := ev_loc e
  obtain ⟨n, p, rfl, c1⟩ := ch_loc c
  exact name_loc er c1 hu fun w vr => q.now hr vr
mutual
theorem sameV_eq : ∀ {u v : V}, sameV u v = true → u = v
  | .none, v, h => by cases v with
    | none => rfl
    | _ => exact ff h
  | .bool a, v, h => by cases v with
    | bool b => rw [beq_iff_eq.mp h]
    | _ => exact ff h
  | .int a, v, h => by cases v with
    | int b => rw [beq_iff_eq.mp h]
    | _ => exact ff h
  | .str a, v, h => by cases v with
    | str b => rw [beq_iff_eq.mp h]
    | _ => exact ff h
  | .fn a, v, h => by cases v with
    | fn b => rw [beq_iff_eq.mp h]
    | _ => exact ff h
  | .tup a, v, h => by cases v with
    | tup b => rw [sameVs_eq (u := a) (v := b) h]
    | _ => exact ff h
  | .loc _, v, h => by cases v <;> exact ff h
  | .rng _ _ _, v, h => by cases v <;> exact ff h
  | .ro _, v, h => by cases v <;> exact ff h
theorem sameVs_eq : ∀ {u v : List V}, sameVs u v = true → u = v
  | [], v, h => by cases v with
    | nil => rfl
    | cons => exact ff h
  | a :: r, v, h => by cases v with
    | nil => exact ff h
    | cons b t => rw [sameV_eq (and2 h).1, sameVs_eq (and2 h).2]
end
theorem s_glob (C : Cx S) {u : V} : EvS S call d (.glob u) := by
  intro l H H' v e nm sl x s as T env A E Q ao c er hr q
  obtain ⟨rfl, rfl⟩ := ev_glob e
  obtain ⟨n, p, rfl, c0⟩ := ch_glob c
  obtain ⟨hn, g, hg, c1⟩ := gIs_spec c0
  cases g with
  | fn k =>
    cases u with
    | fn j =>
      cases beq_iff_eq.mp c1
      obtain ⟨a, ha, hv⟩ := C.gfn _ _ hg
      exact name_glob C er hr hn hv (q.now hr (.fn ha))
    | _ => exact ff c1
  | val u' =>
    cases sameV_eq c1
    obtain ⟨w, hw, vr⟩ := C.gval _ _ hg
    exact name_glob C er hr hn hw (q.now hr (vr.mono ⟨fun _ _ e => by simp at e, hr.t0⟩))
  | _ => exact ff c1
theorem s_tup {es : List ME} (hl : EvLS S call d es) : EvS S call d (.tup es) := by
  intro l H H' v e nm sl x s as T env A E Q ao c er hr q
  obtain ⟨vs, e1, rfl⟩ := ev_tup e
  obtain ⟨xs, k, p, rfl, h100, c2⟩ := ch_tup c
  refine wpAny_Tuple_spliced (hl e1 ao c2 er hr fun ws h1 tk1 as1 T1 x1 hr1 ra => ⟨?_, ?_⟩)
  · rw [ra.length, evL_len e1]; exact Nat.le_trans h100 (by decide)
  · obtain ⟨T2, x2, hr2, vr⟩ := push_tup hr1 ra (by rw [evL_len e1]; exact Nat.le_trans h100 (by decide))
    exact q _ _ _ _ _ (x1.trans x2) hr2 vr
theorem s_lst {es : List ME} (hl : EvLS S call d es) : EvS S call d (.lst es) := by
  intro l H H' v e nm sl x s as T env A E Q ao c er hr q
  obtain ⟨vs, H1, e1, rfl, rfl⟩ := ev_lst e
  obtain ⟨xs, p, rfl, h100, c2⟩ := ch_lst c
  refine wpAny_List_spliced (hl e1 ao c2 er hr fun ws h1 tk1 as1 T1 x1 hr1 ra => ⟨?_, ?_⟩)
  · rw [ra.length, evL_len e1]; exact Nat.le_trans h100 (by decide)
  · obtain ⟨x2, hr2, vr⟩ := push_list hr1 ra (by rw [evL_len e1]; exact Nat.le_trans h100 (by decide))
    exact q _ _ _ _ _ (x1.trans x2) hr2 vr
theorem base_eq {o : Expr} (h : notSuper o = true) (a : Str) (env : Env) (m : Sem Value) : attributeBase o a env m = m := by
  cases o with
  | Call f xs ks p => cases f with
    | Name => cases xs with
      | nil => cases ks with
        | nil => exact ff h
        | cons => rfl
      | cons => rfl
    | _ => rfl
  | _ => rfl
theorem s_attr (C : Cx S) {o : ME} {a : Nat} (ho : EvS S call d o) : EvS S call d (.attr o a) := by
  intro l H H' v e nm sl x s as T env A E Q ao c er hr q
  obtain ⟨ov, e1, hu⟩ := ev_attr e
  obtain ⟨y, p, rfl, c2, c3, c4⟩ := ch_attr c
  refine Attribute_any_ (ho e1 ao c4 er hr fun wa h1 tk1 as1 T1 x1 hr1 ra => ?_) ?_
  · exact getA_ok C hr1 ra hu fun u tk vr => q _ _ _ _ _ x1 hr1 vr
  · show (do
      let o ← attributeBase y (nmOf a) env (eval y env)
      standAt (Pos.atName p)
      let r ← holding [o] (getAttr o (nmOf a) true)
      letTemporaryGo y o r
      pure r) = _
    rw [base_eq c3]
theorem sub_plain {x : Expr} (h : isSlice x = false) (o i : Value) : subscripted x false o i = operate [o, i] (getItem o i) := by
  cases x <;> first | rfl | cases h
theorem s_idx {o i : ME} (ho : EvS S call d o) (hi : EvS S call d i) : EvS S call d (.idx o i) := by
  intro l H H' v e nm sl x s as T env A E Q ao c er hr q
  obtain ⟨ov, H1, iv, e1, e2, hu⟩ := ev_idx e
  obtain ⟨y, sb, p, rfl, c1, c2, c3⟩ := ch_idx c
  refine Subscript_ (ho e1 ao c2 er hr fun wa h1 tk1 as1 T1 x1 hr1 ra => ?_)
  refine hi e2 ao c3 (er.ext x1) hr1 fun wb h2 tk2 as2 T2 x2 hr2 rb => ?_
  obtain ⟨⟨Ty, id, t1, t2⟩, k⟩ := idx_ok (s := { s with heap := h2, toks := tk2 }) (E := E) (A := A) (Q := Q) hu hr2 (ra.mono x2.mono) rb fun u tk vr => q _ _ _ _ _ (x1.trans x2) hr2 vr
  exact tail_any t1 t2 k (sub_plain c1 _ _)
theorem sub_slice {l u st : Option Expr} {p : Pos} (o i : Value) : ∃ ops, subscripted (.Slice l u st p) false o i = operate ops (getItem o i) := by
  cases st with
  | none => exact ⟨_, rfl⟩
  | some _ => exact ⟨_, rfl⟩
/-- a part of a slice -/
theorem part_ok {m : ME} (hm : EvS S call d m) {l : Lo} {H H' : Hp} {v : V} (e : evE S.P call m l H = some (v, H')) {nm : Nms} {sl : Sl} {x : Option Expr} {s : Shared} {as : As} {T : TS} {env : Env} {A : Around} {E Q : Value → Shared → Prop} (ao : AOk A d)
    (c : partC S.G nm sl m x = true) (er : ER S as T env nm sl l s.heap) (hr : HR S as T H s.heap) (q : Ret S as T s H' v Q) : wpAny (model S.prog S.w) A (evalPart x env) Q E s := by
  cases x with
  | none =>
    have : m = .lit .none := by
      have c : noneLit m = true := c
      unfold noneLit at c
      split at c
      · rfl
      · exact ff c
    subst this
    obtain ⟨rfl, rfl⟩ := ev_lit e
    exact wpAny_evalPart_none (q.now hr .none)
  | some y => exact wpAny_evalPart_some (hm e ao (and2 c).1 er hr q)
theorem s_slice {o lo hi st : ME} (ho : EvS S call d o) (h1 : EvS S call d lo) (h2 : EvS S call d hi) (h3 : EvS S call d st) : EvS S call d (.slice o lo hi st) := by
  intro l H H' v e nm sl x s as T env A E Q ao c er hr q
  obtain ⟨ov, H1, lv, H2, uv, H3, tv, H4, e1, e2, e3, e4, e⟩ := ev_slice e
  obtain ⟨xx, l0, u0, s0, p0, p1, rfl, c1, c2, c3, c4⟩ := ch_slice c
  refine Subscript_ (ho e1 ao c1 er hr fun wa g1 tk1 as1 T1 x1 hr1 ra => ?_)
  refine wpAny_Slice (part_ok h1 e2 ao c2 (er.ext x1) hr1 fun wl g2 tk2 as2 T2 x2 hr2 rl => ?_)
  refine part_ok h2 e3 ao c3 ((er.ext x1).ext x2) hr2 fun wu g3 tk3 as3 T3 x3 hr3 ru => ?_
  refine part_ok h3 e4 ao c4 (((er.ext x1).ext x2).ext x3) hr3 fun wt g4 tk4 as4 T4 x4 hr4 rt => ?_
  have kp := keep_push (h := g4) { cls := Value.type "slice", data := Data.fields #[wl, wu, wt] }
  have m34 := x4.mono
  have m24 := x3.mono.trans m34
  obtain ⟨⟨Ty, id, t1, t2⟩, k⟩ := slice_ok (s := { s with heap := g4.push { cls := Value.type "slice", data := Data.fields #[wl, wu, wt] }, toks := tk4 }) (E := E) (A := A) (Q := Q) (sl := g4.objs.size) e (hr4.keep kp)
    (ra.mono (x2.mono.trans m24)) (rl.mono m24) (ru.mono m34) rt ⟨_, Heap.get?_push_size _ rfl, rfl, rfl⟩ fun w h' tk as' T' x' hr' vr => q _ _ _ _ _ ((((x1.trans x2).trans x3).trans x4).trans ((Ext.keep kp).trans x')) hr' vr
  obtain ⟨ops, hs⟩ := sub_slice _ _
  exact tail_any t1 t2 k hs
theorem s_bin {op : BOp} {a b : ME} (ha : EvS S call d a) (hb : EvS S call d b) : EvS S call d (.bin op a b) := by
  intro l H H' v e nm sl x s as T env A E Q ao c er hr q
  obtain ⟨va, H1, vb, H2, e1, e2, e⟩ := ev_bin e
  obtain ⟨y, o, z, p, rfl, c1, c2, c3⟩ := ch_bin c
  refine PySem.wpAny_BinOp (ha e1 ao c2 er hr fun wa h1 tk1 as1 T1 x1 hr1 ra => ?_)
  refine hb e2 ao c3 (er.ext x1) hr1 fun wb h2 tk2 as2 T2 x2 hr2 rb => ?_
  exact bin_ok e c1 hr2 (ra.mono x2.mono) rb ((q.from x1).from x2)
theorem s_neg {a : ME} (ha : EvS S call d a) : EvS S call d (.neg a) := by
  intro l H H' v e nm sl x s as T env A E Q ao c er hr q
  obtain ⟨i, e1, rfl⟩ := ev_neg e
  obtain ⟨y, p, rfl, c1⟩ := ch_neg c
  refine PySem.wpAny_UnaryOp (ha e1 ao c1 er hr fun wa h1 tk1 as1 T1 x1 hr1 ra => ?_)
  obtain ⟨t, rfl⟩ := intE ra
  exact neg_int (q _ _ _ _ _ x1 hr1 (.int _ _))
theorem s_not {a : ME} (ha : EvS S call d a) : EvS S call d (.not a) := by
  intro l H H' v e nm sl x s as T env A E Q ao c er hr q
  obtain ⟨b, e1, rfl⟩ := ev_not e
  obtain ⟨y, p, rfl, c1⟩ := ch_not c
  refine PySem.wpAny_UnaryOp (ha e1 ao c1 er hr fun wa h1 tk1 as1 T1 x1 hr1 ra => ?_)
  cases boolE ra
  exact not_of (wpAny_truthy_bool (q _ _ _ _ _ x1 hr1 (.bool _)))
theorem t_not {a : ME} (ha : TrS S call d a) : TrS S call d (.not a) := by
  intro l H H' v e nm sl x s as T env A E Q ao c er hr q
  obtain ⟨b', e1, hb⟩ := ev_not e
  cases hb
  obtain ⟨y, p, rfl, c1⟩ := ch_not c
  exact isTrue_not (ha e1 ao c1 er hr q)
theorem marks_of {x : Expr} (h : notSet x = true) (op : CmpOp) : behindInMarks op x = false := by
  cases x <;> first | rfl | cases h
theorem cmpE {a b : ME} {op : COp} (ha : EvS S call d a) (hb : EvS S call d b) {l : Lo} {H H' : Hp} {v : V} (e : evE S.P call (.cmp op a b) l H = some (v, H')) {nm : Nms} {sl : Sl} {x y : Expr} {o : CmpOp} {s : Shared} {as : As} {T : TS} {env : Env} {A : Around} {E Q : Value → Shared → Prop}
    (ao : AOk A d) (c0 : copIs op o = true) (c1 : chE S.G a nm sl x = true) (c2 : chE S.G b nm sl y = true) (er : ER S as T env nm sl l s.heap) (hr : HR S as T H s.heap) (q : Ret S as T s H' v Q) :
    wpAny (model S.prog S.w) A (eval x env) (fun a s₁ => wpAny (model S.prog S.w) A (eval y env) (fun b s₂ => wpAny (model S.prog S.w) A (compareOp o a b) Q E s₂) E s₁) E s := by
  obtain ⟨va, H1, vb, H2, r, e1, e2, hr', e⟩ := ev_cmp e
  cases e
  refine ha e1 ao c1 er hr fun wa h1 tk1 as1 T1 x1 hr1 ra => ?_
  refine hb e2 ao c2 (er.ext x1) hr1 fun wb h2 tk2 as2 T2 x2 hr2 rb => ?_
  exact cmp_ok ao.u hr' c0 hr2 (ra.mono x2.mono) rb fun tk => q _ _ _ _ _ (x1.trans x2) hr2 (.bool _)
theorem s_cmp {a b : ME} {op : COp} (ha : EvS S call d a) (hb : EvS S call d b) : EvS S call d (.cmp op a b) := by
  intro l H H' v e nm sl x s as T env A E Q ao c er hr q
  obtain ⟨y, o, z, p, rfl, c1, c2, c3, c4⟩ := ch_cmp c
  exact PySem.wpAny_Compare1 (cmpE ha hb e ao c1 c3 c4 er hr q) (marks_of c2 _)
theorem t_cmp {a b : ME} {op : COp} (ha : EvS S call d a) (hb : EvS S call d b) : TrS S call d (.cmp op a b) := by
  intro l H H' v e nm sl x s as T env A E Q ao c er hr q
  obtain ⟨y, o, z, p, rfl, c1, c2, c3, c4⟩ := ch_cmp c
  refine wpAny_isTrue_Compare1 (cmpE ha hb e ao c1 c3 c4 er hr fun w h' tk as' T' x' hr' vr => ?_) (marks_of c2 _)
  cases boolE vr
  exact wpAny_truthy_bool (q _ _ _ _ x' hr')
theorem s_ife {t a b : ME} (ht : TrS S call d t) (ha : EvS S call d a) (hb : EvS S call d b) : EvS S call d (.ife t a b) := by
  intro l H H' v e nm sl x s as T env A E Q ao c er hr q
  obtain ⟨H1, e⟩ := ev_ife e
  obtain ⟨y, z, w, p, rfl, c1, c2, c3⟩ := ch_ife c
  rcases e with ⟨e1, e⟩ | ⟨e1, e⟩
  · exact IfExp_ (ht e1 ao c1 er hr fun h1 tk1 as1 T1 x1 hr1 => ha e ao c2 (er.ext x1) hr1 (q.from x1))
  · exact IfExp_ (ht e1 ao c1 er hr fun h1 tk1 as1 T1 x1 hr1 => hb e ao c3 (er.ext x1) hr1 (q.from x1))
theorem t_ife {t a b : ME} (ht : TrS S call d t) (ha : TrS S call d a) (hb : TrS S call d b) : TrS S call d (.ife t a b) := by
  intro l H H' v e nm sl x s as T env A E Q ao c er hr q
  obtain ⟨H1, e⟩ := ev_ife e
  obtain ⟨y, z, w, p, rfl, c1, c2, c3⟩ := ch_ife c
  rcases e with ⟨e1, e⟩ | ⟨e1, e⟩
  · exact isTrue_IfExp (ht e1 ao c1 er hr fun h1 tk1 as1 T1 x1 hr1 => ha e ao c2 (er.ext x1) hr1 (q.from x1))
  · exact isTrue_IfExp (ht e1 ao c1 er hr fun h1 tk1 as1 T1 x1 hr1 => hb e ao c3 (er.ext x1) hr1 (q.from x1))
end
end Mine

namespace Mine
section
variable {S : Sur} {call : CallT} {d : Nat}

noncomputable def AllEv (S : Sur) (call : CallT) (d : Nat) : List ME → Prop
  | [] => True
  | e :: r => EvS S call d e ∧ TrS S call d e ∧ AllEv S call d r

theorem and_bool {P : Pg} : ∀ {es : List ME} {l : Lo} {H H' : Hp} {v : V}, evAnd P call es l H = some (v, H') → ∃ b, v = .bool b
  | [], _, _, _, _, e => by rw [evAnd] at e; cases e; exact ⟨_, rfl⟩
  | _ :: r, _, _, _, _, e => by
    rw [evAnd] at e
    obtain ⟨a, H1, e1, e⟩ := bnd_some e
    split at e
    · exact and_bool e
    · cases e; exact ⟨_, rfl⟩
    · cases e
theorem s_andL : ∀ {es : List ME}, AllEv S call d es → ∀ {l : Lo} {H H' : Hp} {v : V}, evAnd S.P call es l H = some (v, H') →
    ∀ ⦃nm : Nms⦄ ⦃sl : Sl⦄ ⦃xs : List Expr⦄ ⦃s : Shared⦄ ⦃as : As⦄ ⦃T : TS⦄ ⦃env : Env⦄ ⦃A : Around⦄ ⦃E Q : Value → Shared → Prop⦄ ⦃pos : Pos⦄, AOk A d → chL S.G es nm sl xs = true → xs ≠ [] → ER S as T env nm sl l s.heap → HR S as T H s.heap →
    Ret S as T s H' v Q → wpAny (model S.prog S.w) A (eval (.BoolOp .And xs pos) env) Q E s
  | [], _, _, _, _, _, e => by
    intro nm sl xs s as T env A E Q pos ao c hne er hr q
    cases xs with
    | nil => exact absurd rfl hne
    | cons => simp [chL] at c
  | e0 :: r, hA, _, _, _, _, e => by
    intro nm sl xs s as T env A E Q pos ao c hne er hr q
    obtain ⟨he, _, hr'⟩ := hA
    rw [evAnd] at e
    obtain ⟨a, H1, e1, e⟩ := bnd_some e
    cases xs with
    | nil => exact absurd rfl hne
    | cons x ys =>
      simp only [chL, Bool.and_eq_true] at c
      cases ys with
      | nil =>
        refine BoolOp_one (he e1 ao c.1.2 er hr fun w h1 tk1 as1 T1 x1 hr1 ra => ?_)
        cases r with
        | cons => have := c.2; simp [chL] at this
        | nil =>
          split at e
          · rw [evAnd] at e; cases e; exact q _ _ _ _ _ x1 hr1 ra
          · cases e; exact q _ _ _ _ _ x1 hr1 ra
          · cases e
      | cons y zs =>
        refine PyProof.Rows.BoolOp_and (he e1 ao c.1.2 er hr fun w h1 tk1 as1 T1 x1 hr1 ra => ?_)
        split at e
        · cases boolE ra
          refine wpAny_truthy_bool ?_
          simp only [if_true]
          exact s_andL hr' e ao c.2 (by simp) (er.ext x1) hr1 (q.from x1)
        · cases boolE ra
          cases e
          refine wpAny_truthy_bool ?_
          simp only [Bool.false_eq_true, if_false]
          exact q _ _ _ _ _ x1 hr1 (.bool _)
        · cases e
theorem t_andL : ∀ {es : List ME}, AllEv S call d es → ∀ {l : Lo} {H H' : Hp} {b : Bool}, evAnd S.P call es l H = some (.bool b, H') →
    ∀ ⦃nm : Nms⦄ ⦃sl : Sl⦄ ⦃xs : List Expr⦄ ⦃s : Shared⦄ ⦃as : As⦄ ⦃T : TS⦄ ⦃env : Env⦄ ⦃A : Around⦄ ⦃E : Value → Shared → Prop⦄ ⦃Q : Bool → Shared → Prop⦄ ⦃pos : Pos⦄ ⦃whole : Sem Value⦄, AOk A d → chL S.G es nm sl xs = true → ER S as T env nm sl l s.heap → HR S as T H s.heap →
    RetB S as T s H' b Q → wpAny (model S.prog S.w) A (PySem.isTrue (.BoolOp .And xs pos) env whole) Q E s
  | [], _, _, _, _, _, e => by
    intro nm sl xs s as T env A E Q pos whole ao c er hr q
    rw [evAnd] at e; cases e
    cases xs with
    | nil => exact isTrue_and_nil (q s.heap s.toks as T (.refl ..) hr)
    | cons => simp [chL] at c
  | e0 :: r, hA, _, _, _, _, e => by
    intro nm sl xs s as T env A E Q pos whole ao c er hr q
    obtain ⟨_, he, hr'⟩ := hA
    rw [evAnd] at e
    obtain ⟨a, H1, e1, e⟩ := bnd_some e
    cases xs with
    | nil => simp [chL] at c
    | cons x ys =>
      simp only [chL, Bool.and_eq_true] at c
      split at e
      · exact isTrue_and (he e1 ao c.1.2 er hr fun h1 tk1 as1 T1 x1 hr1 => t_andL hr' e ao c.2 (er.ext x1) hr1 (q.from x1))
      · cases e
        exact isTrue_and (he e1 ao c.1.2 er hr fun h1 tk1 as1 T1 x1 hr1 => q _ _ _ _ x1 hr1)
      · cases e
theorem s_orL : ∀ {es : List ME}, AllEv S call d es → ∀ {l : Lo} {H H' : Hp} {v : V}, evOr S.P call es l H = some (v, H') →
    ∀ ⦃nm : Nms⦄ ⦃sl : Sl⦄ ⦃xs : List Expr⦄ ⦃s : Shared⦄ ⦃as : As⦄ ⦃T : TS⦄ ⦃env : Env⦄ ⦃A : Around⦄ ⦃E Q : Value → Shared → Prop⦄ ⦃pos : Pos⦄, AOk A d → chL S.G es nm sl xs = true → xs ≠ [] → ER S as T env nm sl l s.heap → HR S as T H s.heap →
    Ret S as T s H' v Q → wpAny (model S.prog S.w) A (eval (.BoolOp .Or xs pos) env) Q E s
  | [], _, _, _, _, _, e => by
    intro nm sl xs s as T env A E Q pos ao c hne er hr q
    cases xs with
    | nil => exact absurd rfl hne
    | cons => simp [chL] at c
  | e0 :: r, hA, _, _, _, _, e => by
    intro nm sl xs s as T env A E Q pos ao c hne er hr q
    obtain ⟨he, _, hr'⟩ := hA
    rw [evOr] at e
    obtain ⟨a, H1, e1, e⟩ := bnd_some e
    cases xs with
    | nil => exact absurd rfl hne
    | cons x ys =>
      simp only [chL, Bool.and_eq_true] at c
      cases ys with
      | nil =>
        refine BoolOp_one (he e1 ao c.1.2 er hr fun w h1 tk1 as1 T1 x1 hr1 ra => ?_)
        cases r with
        | cons => have := c.2; simp [chL] at this
        | nil =>
          split at e
          · rw [evOr] at e; cases e; exact q _ _ _ _ _ x1 hr1 ra
          · cases e; exact q _ _ _ _ _ x1 hr1 ra
          · cases e
      | cons y zs =>
        refine PyProof.Rows.BoolOp_or (he e1 ao c.1.2 er hr fun w h1 tk1 as1 T1 x1 hr1 ra => ?_)
        split at e
        · cases boolE ra
          refine wpAny_truthy_bool ?_
          simp only [Bool.false_eq_true, if_false]
          exact s_orL hr' e ao c.2 (by simp) (er.ext x1) hr1 (q.from x1)
        · cases boolE ra
          cases e
          refine wpAny_truthy_bool ?_
          simp only [if_true]
          exact q _ _ _ _ _ x1 hr1 (.bool _)
        · cases e
theorem t_orL : ∀ {es : List ME}, AllEv S call d es → ∀ {l : Lo} {H H' : Hp} {b : Bool}, evOr S.P call es l H = some (.bool b, H') →
    ∀ ⦃nm : Nms⦄ ⦃sl : Sl⦄ ⦃xs : List Expr⦄ ⦃s : Shared⦄ ⦃as : As⦄ ⦃T : TS⦄ ⦃env : Env⦄ ⦃A : Around⦄ ⦃E : Value → Shared → Prop⦄ ⦃Q : Bool → Shared → Prop⦄ ⦃pos : Pos⦄ ⦃whole : Sem Value⦄, AOk A d → chL S.G es nm sl xs = true → ER S as T env nm sl l s.heap → HR S as T H s.heap →
    RetB S as T s H' b Q → wpAny (model S.prog S.w) A (PySem.isTrue (.BoolOp .Or xs pos) env whole) Q E s
  | [], _, _, _, _, _, e => by
    intro nm sl xs s as T env A E Q pos whole ao c er hr q
    rw [evOr] at e; cases e
    cases xs with
    | nil => exact isTrue_or_nil (q s.heap s.toks as T (.refl ..) hr)
    | cons => simp [chL] at c
  | e0 :: r, hA, _, _, _, _, e => by
    intro nm sl xs s as T env A E Q pos whole ao c er hr q
    obtain ⟨_, he, hr'⟩ := hA
    rw [evOr] at e
    obtain ⟨a, H1, e1, e⟩ := bnd_some e
    cases xs with
    | nil => simp [chL] at c
    | cons x ys =>
      simp only [chL, Bool.and_eq_true] at c
      split at e
      · exact isTrue_or (he e1 ao c.1.2 er hr fun h1 tk1 as1 T1 x1 hr1 => t_orL hr' e ao c.2 (er.ext x1) hr1 (q.from x1))
      · cases e
        exact isTrue_or (he e1 ao c.1.2 er hr fun h1 tk1 as1 T1 x1 hr1 => q _ _ _ _ x1 hr1)
      · cases e
theorem s_and {es : List ME} (hA : AllEv S call d es) : EvS S call d (.and es) := by
  intro l H H' v e nm sl x s as T env A E Q ao c er hr q
  have e : evAnd S.P call es l H = _ := e
  obtain ⟨xs, p, rfl, c1, c2⟩ := ch_and c
  exact s_andL hA e ao c2 (fun hn => by rw [hn] at c1; exact absurd c1 (by decide)) er hr q
theorem t_and {es : List ME} (hA : AllEv S call d es) : TrS S call d (.and es) := by
  intro l H H' v e nm sl x s as T env A E Q ao c er hr q
  have e : evAnd S.P call es l H = _ := e
  obtain ⟨xs, p, rfl, c1, c2⟩ := ch_and c
  exact t_andL hA e ao c2 er hr q
theorem s_or {es : List ME} (hA : AllEv S call d es) : EvS S call d (.or es) := by
  intro l H H' v e nm sl x s as T env A E Q ao c er hr q
  have e : evOr S.P call es l H = _ := e
  obtain ⟨xs, p, rfl, c1, c2⟩ := ch_or c
  exact s_orL hA e ao c2 (fun hn => by rw [hn] at c1; exact absurd c1 (by decide)) er hr q
theorem t_or {es : List ME} (hA : AllEv S call d es) : TrS S call d (.or es) := by
  intro l H H' v e nm sl x s as T env A E Q ao c er hr q
  have e : evOr S.P call es l H = _ := e
  obtain ⟨xs, p, rfl, c1, c2⟩ := ch_or c
  exact t_orL hA e ao c2 er hr q
theorem callF_ok {S : Sur} {K : Frag} {f : Value} {first : List Value} {xs : List Expr} {env : Env} {pos : Pos} {A : Around} {E Q : Value → Shared → Prop} {s : Shared} (hk : keepIn K f = true) (hs : noStar xs = true)
    (k : wpAny (model S.prog S.w) A (spliced (backTo pos (starEach xs env))) (fun vs s₁ => K.In s₁.heap ∧ wpAny (model S.prog S.w) A (PySem.call f (first ++ vs)) Q E s₁) E s) : wpAny (model S.prog S.w) A (callWith pos f first (backTo pos (starEach xs env)) []) Q E s :=
  callWith_of (P := fun h => K.In h) (by rw [star_any hs]; rfl) (keeps_K hk) (args_ok hs k)
theorem callB_ok {S : Sur} {id : String} {first : List Value} {xs : List Expr} {env : Env} {pos : Pos} {A : Around} {E Q : Value → Shared → Prop} {s : Shared} (hs : noStar xs = true)
    (k : wpAny (model S.prog S.w) A (spliced (backTo pos (starEach xs env))) (fun vs s₁ => wpAny (model S.prog S.w) A (PySem.call (.builtin id) (first ++ vs)) Q E s₁) E s) : wpAny (model S.prog S.w) A (callWith pos (.builtin id) first (backTo pos (starEach xs env)) []) Q E s :=
  callWith_builtin_kwB (star_any hs) rfl (args_ok hs k)
theorem callT_ok {S : Sur} {id : String} {first : List Value} {xs : List Expr} {env : Env} {pos : Pos} {A : Around} {E Q : Value → Shared → Prop} {s : Shared} (hs : noStar xs = true)
    (k : wpAny (model S.prog S.w) A (spliced (backTo pos (starEach xs env))) (fun vs s₁ => wpAny (model S.prog S.w) A (PySem.call (.type id) (first ++ vs)) Q E s₁) E s) : wpAny (model S.prog S.w) A (callWith pos (.type id) first (backTo pos (starEach xs env)) []) Q E s :=
  PyProof.Rows.callWith_type (star_any hs) (args_ok hs k)
/-- a call by the text's own function, joined to what CallOk says -/
theorem own_call (ca : CallOk S call d) {k : Nat} {vs : List V} {H H' : Hp} {v : V} (e : call k vs H = some (v, H')) {A : Around} {s : Shared} {as : As} {T : TS} {a : Addr} {ws : List Value} {E Q : Value → Shared → Prop} (ao : AOk A d) (ha : S.fa[k]? = some a) (hr : HR S as T H s.heap)
    (vv : VRs S.fa as T vs ws) (q : Ret S as T s H' v Q) : wpAny (model S.prog S.w) A (PySem.call (.ref a) ws) Q E s :=
  wpAny_call (ca e ao.c ha hr vv q)

theorem s_call (C : Cx S) (ca : CallOk S call d) {f : ME} {es : List ME} (hf : EvS S call d f) (hl : EvLS S call d es) : EvS S call d (.call f es) := by
  intro l H H' v e nm sl x s as T env A E Q ao c er hr q
  obtain ⟨k, H1, vs, H2, e1, e2, e⟩ := ev_call e
  obtain ⟨n, p, xs, p', rfl, c1, c2⟩ := ch_call c
  refine wpAny_Call_ofName (hf e1 ao c1 er hr fun wf h1 tk1 as1 T1 x1 hr1 rf => ?_)
  cases rf with
  | fn ha =>
    refine callF_ok (C.keep _ _ ha) (chL_star c2) (hl e2 ao c2 (er.ext x1) hr1 fun ws h2 tk2 as2 T2 x2 hr2 rv => ⟨C.X.keeps hr2.base, ?_⟩)
    exact own_call ca e ao ha hr2 rv ((q.from x1).from x2)
theorem s_bmeth {o : ME} {m : BM} {es : List ME} (ho : EvS S call d o) (hl : EvLS S call d es) : EvS S call d (.bmeth o m es) := by
  intro l H H' v e nm sl x s as T env A E Q ao c er hr q
  obtain ⟨ov, H1, vs, H2, e1, hk, e2, e⟩ := ev_bmeth e
  obtain ⟨y, ap, xs, p, rfl, c2, c3, c4, c5, c6⟩ := ch_bmeth c
  obtain ⟨b1, b2, b3⟩ := bm_slots m
  have hst := star_any (pos := p) (env := env) (chL_star c6)
  refine wpAny_Call_method (base_eq c4 _ _ _) ?_ c3 b1 b2 b3 (ho e1 ao c5 er hr fun wo h1 tk1 as1 T1 x1 hr1 ro => ?_)
  · have hall : (List.all (backTo p (starEach xs env)) fun x => !x.1) = true := by
      rw [List.all_eq_not_any_not]
      simpa using hst
    simp only [Bool.and_eq_true, decide_eq_true_eq]
    exact ⟨⟨hall, rfl⟩, by simp; omega⟩
  · obtain ⟨k1, k2⟩ := bm_kind (s := { s with heap := h1, toks := tk1 }) hk hr1 ro
    refine ⟨k1, k2, callB_ok (chL_star c6) (hl e2 ao c6 (er.ext x1) hr1 fun ws h2 tk2 as2 T2 x2 hr2 rv => ?_)⟩
    exact bm_ok e hr2 (ro.mono x2.mono) rv ((q.from x1).from x2)
theorem s_prim (C : Cx S) {p : Pr} {es : List ME} (hl : EvLS S call d es) : EvS S call d (.prim p es) := by
  intro l H H' v e nm sl x s as T env A E Q ao c er hr q
  obtain ⟨vs, H1, e1, e⟩ := ev_prim e
  obtain ⟨pp, xs, p', rfl, c2, c3⟩ := ch_prim c
  obtain ⟨hn, g, hg, c2⟩ := gIs_spec c2
  cases g with
  | pr g =>
    refine wpAny_Call_ofName (name_blt C er hr hn (C.gpr _ _ hg) (boot_prim p).1 (boot_prim p).2 ?_)
    have ev : wpAny (model S.prog S.w) A (spliced (backTo p' (starEach xs env))) (fun ws s' => wpAny (model S.prog S.w) A (PySem.call (primVal p) ws) Q E s') E s :=
      hl e1 ao c3 er hr fun ws h1 tk1 as1 T1 x1 hr1 rv => prim_ok ao.handled e hr1 rv (q.from x1)
    cases p with
    | int | list | range | str => exact callT_ok (chL_star c3) ev
    | _ => exact callB_ok (chL_star c3) ev
  | _ => exact ff c2
theorem under_ok {A : Around} {d : Nat} (ao : AOk A d) (a : Addr) (ws : List Value) : AOkC (A.under (.builtin "type.__call__" ⟨.ref a :: ws, []⟩)) d := by
  refine ⟨ao.handled, ?_, ?_⟩
  · have := ao.depth
    have h2 : (Code.builtin "type.__call__" ⟨.ref a :: ws, []⟩).weight = 1 := by kernel_rfl
    show A.depth + (Code.builtin "type.__call__" ⟨.ref a :: ws, []⟩).weight + 4 * d + 6 ≤ 1000
    omega
  · have := ao.units
    have h2 : (Code.builtin "type.__call__" ⟨.ref a :: ws, []⟩).cUnits = 1 := by kernel_rfl
    show A.units + (Code.builtin "type.__call__" ⟨.ref a :: ws, []⟩).cUnits + 32 * d + 180 ≤ 9900
    omega
theorem fr_nil {as : As} {T : TS} : FR S as T [] (fun _ => none) := ⟨fun i v e => by simp [lookN] at e, fun x w e => by simp at e⟩
theorem s_new (C : Cx S) (ca : CallOk S call d) {k : Nat} {es : List ME} (hl : EvLS S call d es) : EvS S call d (.new k es) := by
  intro l H H' v e nm sl x s as T env A E Q ao c er hr q
  obtain ⟨vs, H1, ci, e1, hci, e2, rfl⟩ := ev_new e
  obtain ⟨n, np, xs, p', rfl, c1, c2, c3⟩ := ch_new c
  obtain ⟨hn, g, hg, c2⟩ := gIs_spec c2
  cases g with
  | cls g =>
    cases beq_iff_eq.mp c2
    obtain ⟨Cl, hC, hv, _⟩ := C.gcls _ _ hg
    refine wpAny_Call_ofName (name_glob C er hr hn hv ?_)
    refine callF_ok (C.keepC _ _ hC) (chL_star c3) (hl e1 ao c3 er hr fun ws h1 tk1 as1 T1 x1 hr1 rv => ⟨C.X.keeps hr1.base, ?_⟩)
    obtain ⟨ci', hci', ok⟩ := C.cls k Cl c1 hC
    rw [hci] at hci'; cases hci'
    obtain ⟨a, ha, hf, ht⟩ := ok.init
    have X := C.X.keeps hr1.base
    refine wpAny_call (make_core (init := .ref a) (makes_of X ok.makes) (looks_findIn X hf) (fun self => bind_fn X self ht) (.inl rfl) ?_)
    have kp : ∀ b o, h1.get? b = some o → ((h1.push emptyDict).push (instObj Cl h1.objs.size)).get? b = some o := fun b o e => keep_push _ _ _ (keep_push _ _ _ e)
    have sz : (h1.push emptyDict).objs.size = h1.objs.size + 1 := Heap.size_push ..
    have n1 : h1.get? (h1.objs.size + 1) = none := by
      cases e : h1.get? (h1.objs.size + 1) with
      | none => rfl
      | some o => exact absurd (Heap.lt_size e) (Nat.not_lt.mpr (Nat.le_succ _))
    have o1 : ((h1.push emptyDict).push (instObj Cl h1.objs.size)).get? (h1.objs.size + 1) = some (instObj Cl h1.objs.size) := by have := Heap.get?_push_size (h1.push emptyDict) (o := instObj Cl h1.objs.size) rfl; rw [sz] at this; exact this
    have o2 : ((h1.push emptyDict).push (instObj Cl h1.objs.size)).get? h1.objs.size = some emptyDict := keep_push _ _ _ (Heap.get?_push_size _ rfl)
    have hr2 : HR S (as1 ++ [(h1.objs.size + 1, some h1.objs.size)]) T1 (H1 ++ [.inst k []]) ((h1.push emptyDict).push (instObj Cl h1.objs.size)) := by
      refine hr1.alloc kp (by simp) (fun b hb => ?_) (.inst (f := fun _ => none) c1 hC o1 ⟨_, #[], _, o2, rfl, ?_, ?_, fun _ => rfl⟩ fr_nil)
      · simp at hb
        rcases hb with rfl | rfl
        · exact Nat.le_succ _
        · exact Nat.le_refl _
      · intro e he; simp at he
      · first | (intro i j; simp) | simp [UniqKeys] | (intro e he; simp at he)
    have mm : Mono as1 T1 (as1 ++ [(h1.objs.size + 1, some h1.objs.size)]) T1 := ⟨fun n q e => getElem?_append_some e, fun _ _ e => e⟩
    have x2 : Ext Nil as1 T1 h1 (as1 ++ [(h1.objs.size + 1, some h1.objs.size)]) T1 ((h1.push emptyDict).push (instObj Cl h1.objs.size)) := by
      refine ⟨mm, fun b o _ _ e => kp b o e, fun b hb _ => hb.elim, fun b hb => ?_⟩
      rw [owned_append] at hb
      rcases List.mem_append.mp hb with q | q
      · exact .inl q
      · simp [owned] at q
        rcases q with rfl | rfl
        · exact .inr n1
        · exact .inr size_none
    have vr : VR S.fa (as1 ++ [(h1.objs.size + 1, some h1.objs.size)]) T1 (.loc H1.length) (.ref (h1.objs.size + 1)) :=
      .loc (p := (h1.objs.size + 1, some h1.objs.size)) (by rw [List.getElem?_append_right (by rw [hr1.len]; exact Nat.le_refl _), hr1.len, Nat.sub_self]; rfl)
    refine ca e2 (s := { s with heap := (h1.push emptyDict).push (instObj Cl h1.objs.size), toks := tk1 }) (under_ok ao _ _) ha hr2 (.cons vr (rv.mono mm)) fun w h3 tk3 as3 T3 x3 hr3 rw3 => ?_
    cases noneE rw3
    exact ⟨rfl, q _ _ _ _ _ ((x1.trans x2).trans x3) hr3 (vr.mono x3.mono)⟩
  | _ => exact ff c2
theorem s_meth (C : Cx S) (ca : CallOk S call d) {o : ME} {m : Nat} {es : List ME} (ho : EvS S call d o) (hl : EvLS S call d es) : EvS S call d (.meth o m es) := by
  intro l H H' v e nm sl x s as T env A E Q ao c er hr q
  obtain ⟨n, H1, c0, fs, ci, k, vs, H2, e1, hn, hci, hk, e2, e⟩ := ev_meth e
  obtain ⟨y, ap, xs, p, rfl, c0', c2, c3, c4, c5, c6⟩ := ch_meth c
  have hst := star_any (pos := p) (env := env) (chL_star c6)
  have hform : methodCallForm (xs.length + ([] : List Keyword).length) (backTo p (starEach xs env)) (backToKw p (keywordEach [] env)) = true := by
    have hall : (List.all (backTo p (starEach xs env)) fun x => !x.1) = true := by
      rw [List.all_eq_not_any_not]
      simpa using hst
    unfold methodCallForm
    have hkw : backToKw p (keywordEach [] env) = [] := rfl
    rw [hkw]
    simp only [Bool.and_eq_true, decide_eq_true_eq]
    exact ⟨⟨hall, rfl⟩, by simp; omega⟩
  have hpos : methodCallPos true y env ap p = pure p := by unfold methodCallPos; simp [c3]
  rw [arm_eval_Call, base_eq c4]
  refine wpAny_bind (wpAny_mono (ho e1 ao c5 er hr fun wo h1 tk1 as1 T1 x1 hr1 ro => ?_) (fun _ _ e => e) fun _ _ e => e)
  refine wpAny_bind (wpAny_standAt ?_)
  unfold methodCall
  rw [hform]
  refine wpAny_bind (wpAny_holding (meth_ok C hr1 ro hn hci hk fun a ha => ?_))
  refine wpAny_bind (wpAny_of_eq hpos ?_)
  refine callF_ok (C.keep _ _ ha) (chL_star c6) (hl e2 ao c6 (er.ext x1) hr1 fun ws h2 tk2 as2 T2 x2 hr2 rv => ⟨C.X.keeps hr2.base, ?_⟩)
  exact own_call ca e ao ha hr2 (.cons (ro.mono x2.mono) rv) ((q.from x1).from x2)
theorem s_isin (C : Cx S) {o : ME} {k : IK} (ho : EvS S call d o) : EvS S call d (.isin o k) := by
  intro l H H' v e nm sl x s as T env A E Q ao c er hr q
  obtain ⟨ov, b, e1, hb, rfl⟩ := ev_isin e
  obtain ⟨n, p, y, z, pz, p', rfl, c1, rfl, c3, c4, c5⟩ := ch_isin c
  obtain ⟨hn, g, hg, c1⟩ := gIs_spec c1
  cases g with
  | isi =>
    obtain ⟨hz, rfl⟩ := C.gisi _ hg
    refine wpAny_Call_ofName (name_blt C er hr hn hz boot_isi.1 boot_isi.2 ?_)
    refine callB_ok (by simp only [noStar, c4, Bool.true_and]; rfl) ?_
    refine spliced_more (ho e1 ao c5 er hr fun wa h1 tk1 as1 T1 x1 hr1 ra => ?_) (noStar1 c4 _ _)
    obtain ⟨hn2, g2, hg2, c3⟩ := gIs_spec c3
    have done : ∀ wk, KV S k wk → wpAny (model S.prog S.w) A (PySem.call (.builtin "isinstance") [wa, wk]) Q E { s with heap := h1, toks := tk1 } := fun wk hk => isi_ok C hb hr1 ra hk fun tk => q _ _ _ _ _ x1 hr1 (.bool _)
    have er1 := er.ext x1
    cases g2 with
    | cls j =>
      cases k with
      | cls i =>
        cases beq_iff_eq.mp c3
        obtain ⟨Cl, hC, hv, _⟩ := C.gcls _ _ hg2
        exact spliced_more (name_glob C er1 hr1 hn2 hv (spliced_none (done _ ⟨Cl, hC, rfl⟩)))
      | _ => exact ff c3
    | pr g3 =>
      cases k with
      | int => exact spliced_more (name_blt C er1 hr1 hn2 (C.gpr _ _ hg2) (boot_prim .int).1 (boot_prim .int).2 (spliced_none (done _ rfl)))
      | str => exact spliced_more (name_blt C er1 hr1 hn2 (C.gpr _ _ hg2) (boot_prim .str).1 (boot_prim .str).2 (spliced_none (done _ rfl)))
      | _ => exact ff c3
    | typ g3 =>
      cases k with
      | tuple => exact spliced_more (name_blt C er1 hr1 hn2 (C.gtyp _ _ hg2) boot_tuple.1 boot_tuple.2 (spliced_none (done _ rfl)))
      | _ => exact ff c3
    | _ => exact ff c3
  | _ => exact ff c1
end
end Mine

namespace Mine
section
variable {S : Sur} {call : CallT} {d : Nat} {as as' : As} {T T' : TS} {H H' : Hp} {h h' : Heap} {s : Shared} {env : Env} {nm : Nms} {sl : Sl} {l : Lo} {A : Around} {E : Value → Shared → Prop}

/-- a place that is neither the small heap's nor the frame's -/
structure Free (S : Sur) (as : As) (env : Env) (I : Addr) : Prop where
  own : I ∉ owned as
  old : S.h0.get? I = none
  loc : I ≠ env.locals
  cell : ∀ x, env.cells.lookup x ≠ some I
theorem Free.nex {I : Addr} (f : Free S as env I) : ¬ EX env I := fun q => by
  rcases q with q | ⟨x, q⟩
  · exact f.loc q
  · exact f.cell x q
theorem Free.ext {X : Addr → Prop} {I : Addr} (f : Free S as env I) (e : Ext X as T h as' T' h') {o : Obj} (ho : h.get? I = some o) : Free S as' env I :=
  have own : I ∉ owned as' := fun q => by
    rcases e.own I q with z | z
    · exact f.own z
    · rw [z] at ho; first | exact nn ho | exact ff ho | cases ho
  ⟨own, f.old, f.loc, f.cell⟩
theorem ER.but (x : ER S as T env nm sl l h) {I : Addr} (f : Free S as env I) (k : ∀ b o, b ≠ I → h.get? b = some o → h'.get? b = some o) : ER S as T env nm sl l h' := by
  obtain ⟨m, hn, hm⟩ := x.loc
  refine ⟨x.kind, x.glob, x.blt, x.names, x.dbg, x.len, x.nd, ⟨m, ns_keep hn fun o => k _ o (Ne.symm f.loc), hm⟩, fun i y e1 => ?_, x.cellx, fun y c e1 => ?_, x.frame, x.cells⟩
  · obtain ⟨c, w, h1, h2, h3⟩ := x.cell i y e1
    exact ⟨c, w, h1, cell_keep h2 fun o => k _ o fun q => f.cell y (q ▸ h1), h3⟩
  · obtain ⟨w, h2⟩ := x.cella y c e1
    exact ⟨w, cell_keep h2 fun o => k _ o fun q => f.cell y (q ▸ e1)⟩
theorem ER.exo (x : ER S as T env nm sl l h) : ∀ b, EX env b → b ∉ owned as := fun b q => by
  rcases q with rfl | ⟨y, q⟩
  · exact x.frame.1
  · exact (x.cells y b q).1
/-- what is new is not the frame's -/
theorem ER.fresh (x : ER S as T env nm sl l h) (hr : HR S as T H h) {I : Addr} (hI : h.get? I = none) : Free S as env I := by
  refine ⟨fun q => ?_, ?_, fun q => ?_, fun y q => ?_⟩
  · obtain ⟨o, ho⟩ := hr.alive q; rw [hI] at ho; first | exact nn ho | exact ff ho | cases ho
  · cases e : S.h0.get? I with
    | none => rfl
    | some o => have := hr.base I o e; rw [hI] at this; first | exact nn this | exact ff this | cases this
  · obtain ⟨m, hn, _⟩ := x.loc
    obtain ⟨o, ho⟩ := ns_alive hn
    rw [← q, hI] at ho; cases ho
  · obtain ⟨w, hw⟩ := x.cella y I q
    obtain ⟨o, ho⟩ := cell_alive hw
    rw [hI] at ho; first | exact nn ho | exact ff ho | cases ho

/-- iterators -/
inductive IR (S : Sur) (as : As) (T : TS) (h : Heap) : It → Addr → Prop
  | tup {l : List V} {ws : List Value} {I t : Addr} {i : Nat} : h.IsTupleIter I t i → T t (.tup ws) → VRs S.fa as T l (ws.drop i) → IR S as T h (.seq l) I
  | str {x : Str} {t : Tok} {I : Addr} {i : Nat} {cs : List Nat} : h.IsStrIter I "str_ascii_iterator" x t i → cs = x.cps.toList.drop i → IR S as T h (.seq (cs.map fun c => .str [c])) I
  | lst {n i : Nat} {I a : Addr} : h.IsListIter I a i → as[n]? = some (a, none) → IR S as T h (.lst n i) I
  | rng {x c : Int} {k : Nat} {I : Addr} : IsRangeIter h I x k c → IR S as T h (.rng x c k) I
theorem IR.alive {it : It} {I : Addr} (x : IR S as T h it I) : ∃ o, h.get? I = some o ∧ o.cls ≠ .type "tuple" ∧ o.cls ≠ .type "list" ∧ o.cls ≠ .type "range" := by
  cases x with
  | tup a _ _ => obtain ⟨o, e, c, _⟩ := a; exact ⟨o, e, by rw [c]; decide, by rw [c]; decide, by rw [c]; decide⟩
  | str a _ => obtain ⟨o, e, c, _⟩ := a; exact ⟨o, e, by rw [c]; decide, by rw [c]; decide, by rw [c]; decide⟩
  | lst a _ => obtain ⟨o, e, c, _⟩ := a; exact ⟨o, e, by rw [c]; decide, by rw [c]; decide, by rw [c]; decide⟩
  | rng a => exact ⟨_, a, by intro q; simp at q, by intro q; simp at q, by intro q; simp at q⟩
theorem IR.keep {it : It} {I : Addr} (x : IR S as T h it I) (m : Mono as T as' T') (k : ∀ o, h.get? I = some o → h'.get? I = some o) : IR S as' T' h' it I := by
  cases x with
  | tup a b c => obtain ⟨o, e, r⟩ := a; exact .tup ⟨o, k o e, r⟩ (m.tx _ _ b) (c.mono m)
  | str a b => obtain ⟨o, e, r⟩ := a; exact .str ⟨o, k o e, r⟩ b
  | lst a b => obtain ⟨o, e, r⟩ := a; exact .lst ⟨o, k o e, r⟩ (m.asx _ _ b)
  | rng a => exact .rng (k _ a)
theorem IR.ext {X : Addr → Prop} {it : It} {I : Addr} (x : IR S as T h it I) (e : Ext X as T h as' T' h') (ho : I ∉ owned as) (hX : ¬ X I) : IR S as' T' h' it I := x.keep e.mono fun o q => e.kp I o ho hX q
theorem IR.noT {it : It} {I : Addr} (x : IR S as T h it I) (hr : HR S as T H h) (i : Im) : ¬ T I i := by
  obtain ⟨o, e, a, b, c⟩ := x.alive
  exact hr.noT_cls e a b c i

theorem iter_ok {v : V} {it : It} {w : Value} {Q : Value → Shared → Prop} (e : iterV H v = some it) (hr : HR S as T H s.heap) (vr : VR S.fa as T v w)
    (q : ∀ I h', s.heap.get? I = none → (∀ b o, s.heap.get? b = some o → h'.get? b = some o) → IR S as T h' it I → Q (.ref I) { s with heap := h' }) : wpAny (model S.prog S.w) A (pyIter w) Q E s := by
  unfold iterV at e
  split at e
  · first | exact ff e | exact nn e | cases e
    obtain ⟨a, ws, rfl, ht, hz, hv⟩ := tupE hr vr
    cases vr with
    | tup ht' hz' hv' =>
      exact wpAny_pyIter_tuple (hr.im _ _ ht') (q _ _ size_none (keep_push _) (.tup ⟨_, Heap.get?_push_size _ rfl, rfl, rfl⟩ ht' (by simpa using hv')))
  · split at e
    · rename_i x ha
      cases e
      obtain ⟨t, rfl, hz⟩ := strE vr
      refine wpAny_pyIter_ascii ?_ (q _ _ size_none (keep_push _) (.str (i := 0) ⟨_, Heap.get?_push_size _ rfl, rfl, rfl⟩ (by simp)))
      rw [← Array.all_toList]
      simpa using ha
    · first | exact ff e | exact nn e | cases e
  · rename_i n
    split at e
    · rename_i l hl
      cases e
      obtain ⟨a, ws, k, rfl, hp, e1, hz, hv⟩ := hr.listAt hl vr
      exact wpAny_pyIter_list ⟨_, e1, rfl, k, rfl⟩ (q _ _ size_none (keep_push _) (.lst ⟨_, Heap.get?_push_size _ rfl, rfl, rfl⟩ hp))
    · first | exact ff e | exact nn e | cases e
  · split at e
    · rename_i a b c hc
      cases e
      obtain ⟨p, t, u, x, rfl, hR⟩ := rngE hr vr
      refine wpAny_pyIter_range hR (rng_small hc.2.2 hc.1 hc.2.1) (q _ _ size_none (keep_push _) ?_)
      rw [rng_len hc.2.2]
      exact .rng (Heap.get?_push_size _ rfl)
    · first | exact ff e | exact nn e | cases e
  · first | exact ff e | exact nn e | cases e

theorem next_ok {it : It} {I : Addr} {r : Option (V × It)} {Q : Option Value → Shared → Prop} (e : nextI H it = some r) (x : IR S as T s.heap it I) (hI : I ∉ owned as) (hr : HR S as T H s.heap) (hh : A.handled = none)
    (q : match r with
      | none => ∀ h', Heap.ExtBut I s.heap h' → Q none { s with heap := h' }
      | some (v, it') => ∀ w h' tk, Heap.ExtBut I s.heap h' → IR S as T h' it' I → VR S.fa as T v w → Q (some w) { s with heap := h', toks := tk }) : wpAny (model S.prog S.w) A (pyNext (.ref I)) Q E s := by
  have ne : ∀ {t : Addr} {i : Im}, T t i → t ≠ I := fun ht q' => x.noT hr _ (q' ▸ ht)
  cases x with
  | tup a b c =>
    rename_i l ws t i
    have hne := ne b
    cases l with
    | nil =>
      simp only [nextI] at e; cases e
      refine wpAny_pyNext_tuple_end hh a (hr.im _ _ b) ?_ q
      have := c.length
      rw [List.length_drop, List.length_nil] at this
      rw [List.getElem?_toArray]
      exact List.getElem?_eq_none_iff.mpr (by omega)
    | cons v l =>
      simp only [nextI] at e; cases e
      obtain ⟨u, hu, vu⟩ := c.get 0 (v := v) rfl
      rw [List.getElem?_drop] at hu
      refine wpAny_pyNext_tuple_item a (hr.im _ _ b) (x := u) (by simpa using hu) fun h' a' sb => q u h' s.toks sb.extBut (.tup a' b ?_) vu
      have := c.drop 1
      rw [List.drop_drop] at this
      simpa using this
  | str a b =>
    rename_i x t i cs
    cases cs with
    | nil =>
      simp only [List.map_nil, nextI] at e; cases e
      refine wpAny_pyNext_ascii_end hh a ?_ q
      have := congrArg List.length b
      simp at this
      simp; omega
    | cons c cs =>
      simp only [List.map_cons, nextI] at e; cases e
      have hc : x.cps[i]? = some c := by
        have := congrArg (fun z => z[0]?) b
        simp at this
        exact this.symm
      refine wpAny_pyNext_ascii_item a hc fun h' a' sb => q _ h' _ sb.extBut (.str a' ?_) (.str [c] _ (by simp [lim]))
      have := congrArg List.tail b
      simpa using this
  | lst a b =>
    rename_i n i la
    have hl : ∃ l, H[n]? = some (.list l) := by
      simp only [nextI] at e
      split at e
      · rename_i l hl; exact ⟨l, hl⟩
      · first | exact ff e | exact nn e | cases e
    obtain ⟨l, hl⟩ := hl
    obtain ⟨a0, ws, k, e0, hp, e1, hz, hv⟩ := hr.listAt hl (.loc b)
    cases e0
    simp only [nextI, hl] at e
    split at e
    · rename_i v hv'
      cases e
      obtain ⟨u, hu, vu⟩ := hv.get _ hv'
      exact wpAny_pyNext_list_item a ⟨_, e1, rfl, k, rfl⟩ (x := u) (by simpa using hu) fun h' a' sb => q u h' s.toks sb.extBut (.lst a' b) vu
    · rename_i hv'
      cases e
      refine wpAny_pyNext_list_end hh a ⟨_, e1, rfl, k, rfl⟩ ?_ q
      have := List.getElem?_eq_none_iff.mp hv'
      have := hv.length
      simp; omega
  | rng a =>
    rename_i x c k
    cases k with
    | zero =>
      simp only [nextI] at e; cases e
      exact wpAny_pyNext_range_end hh a (by simp) q
    | succ k =>
      simp only [nextI] at e; cases e
      refine wpAny_pyNext_range_item a (by omega) fun h' a' sb => q _ h' _ sb.extBut (.rng ?_) (.int _ _)
      have : ((k + 1 : Nat) : Int) - 1 = (k : Int) := by omega
      rw [this] at a'
      exact a'

/-- stores -/
noncomputable def RetA (S : Sur) (as : As) (T : TS) (s : Shared) (env : Env) (nm : Nms) (sl : Sl) (l' : Lo) (H' : Hp) (Q : Unit → Shared → Prop) : Prop :=
  ∀ h' tk as' T', Ext (EX env) as T s.heap as' T' h' → HR S as' T' H' h' → ER S as' T' env nm sl l' h' → Q () { s with heap := h', toks := tk }
theorem RetA.from {as1 : As} {T1 : TS} {h1 : Heap} {tk : Tok} {l' : Lo} {Q : Unit → Shared → Prop} (k : RetA S as T s env nm sl l' H' Q) (e : Ext (EX env) as T s.heap as1 T1 h1) : RetA S as1 T1 { s with heap := h1, toks := tk } env nm sl l' H' Q :=
  fun h' tk' as' T' e' hr er => k h' tk' as' T' (e.trans e') hr er

theorem lookup_kind {x : Str} {b c : Bool} (h1 : nm.lookup x = some (kOf b)) (h2 : nm.lookup x = some (kOf c)) : b = c := by
  rw [h1] at h2
  cases b <;> cases c <;> first | rfl | exact ff h2 | exact nn h2 | cases h2
theorem store_gen {X : Addr → Prop} {i : Nat} {v : V} {n : Str} {w : Value} {Q : Unit → Shared → Prop} (hX : X env.locals) (hC : ∀ c, sl[i]? = some (some (n, true)) → env.cells.lookup n = some c → X c) (x : ER S as T env nm sl l s.heap) (hr : HR S as T H s.heap) (c : isLoc nm sl i n = true) (vr : VR S.fa as T v w)
    (q : ∀ h' tk, Ext X as T s.heap as T h' → HR S as T H h' → ER S as T env nm sl (l.set i (some v)) h' → Q () { s with heap := h', toks := tk }) : wpAny (model S.prog S.w) A (storeName env n w) Q E s := by
  obtain ⟨b, e1, e2⟩ := isLoc_spec c
  have hk : env.kindOf n = some (kOf b) := by unfold Env.kindOf; rw [x.names]; exact e2
  have hil : i < l.length := by rw [x.len]; exact (List.getElem?_eq_some_iff.mp e1).1
  cases b with
  | false =>
    obtain ⟨m, hn, hm⟩ := x.loc
    refine wpAny_storeName_local hk hn (fun h' hn' sb => ?_) (by rw [x.kind]; rfl)
    have kp : ∀ b o, b ≠ env.locals → s.heap.get? b = some o → h'.get? b = some o := fun b o nb e => (sb.2 b nb).trans e
    have ex : Ext X as T s.heap as T h' := ⟨.refl .., fun b o _ nx e => kp b o (fun q => nx (q ▸ hX)) e, fun b hb e => ?_, fun b hb => .inl hb⟩
    · refine q h' _ ex (hr.but kp x.frame.1 x.frame.2 (noT_ns hr hn)) ⟨x.kind, x.glob, x.blt, x.names, x.dbg, by rw [List.length_set]; exact x.len, x.nd, ⟨_, hn', fun j u y f1 f2 => ?_⟩, fun j y f1 => ?_, x.cellx, fun y c f1 => ?_, x.frame, x.cells⟩
      · by_cases hj : i = j
        · subst hj
          rw [List.getElem?_set_self hil] at f1
          cases f1
          rw [e1] at f2
          cases f2
          exact ⟨w, by simp, vr⟩
        · rw [List.getElem?_set_ne hj] at f1
          obtain ⟨u', g1, g2⟩ := hm j u y f1 f2
          refine ⟨u', ?_, g2⟩
          rw [if_neg (fun q => hj (x.nd i j n false false e1 (by rw [← q]; exact f2)))]; exact g1
      · obtain ⟨c, u, g1, g2, g3⟩ := x.cell j y f1
        refine ⟨c, u, g1, cell_keep g2 fun o => kp _ o fun q => ?_, fun v' hv' => ?_⟩
        · obtain ⟨oo, es, ep, q1, q2, _⟩ := hn
          obtain ⟨o2, q3, q4⟩ := g2
          rw [q, q1] at q3; cases q3
          rw [q2] at q4; first | exact nn q4 | exact ff q4 | cases q4
        · by_cases hj : i = j
          · subst hj; rw [e1] at f1; first | exact nn f1 | exact ff f1 | cases f1
          · rw [List.getElem?_set_ne hj] at hv'
            exact g3 v' hv'
      · obtain ⟨u, g2⟩ := x.cella y c f1
        refine ⟨u, cell_keep g2 fun o => kp _ o fun q => ?_⟩
        obtain ⟨oo, es, ep, q1, q2, _⟩ := hn
        obtain ⟨o2, q3, q4⟩ := g2
        rw [q, q1] at q3; cases q3
        rw [q2] at q4; first | exact nn q4 | exact ff q4 | cases q4
    · by_cases hb' : b = env.locals
      · subst hb'
        obtain ⟨o, ho⟩ := ns_alive hn'
        rw [ho]; rfl
      · rw [sb.2 b hb']; exact e
  | true =>
    obtain ⟨c, u, h1, h2, h3⟩ := x.cell i n e1
    refine wpAny_storeName_cell x.kind hk h1 h2 fun h' hc' sb => ?_
    have kp : ∀ b o, b ≠ c → s.heap.get? b = some o → h'.get? b = some o := fun b o nb e => (sb.2 b nb).trans e
    have nlc : env.locals ≠ c := fun q => by
      obtain ⟨m, hn, _⟩ := x.loc
      obtain ⟨oo, es, ep, q1, q2, _⟩ := hn
      obtain ⟨o2, q3, q4⟩ := h2
      rw [← q, q1] at q3; cases q3
      rw [q2] at q4; first | exact nn q4 | exact ff q4 | cases q4
    have ex : Ext X as T s.heap as T h' := ⟨.refl .., fun b o _ nx e => kp b o (fun q => nx (q ▸ hC c e1 h1)) e, fun b hb e => ?_, fun b hb => .inl hb⟩
    · obtain ⟨m, hn, hm⟩ := x.loc
      refine q h' s.toks ex (hr.but kp (x.cells n c h1).1 (x.cells n c h1).2 (noT_cell hr h2)) ⟨x.kind, x.glob, x.blt, x.names, x.dbg, by rw [List.length_set]; exact x.len, x.nd, ⟨m, ns_keep hn fun o => kp _ o nlc, fun j u y f1 f2 => ?_⟩, fun j y f1 => ?_, x.cellx, fun y c' f1 => ?_, x.frame, x.cells⟩
      · by_cases hj : i = j
        · subst hj; rw [e1] at f2; first | exact nn f2 | exact ff f2 | cases f2
        · rw [List.getElem?_set_ne hj] at f1
          exact hm j u y f1 f2
      · by_cases hj : i = j
        · subst hj
          rw [e1] at f1; first | exact nn f1 | exact ff f1 | cases f1
          refine ⟨c, some w, h1, hc', fun v' hv' => ?_⟩
          rw [List.getElem?_set_self hil] at hv'
          cases hv'
          exact ⟨w, rfl, vr⟩
        · obtain ⟨c', u', g1, g2, g3⟩ := x.cell j y f1
          refine ⟨c', u', g1, cell_keep g2 fun o => kp _ o fun q => ?_, fun v' hv' => ?_⟩
          · have := x.cellx n y c h1 (q ▸ g1)
            subst this
            exact hj (x.nd i j n true true e1 f1)
          · rw [List.getElem?_set_ne hj] at hv'
            exact g3 v' hv'
      · by_cases hc : c' = c
        · subst hc; exact ⟨_, hc'⟩
        · obtain ⟨u', g2⟩ := x.cella y c' f1
          exact ⟨u', cell_keep g2 fun o => kp _ o hc⟩
    · by_cases hb' : b = c
      · subst hb'
        obtain ⟨o, ho⟩ := cell_alive hc'
        rw [ho]; rfl
      · rw [sb.2 b hb']; exact e

theorem store_ok {i : Nat} {v : V} {n : Str} {w : Value} {Q : Unit → Shared → Prop} (x : ER S as T env nm sl l s.heap) (hr : HR S as T H s.heap) (c : isLoc nm sl i n = true) (vr : VR S.fa as T v w)
    (q : RetA S as T s env nm sl (l.set i (some v)) H Q) : wpAny (model S.prog S.w) A (storeName env n w) Q E s :=
  store_gen (X := EX env) (.inl rfl) (fun c _ h => .inr ⟨_, h⟩) x hr c vr fun h' tk e hr' er' => q h' tk as T e hr' er'

theorem Ext.nil {X : Addr → Prop} (e : Ext Nil as T h as' T' h') (x : ∀ b, X b → b ∉ owned as) : Ext X as T h as' T' h' := Ext.weak (X := Nil) e x

noncomputable def AsS (S : Sur) (call : CallT) (d : Nat) (t : Tg) : Prop := ∀ ⦃v : V⦄ ⦃l l' : Lo⦄ ⦃H H' : Hp⦄, asgT (evE S.P call) t v l H = some (l', H') →
  ∀ ⦃nm : Nms⦄ ⦃sl : Sl⦄ ⦃x : Expr⦄ ⦃s : Shared⦄ ⦃as : As⦄ ⦃T : TS⦄ ⦃env : Env⦄ ⦃A : Around⦄ ⦃E : Value → Shared → Prop⦄ ⦃Q : Unit → Shared → Prop⦄ ⦃w : Value⦄, AOk A d → chT S.G t nm sl x = true → ER S as T env nm sl l s.heap → HR S as T H s.heap → VR S.fa as T v w →
    RetA S as T s env nm sl l' H' Q → wpAny (model S.prog S.w) A (assign x env w) Q E s
noncomputable def AsLS (S : Sur) (call : CallT) (d : Nat) (ts : List Tg) : Prop := ∀ ⦃vs : List V⦄ ⦃l l' : Lo⦄ ⦃H H' : Hp⦄, asgTs (evE S.P call) ts vs l H = some (l', H') →
  ∀ ⦃nm : Nms⦄ ⦃sl : Sl⦄ ⦃xs : List Expr⦄ ⦃s : Shared⦄ ⦃as : As⦄ ⦃T : TS⦄ ⦃env : Env⦄ ⦃A : Around⦄ ⦃E : Value → Shared → Prop⦄ ⦃Q : Unit → Shared → Prop⦄ ⦃ws : List Value⦄, AOk A d → chTs S.G ts nm sl xs = true → ER S as T env nm sl l s.heap → HR S as T H s.heap → VRs S.fa as T vs ws →
    RetA S as T s env nm sl l' H' Q → wpAny (model S.prog S.w) A (assignInOrder ((assignEach xs env).map (·.2)) ws) Q E s

theorem a_loc {i : Nat} : AsS S call d (.loc i) := by
  intro v l l' H H' e nm sl x s as T env A E Q w ao c er hr vr q
  rw [asgT] at e; first | exact nn e | exact ff e | cases e
  obtain ⟨n, p, rfl, c⟩ := cT_loc c
  exact assign_Name (store_ok er hr c vr q)
theorem a_attr (C : Cx S) {o : ME} {a : Nat} (ho : EvS S call d o) : AsS S call d (.attr o a) := by
  intro v l l' H H' e nm sl x s as T env A E Q w ao c er hr vr q
  obtain ⟨ov, H1, e1, hs, rfl⟩ := as_attr e
  obtain ⟨y, p, rfl, ca, co⟩ := cT_attr c
  refine wpAny_bind (wpAny_holding (wpAny_mono (ho e1 ao co er hr fun wo h1 tk1 as1 T1 x1 hr1 ro => ?_) (fun _ _ e => e) fun _ _ e => e))
  refine wpAny_bind (wpAny_standAt (wpAny_bind (wpAny_holding ?_)))
  refine setA_ok C hr1 ro (vr.mono x1.mono) ca hs fun h2 tk2 as2 T2 x2 hr2 => wpAny_release ?_
  have er1 := er.ext x1
  exact q _ _ _ _ ((x1.nil er.exo).trans (x2.nil er1.exo)) hr2 (er1.ext x2)
theorem a_idx {o i : ME} (ho : EvS S call d o) (hi : EvS S call d i) : AsS S call d (.idx o i) := by
  intro v l l' H H' e nm sl x s as T env A E Q w ao c er hr vr q
  obtain ⟨ov, H1, iv, H2, e1, e2, hs, rfl⟩ := as_idx e
  obtain ⟨y, z, p, rfl, _, co, ci⟩ := cT_idx c
  refine wpAny_bind (wpAny_holding (wpAny_mono (ho e1 ao co er hr fun wo h1 tk1 as1 T1 x1 hr1 ro => ?_) (fun _ _ e => e) fun _ _ e => e))
  refine wpAny_bind (wpAny_holding (wpAny_mono (hi e2 ao ci (er.ext x1) hr1 fun wi h2 tk2 as2 T2 x2 hr2 ri => ?_) (fun _ _ e => e) fun _ _ e => e))
  refine wpAny_bind (wpAny_standAt (wpAny_bind (wpAny_holding ?_)))
  refine setI_ok hs hr2 (ro.mono x2.mono) ri (vr.mono (x1.trans x2).mono) fun h3 tk3 as3 T3 x3 hr3 => wpAny_release ?_
  have er2 := er.ext (x1.trans x2)
  exact q _ _ _ _ (((x1.trans x2).nil er.exo).trans (x3.nil er2.exo)) hr3 (er2.ext x3)

/-- a list's items, taken apart -/
theorem draw_list {it t : Addr} {items : Array Value} (hne : t ≠ it) : ∀ (n i : Nat) (s : Shared) (Q : List Value → Shared → Prop), s.heap.IsListIter it t i → s.heap.IsList t items → i + n ≤ items.size →
    (∀ h', h'.IsListIter it t (i + n) → Heap.SameBut it s.heap h' → Q ((items.toList.drop i).take n) { s with heap := h' }) → wpAny (model S.prog S.w) A (draw (.ref it) n) Q E s
  | 0, i, s, Q, hit, _, _, hQ => by
    show wpAny _ _ (pure []) Q E s
    exact wpAny_pure (by simpa using hQ s.heap hit (Heap.SameBut.refl ..))
  | n + 1, i, s, Q, hit, ht, hle, hQ => by
    have hlt : i < items.size := by omega
    show wpAny _ _ (pyNext (.ref it) >>= _) Q E s
    refine wpAny_bind (wpAny_pyNext_list_item hit ht (x := items[i]) (by simp [hlt]) fun h₁ hit₁ hs₁ => ?_)
    refine wpAny_bind (wpAny_holding (draw_list hne n (i + 1) _ _ hit₁ (ht.extBut hs₁.extBut hne) (by omega) fun h₂ hit₂ hs₂ => wpAny_pure ?_))
    have hd : items.toList.drop i = items[i] :: items.toList.drop (i + 1) := by simp [List.drop_eq_getElem_cons, hlt]
    have := hQ h₂ (by rw [show i + (n + 1) = i + 1 + n by omega]; exact hit₂) (hs₁.trans hs₂)
    rw [hd, List.take_succ_cons] at this
    exact this
theorem unpack_list {t : Addr} {items : Array Value} {Q : List Value → Shared → Prop} (hh : A.handled = none) (ht : s.heap.IsList t items)
    (hQ : ∀ h', Heap.ExtBut s.heap.objs.size s.heap h' → Q items.toList { s with heap := h' }) : wpAny (model S.prog S.w) A (unpackItems (.ref t) items.size none) Q E s := by
  have hlt : t ≠ s.heap.objs.size := by obtain ⟨o, ho, _⟩ := ht; exact Nat.ne_of_lt (Heap.lt_size ho)
  unfold unpackItems
  refine wpAny_bind ?_
  unfold notIterableAtAll
  refine wpAny_bind (wpAny_specialOf ht.typeIs PySem.F.slot_list_iter.lookup ?_)
  refine wpAny_pure ?_
  simp only [Bool.false_eq_true, if_false]
  refine wpAny_bind (wpAny_holding (wpAny_pyIter_list ht ?_))
  refine wpAny_bind (wpAny_holding (draw_list hlt items.size 0 _ _ ⟨_, Heap.get?_push_size _ rfl, rfl, rfl⟩ (ht.push _) (by omega) fun h₁ hit₁ hs₁ => ?_))
  have hall : List.take items.size (List.drop 0 items.toList) = items.toList := by
    rw [List.drop_zero]; exact List.take_of_length_le (by simp)
  rw [hall]
  rw [if_neg (by simp)]
  have ht₁ : h₁.IsList t items := (ht.push _).extBut hs₁.extBut hlt
  refine wpAny_bind (wpAny_holding (wpAny_pyNext_list_end hh hit₁ ht₁ (by simp) fun h₂ he₂ => ?_))
  simp only [Option.isSome_none, Bool.false_eq_true, if_false]
  exact wpAny_pure (hQ h₂ fun b o hb e => he₂ b o hb (hs₁.extBut b o hb (Heap.get?_push_of_some _ e)))
/-- what is taken apart -/
theorem unpk_ok {v : V} {vs : List V} {w : Value} {Q : List Value → Shared → Prop} {n : Nat} (e : unpk H v = some vs) (hn : n = vs.length) (hh : A.handled = none) (hr : HR S as T H s.heap) (vr : VR S.fa as T v w)
    (q : ∀ ws h', VRs S.fa as T vs ws → (∀ b o, s.heap.get? b = some o → h'.get? b = some o) → Q ws { s with heap := h' }) : wpAny (model S.prog S.w) A (unpackItems w n none) Q E s := by
  have low : ∀ {h' : Heap}, Heap.ExtBut s.heap.objs.size s.heap h' → ∀ b o, s.heap.get? b = some o → h'.get? b = some o := fun x b o e => x b o (Nat.ne_of_lt (Heap.lt_size e)) e
  unfold unpk at e
  split at e
  · first | exact ff e | exact nn e | cases e
    obtain ⟨a, ws, rfl, ht, hz, hv⟩ := tupE hr vr
    have : n = ws.toArray.size := by rw [hn, List.size_toArray, hv.length]
    subst this
    exact wpAny_unpackItems_tuple hh ht fun h' x => by simpa using q ws h' hv (low x)
  · rename_i n'
    split at e
    · rename_i l hl
      cases e
      obtain ⟨a, ws, k, rfl, hp, e1, hz, hv⟩ := hr.listAt hl vr
      have : n = ws.toArray.size := by rw [hn, List.size_toArray, hv.length]
      subst this
      exact unpack_list hh ⟨_, e1, rfl, k, rfl⟩ fun h' x => by simpa using q ws h' hv (low x)
    · first | exact ff e | exact nn e | cases e
  · first | exact ff e | exact nn e | cases e
theorem asgTs_len {ev : ME → Lo → Hp → Option (V × Hp)} : ∀ {ts : List Tg} {vs : List V} {l l' : Lo} {H H' : Hp}, asgTs ev ts vs l H = some (l', H') → ts.length = vs.length
  | [], [], _, _, _, _, _ => rfl
  | [], _ :: _, _, _, _, _, e => by simp [asgTs] at e
  | _ :: _, [], _, _, _, _, e => by simp [asgTs] at e
  | t :: ts, v :: vs, _, _, _, _, e => by
    rw [asgTs] at e
    unfold bndS at e
    split at e
    · rw [List.length_cons, List.length_cons, asgTs_len e]
    · first | exact ff e | exact nn e | cases e
theorem chT_star {G : Str → Option GV} {t : Tg} {x : Expr} (c : chT G t nm sl x = true) : notStar x = true := by
  cases t with
  | loc => obtain ⟨_, _, rfl, _⟩ := cT_loc c; rfl
  | attr => obtain ⟨_, _, rfl, _⟩ := cT_attr c; rfl
  | idx => obtain ⟨_, _, _, rfl, _⟩ := cT_idx c; rfl
  | tup => obtain ⟨_, _, _, rfl, _⟩ := cT_tup c; rfl
theorem each_cons {x : Expr} {xs : List Expr} (h : notStar x = true) : assignEach (x :: xs) env = (false, assign x env) :: assignEach xs env := by
  cases x <;> first | rfl | exact ff h
theorem chTs_each {G : Str → Option GV} : ∀ {ts : List Tg} {xs : List Expr}, chTs G ts nm sl xs = true → (assignEach xs env).length = ts.length ∧ (assignEach xs env).findIdx? (·.1) = none
  | [], xs, c => by cases cTs_nil c; exact ⟨rfl, rfl⟩
  | t :: ts, xs, c => by
    obtain ⟨x, xs, rfl, c1, c2⟩ := cTs_cons c
    obtain ⟨h2, h3⟩ := chTs_each c2
    rw [each_cons (chT_star c1)]
    refine ⟨by rw [List.length_cons, List.length_cons, h2], ?_⟩
    rw [List.findIdx?_cons, if_neg Bool.false_ne_true, h3]; rfl
theorem a_nil : AsLS S call d [] := by
  intro vs l l' H H' e nm sl xs s as T env A E Q ws ao c er hr vr q
  cases vs with
  | nil =>
    rw [asgTs] at e; first | exact nn e | exact ff e | cases e
    cases vr
    cases cTs_nil c
    exact wpAny_pure (q s.heap s.toks as T (.refl ..) hr er)
  | cons => simp [asgTs] at e
theorem a_cons {t : Tg} {ts : List Tg} (ht : AsS S call d t) (hts : AsLS S call d ts) : AsLS S call d (t :: ts) := by
  intro vs l l' H H' e nm sl xs s as T env A E Q ws ao c er hr vr q
  cases vr with
  | nil => simp [asgTs] at e
  | @cons v0 w1 l0 ws1 v1 v2 =>
    obtain ⟨l1, H1, e1, e⟩ := bndS_some (m := asgT (evE S.P call) t v0 l H) e
    obtain ⟨x, xs, rfl, c1, c2⟩ := cTs_cons c
    rw [each_cons (chT_star c1)]
    show wpAny _ A (do holding ws1 (assign x env w1); assignInOrder ((assignEach xs env).map (·.2)) ws1) Q E s
    refine wpAny_bind (wpAny_holding (ht e1 ao c1 er hr v1 fun h' tk as' T' x' hr' er' => ?_))
    exact hts e ao c2 er' hr' (v2.mono x'.mono) (q.from x')
theorem a_tup {ts : List Tg} (hts : AsLS S call d ts) : AsS S call d (.tup ts) := by
  intro v l l' H H' e nm sl x s as T env A E Q w ao c er hr vr q
  obtain ⟨vs, hu, e⟩ := as_tup e
  obtain ⟨xs, _, pos, rfl, c⟩ := cT_tup c
  obtain ⟨c1, c2⟩ := chTs_each (env := env) c
  refine wpAny_bind (wpAny_standAt ?_)
  unfold unpack
  rw [c2]
  refine wpAny_bind (wpAny_holding (unpk_ok hu (c1.trans (asgTs_len e)) ao.handled hr vr fun ws h' vv kp => ?_))
  have x0 : Ext Nil as T s.heap as T h' := .keep kp
  exact hts e ao c (er.ext x0) (hr.keep kp) vv ((q.from (tk := s.toks) (x0.nil er.exo)))
end
end Mine

namespace Mine

inductive FlR (S : Sur) (as : As) (T : TS) : Fl → Flow → Prop
  | next : FlR S as T .next .next
  | brk : FlR S as T .brk .brk
  | cont : FlR S as T .cont .cont
  | ret {v : V} {w : Value} : VR S.fa as T v w → FlR S as T (.ret v) (.ret w)
noncomputable def RetS (S : Sur) (as : As) (T : TS) (s : Shared) (env : Env) (nm : Nms) (sl : Sl) (fl : Fl) (l' : Lo) (H' : Hp) (Q : Flow → Shared → Prop) : Prop :=
  ∀ h' tk as' T' f, Ext (EX env) as T s.heap as' T' h' → HR S as' T' H' h' → ER S as' T' env nm sl l' h' → FlR S as' T' fl f → Q f { s with heap := h', toks := tk }
noncomputable def StS (S : Sur) (call : CallT) (d : Nat) (st : MS) : Prop := ∀ ⦃l l' : Lo⦄ ⦃H H' : Hp⦄ ⦃fl : Fl⦄, exS S.P call st l H = some (fl, l', H') →
  ∀ ⦃nm : Nms⦄ ⦃sl : Sl⦄ ⦃x : Stmt⦄ ⦃s : Shared⦄ ⦃as : As⦄ ⦃T : TS⦄ ⦃env : Env⦄ ⦃A : Around⦄ ⦃E : Value → Shared → Prop⦄ ⦃Q : Flow → Shared → Prop⦄, AOk A d → chS S.G st nm sl x = true → ER S as T env nm sl l s.heap → HR S as T H s.heap →
    RetS S as T s env nm sl fl l' H' Q → wpAny (model S.prog S.w) A (exec x env) Q E s
noncomputable def BkS (S : Sur) (call : CallT) (d : Nat) (b : List MS) : Prop := ∀ ⦃l l' : Lo⦄ ⦃H H' : Hp⦄ ⦃fl : Fl⦄, exB S.P call b l H = some (fl, l', H') →
  ∀ ⦃nm : Nms⦄ ⦃sl : Sl⦄ ⦃xs : List Stmt⦄ ⦃s : Shared⦄ ⦃as : As⦄ ⦃T : TS⦄ ⦃env : Env⦄ ⦃A : Around⦄ ⦃E : Value → Shared → Prop⦄ ⦃Q : Flow → Shared → Prop⦄, AOk A d → chB S.G b nm sl xs = true → ER S as T env nm sl l s.heap → HR S as T H s.heap →
    RetS S as T s env nm sl fl l' H' Q → wpAny (model S.prog S.w) A (execs xs env) Q E s

section
variable {S : Sur} {call : CallT} {d : Nat} {as as' : As} {T T' : TS} {H H' : Hp} {h h' : Heap} {s : Shared} {env : Env} {nm : Nms} {sl : Sl} {l : Lo} {A : Around} {E : Value → Shared → Prop}

theorem RetS.from {as1 : As} {T1 : TS} {h1 : Heap} {tk : Tok} {fl : Fl} {l' : Lo} {Q : Flow → Shared → Prop} (k : RetS S as T s env nm sl fl l' H' Q) (e : Ext (EX env) as T s.heap as1 T1 h1) : RetS S as1 T1 { s with heap := h1, toks := tk } env nm sl fl l' H' Q :=
  fun h' tk' as' T' f e' hr er fr => k h' tk' as' T' f (e.trans e') hr er fr

theorem b_nil : BkS S call d [] := by
  intro l l' H H' fl e nm sl xs s as T env A E Q ao c er hr q
  rw [exB] at e; first | exact nn e | exact ff e | cases e
  cases cb_nil c
  exact wpAny_execs_nil (q s.heap s.toks as T _ (.refl ..) hr er .next)
theorem b_cons {st : MS} {b : List MS} (h1 : StS S call d st) (h2 : BkS S call d b) : BkS S call d (st :: b) := by
  intro l l' H H' fl e nm sl xs s as T env A E Q ao c er hr q
  obtain ⟨x, ys, rfl, c1, c2⟩ := cb_cons c
  have e : (match exS S.P call st l H with
    | some (.next, l, H) => exB S.P call b l H
    | x => x) = some (fl, l', H') := e
  cases e1 : exS S.P call st l H with
  | none => rw [e1] at e; exact nn e
  | some z =>
    obtain ⟨f, l1, H1⟩ := z
    rw [e1] at e
    refine wpAny_execs_cons (h1 e1 ao c1 er hr fun h' tk as' T' g x' hr' er' fr => ?_)
    cases fr with
    | next => exact h2 e ao c2 er' hr' (q.from x')
    | brk => cases e; exact q _ _ _ _ _ x' hr' er' .brk
    | cont => cases e; exact q _ _ _ _ _ x' hr' er' .cont
    | ret v => cases e; exact q _ _ _ _ _ x' hr' er' (.ret v)

theorem not_int (er : ER S as T env nm sl l h) : interactive env = false := by
  unfold interactive
  rw [er.kind]; rfl
theorem sw_none {x : Expr} (h : notComp x = true) (t : Option Expr) (n : Nat) : swapsWith x t n env = pure false := by
  cases x <;> first | rfl | exact ff h | exact nn h | cases h
theorem t_bad : StS S call d .bad := by
  intro l l' H H' fl e; rw [exS] at e; first | exact nn e | exact ff e | cases e
theorem t_expr {e0 : ME} (h0 : EvS S call d e0) : StS S call d (.expr e0) := by
  intro l l' H H' fl e nm sl x s as T env A E Q ao c er hr q
  obtain ⟨v, H1, e1, e⟩ := ex_expr e
  cases e
  obtain ⟨y, p, rfl, c1, c2⟩ := cs_expr c
  refine wpAny_Expr_any (h0 e1 ao c2 er hr fun w h1 tk1 as1 T1 x1 hr1 vr => ?_) (not_int er) (sw_none c1 _ _)
  exact q _ _ _ _ _ (x1.nil er.exo) hr1 (er.ext x1) .next
theorem t_ret {e0 : ME} (h0 : EvS S call d e0) : StS S call d (.ret e0) := by
  intro l l' H H' fl e nm sl x s as T env A E Q ao c er hr q
  obtain ⟨v, H1, e1, e⟩ := ex_ret e
  cases e
  obtain ⟨y, p, rfl, c⟩ := cs_ret c
  exact wpAny_Return_some (h0 e1 ao c er hr fun w h1 tk1 as1 T1 x1 hr1 vr => q _ _ _ _ _ (x1.nil er.exo) hr1 (er.ext x1) (.ret vr))
theorem t_brk : StS S call d .brk := by
  intro l l' H H' fl e nm sl x s as T env A E Q ao c er hr q
  have e : (some (Fl.brk, l, H) : SR) = some (fl, l', H') := e
  cases e
  obtain ⟨p, rfl⟩ := cs_brk c
  exact wpAny_Break (q s.heap s.toks as T _ (.refl ..) hr er .brk)
theorem t_cont : StS S call d .cont := by
  intro l l' H H' fl e nm sl x s as T env A E Q ao c er hr q
  have e : (some (Fl.cont, l, H) : SR) = some (fl, l', H') := e
  cases e
  obtain ⟨p, rfl⟩ := cs_cont c
  exact wpAny_Continue (q s.heap s.toks as T _ (.refl ..) hr er .cont)
theorem st_ife {t : ME} {b o : List MS} (ht : TrS S call d t) (hb : BkS S call d b) (ho : BkS S call d o) : StS S call d (.ife t b o) := by
  intro l l' H H' fl e nm sl x s as T env A E Q ao c er hr q
  obtain ⟨y, z, w, p, rfl, c1, c2, c3⟩ := cs_ife c
  obtain ⟨H1, e⟩ := ex_ife e
  rcases e with ⟨e1, e⟩ | ⟨e1, e⟩
  · exact wpAny_If (ht e1 ao c1 er hr fun h1 tk1 as1 T1 x1 hr1 => hb e ao c2 (er.ext x1) hr1 (q.from (x1.nil er.exo)))
  · exact wpAny_If (ht e1 ao c1 er hr fun h1 tk1 as1 T1 x1 hr1 => ho e ao c3 (er.ext x1) hr1 (q.from (x1.nil er.exo)))

theorem load_loc {M : Model} {Q : Value → Shared → Prop} (x : ER S as T env nm sl l s.heap) {i : Nat} {v : V} {n : Str} (c : isLoc nm sl i n = true) (hv : l[i]? = some (some v)) (k : ∀ w, VR S.fa as T v w → Q w s) : wpAny M A (loadName env n) Q E s := by
  obtain ⟨b, e1, e2⟩ := isLoc_spec c
  have hk : env.kindOf n = some (kOf b) := by unfold Env.kindOf; rw [x.names]; exact e2
  cases b with
  | false =>
    obtain ⟨m, hn, hm⟩ := x.loc
    obtain ⟨w, h1, h2⟩ := hm i v n hv e1
    exact wpAny_loadName_local x.kind hk hn h1 (k w h2)
  | true =>
    obtain ⟨c, w, h1, h2, h3⟩ := x.cell i n e1
    obtain ⟨u, rfl, h5⟩ := h3 v hv
    exact wpAny_loadName_cell x.kind hk h1 h2 (k u h5)
theorem t_auga (C : Cx S) {o : ME} {a : Nat} {op : BOp} {e0 : ME} (ho : EvS S call d o) (h0 : EvS S call d e0) : StS S call d (.auga o a op e0) := by
  intro l l' H H' fl e nm sl x s as T env A E Q ao c er hr q
  obtain ⟨ov, H1, u, b, H2, r, H3, e1, hu, e2, hr', hs, e⟩ := ex_auga e
  cases e
  obtain ⟨y, yp, o', z, p, rfl, c1, c3, c4, c5, c6⟩ := cs_auga c
  refine wpAny_AugAssign_AttributeAny (ho e1 ao c5 er hr fun wo h1 tk1 as1 T1 x1 hr1 ro => ?_)
  refine getA_ok C hr1 ro hu fun wu tk2 ru => ?_
  refine h0 e2 ao c6 (s := { s with heap := h1, toks := tk2 }) (er.ext x1) hr1 fun wb h3 tk3 as3 T3 x3 hr3 rb => ?_
  refine aug_ok hr' c1 hr3 (ru.mono x3.mono) rb fun w h4 tk4 as4 T4 x4 hr4 vr => ?_
  refine setA_ok C hr4 (ro.mono (x3.trans x4).mono) vr c3 hs fun h5 tk5 as5 T5 x5 hr5 => ?_
  have ex := ((x1.trans x3).trans x4).trans x5
  exact q _ _ _ _ _ (ex.nil er.exo) hr5 (er.ext ex) .next
/-- the plain assignment -/
theorem asg_plain {y x : Expr} {pos : Pos} {Q : Flow → Shared → Prop} (hy : notStar y = true) (hs : swapsWith x (some y) pos.line env = pure false) (hw : swappedStores [y] x env = pure none)
    (h : wpAny (model S.prog S.w) A (eval x env) (fun v s₁ => wpAny (model S.prog S.w) A (assign y env v) (fun _ => Q .next) E s₁) E s) : wpAny (model S.prog S.w) A (exec (.Assign [y] x pos) env) Q E s := by
  refine wpAny_Assign_stores (wpAny_mono h (fun v s₁ h₁ => ?_) fun _ _ e => e) hs hw
  have h1 : assignEach [y] env = [(false, assign y env)] := by cases y <;> first | rfl | exact ff hy | exact nn hy | cases hy
  rw [h1]
  exact h₁
theorem swp_eq (ts vs : List Expr) (k k2 : Nat) (p p2 : Pos) (env : Env) : swappedStores [.Tuple ts k p] (.Tuple vs k2 p2) env =
    (if (!(ts.length == 2 || ts.length == 3) || vs.length != ts.length || env.blockKind != .function) = true then pure none
    else if vs.any isStarred = true then pure none
    else if ((ts.filterMap (locName env.scope.names ((ts.head?.map (·.pos.line)).getD 0))).length != ts.length || (ts.filterMap (locName env.scope.names ((ts.head?.map (·.pos.line)).getD 0))).eraseDups.length != (ts.filterMap (locName env.scope.names ((ts.head?.map (·.pos.line)).getD 0))).length) = true then pure none
    else if vs.all (foldedForSure 8) = true then pure none
    else if vs.all (constantsAlone 8) = true then (do unsupported "assign.tuple-of-constant-expressions:order-of-the-stores"; pure (some (ts.filterMap (locName env.scope.names ((ts.head?.map (·.pos.line)).getD 0)))))
    else pure (some (ts.filterMap (locName env.scope.names ((ts.head?.map (·.pos.line)).getD 0))))) := rfl
theorem swp_ok {y x : Expr} {r : Option (List Str)} (hk : env.scope.kind = .function) (h : swpQ env.scope.names y x = some r) : swappedStores [y] x env = pure r := by
  cases y with
  | Tuple ts k p =>
    have h : (match (generalizing := false) x with | .Tuple vs _ _ => tupQ env.scope.names ts vs | _ => some none) = some r := h
    cases x with
    | Tuple vs k2 p2 =>
      have hb : env.blockKind = .function := by unfold Env.blockKind; rw [hk]; rfl
      rw [swp_eq, hb]
      simp only [bne_self_eq_false, Bool.or_false]
      have h : tupQ env.scope.names ts vs = some r := h
      unfold tupQ at h
      by_cases c1 : (!(ts.length == 2 || ts.length == 3) || vs.length != ts.length) = true
      · rw [if_pos c1] at h ⊢; cases h; rfl
      rw [if_neg c1] at h ⊢
      by_cases c2 : vs.any isStarred = true
      · rw [if_pos c2] at h ⊢; cases h; rfl
      rw [if_neg c2] at h ⊢
      dsimp only at h
      by_cases c3 : ((ts.filterMap (locName env.scope.names ((ts.head?.map (·.pos.line)).getD 0))).length != ts.length || (ts.filterMap (locName env.scope.names ((ts.head?.map (·.pos.line)).getD 0))).eraseDups.length != (ts.filterMap (locName env.scope.names ((ts.head?.map (·.pos.line)).getD 0))).length) = true
      · rw [if_pos c3] at h ⊢; cases h; rfl
      rw [if_neg c3] at h ⊢
      by_cases c4 : vs.all (foldedForSure 8) = true
      · rw [if_pos c4] at h ⊢; cases h; rfl
      rw [if_neg c4] at h ⊢
      by_cases c5 : vs.all (constantsAlone 8) = true
      · rw [if_pos c5] at h; exact nn h
      rw [if_neg c5] at h ⊢; cases h; rfl
    | _ => cases h; rfl
  | List => exact nn h
  | _ => cases h; rfl

/-- names stored backwards -/
theorem swap_ok {y x : Expr} {pos : Pos} {ns : List Str} {Q : Flow → Shared → Prop} {ts : List Expr} {k : Nat} {tp : Pos} (hy : y = .Tuple ts k tp) (hs : swapsWith x (some y) pos.line env = pure false) (hw : swappedStores [y] x env = pure (some ns))
    (h : wpAny (model S.prog S.w) A (eval x env) (fun v s₁ => wpAny (model S.prog S.w) A (unpackItems v ns.length none) (fun items s₂ => wpAny (model S.prog S.w) A (assignInOrder (ns.reverse.map fun n => bindName env n) items.reverse) (fun _ => Q .next) E s₂) E s₁) E s) :
    wpAny (model S.prog S.w) A (exec (.Assign [y] x pos) env) Q E s := by
  subst hy
  exact Assign_Tuple_swapped h hs hw
theorem one_ok {w : Value} {ws : List Value} {ts : List (Value → Sem Unit)} {n : Str} {M : Model} {Q : Unit → Shared → Prop} (h : wpAny M A (storeName env n w) (fun _ s₁ => wpAny M A (assignInOrder ts ws) Q E s₁) E s) :
    wpAny M A (assignInOrder ((fun w => bindName env n w) :: ts) (w :: ws)) Q E s := by
  show wpAny M A (do holding ws (bindName env n w); assignInOrder ts ws) Q E s
  exact wpAny_bind (wpAny_holding (wpAny_bindName h))
theorem swap2 {i j : Nat} {a b : Str} {v1 v2 : V} {w1 w2 : Value} {Q : Unit → Shared → Prop} (er : ER S as T env nm sl l s.heap) (hr : HR S as T H s.heap) (hn : a ≠ b) (c1 : isLoc nm sl i a = true) (c2 : isLoc nm sl j b = true) (r1 : VR S.fa as T v1 w1) (r2 : VR S.fa as T v2 w2)
    (q : RetA S as T s env nm sl ((l.set i (some v1)).set j (some v2)) H Q) : wpAny (model S.prog S.w) A (assignInOrder [fun w => bindName env b w, fun w => bindName env a w] [w2, w1]) Q E s := by
  have hij : i ≠ j := fun q => by
    obtain ⟨b1, e1, _⟩ := isLoc_spec c1
    obtain ⟨b2, e2, _⟩ := isLoc_spec c2
    rw [q] at e1; rw [e1] at e2; cases e2; exact hn rfl
  refine one_ok (store_ok er hr c2 r2 fun h1 tk1 as1 T1 x1 hr1 er1 => ?_)
  refine one_ok (store_ok er1 hr1 c1 (r1.mono x1.mono) fun h2 tk2 as2 T2 x2 hr2 er2 => ?_)
  rw [List.set_comm _ _ (Ne.symm hij)] at er2
  exact wpAny_pure (q _ _ _ _ (x1.trans x2) hr2 er2)
theorem swap3 {i j k : Nat} {a b c : Str} {v1 v2 v3 : V} {w1 w2 w3 : Value} {Q : Unit → Shared → Prop} (er : ER S as T env nm sl l s.heap) (hr : HR S as T H s.heap) (hab : a ≠ b) (hac : a ≠ c) (hbc : b ≠ c) (c1 : isLoc nm sl i a = true) (c2 : isLoc nm sl j b = true) (c3 : isLoc nm sl k c = true)
    (r1 : VR S.fa as T v1 w1) (r2 : VR S.fa as T v2 w2) (r3 : VR S.fa as T v3 w3) (q : RetA S as T s env nm sl (((l.set i (some v1)).set j (some v2)).set k (some v3)) H Q) :
    wpAny (model S.prog S.w) A (assignInOrder [fun w => bindName env c w, fun w => bindName env b w, fun w => bindName env a w] [w3, w2, w1]) Q E s := by
  have ne : ∀ {i j : Nat} {a b : Str}, a ≠ b → isLoc nm sl i a = true → isLoc nm sl j b = true → i ≠ j := fun hn c1 c2 q => by
    obtain ⟨b1, e1, _⟩ := isLoc_spec c1
    obtain ⟨b2, e2, _⟩ := isLoc_spec c2
    rw [q] at e1; rw [e1] at e2; cases e2; exact hn rfl
  refine one_ok (store_ok er hr c3 r3 fun h1 tk1 as1 T1 x1 hr1 er1 => ?_)
  refine one_ok (store_ok er1 hr1 c2 (r2.mono x1.mono) fun h2 tk2 as2 T2 x2 hr2 er2 => ?_)
  refine one_ok (store_ok er2 hr2 c1 ((r1.mono x1.mono).mono x2.mono) fun h3 tk3 as3 T3 x3 hr3 er3 => ?_)
  have eq : ((l.set k (some v3)).set j (some v2)).set i (some v1) = ((l.set i (some v1)).set j (some v2)).set k (some v3) := by
    rw [List.set_comm _ _ (Ne.symm (ne hbc c2 c3)), List.set_comm _ _ (Ne.symm (ne hac c1 c3)), List.set_comm _ _ (Ne.symm (ne hab c1 c2))]
  rw [eq] at er3
  exact wpAny_pure (q _ _ _ _ ((x1.trans x2).trans x3) hr3 er3)
end
end Mine

namespace Mine
section
variable {S : Sur} {call : CallT} {d : Nat} {as as' : As} {T T' : TS} {H H' : Hp} {h h' : Heap} {s : Shared} {env : Env} {nm : Nms} {sl : Sl} {l : Lo} {A : Around} {E : Value → Shared → Prop}

theorem swpQ_some {y x : Expr} {ns : List Str} (h : swpQ nm y x = some (some ns)) : (∃ ts k p, y = .Tuple ts k p) ∧ ns.eraseDups.length = ns.length := by
  cases y with
  | Tuple ts k p =>
    refine ⟨⟨_, _, _, rfl⟩, ?_⟩
    have h : (match (generalizing := false) x with | .Tuple vs _ _ => tupQ nm ts vs | _ => some none) = some (some ns) := h
    cases x with
    | Tuple vs k2 p2 =>
      have h : tupQ nm ts vs = some (some ns) := h
      unfold tupQ at h
      by_cases c1 : (!(ts.length == 2 || ts.length == 3) || vs.length != ts.length) = true
      · rw [if_pos c1] at h; cases h
      rw [if_neg c1] at h
      by_cases c2 : vs.any isStarred = true
      · rw [if_pos c2] at h; cases h
      rw [if_neg c2] at h
      dsimp only at h
      generalize ts.filterMap (locName nm ((ts.head?.map (·.pos.line)).getD 0)) = g at h
      by_cases c3 : (g.length != ts.length || g.eraseDups.length != g.length) = true
      · rw [if_pos c3] at h; cases h
      rw [if_neg c3] at h
      by_cases c4 : vs.all (foldedForSure 8) = true
      · rw [if_pos c4] at h; cases h
      rw [if_neg c4] at h
      by_cases c5 : vs.all (constantsAlone 8) = true
      · rw [if_pos c5] at h; exact nn h
      rw [if_neg c5] at h; cases h
      exact Decidable.byContradiction fun z => c3 (by rw [bne_iff_ne.mpr z, Bool.or_true])
    | _ => cases h
  | List => exact nn h
  | _ => cases h
theorem dups2 {a b : Str} (h : [a, b].eraseDups.length = 2) : a ≠ b := by
  intro q; subst q; simp [List.eraseDups_cons] at h
theorem dups3 {a b c : Str} (h : [a, b, c].eraseDups.length = 3) : a ≠ b ∧ a ≠ c ∧ b ≠ c := by
  refine ⟨fun q => ?_, fun q => ?_, fun q => ?_⟩
  · subst q
    simp only [List.eraseDups_cons, List.filter_cons, beq_self_eq_true, Bool.not_true, Bool.false_eq_true, if_false, List.length_cons] at h
    split at h <;> simp [List.eraseDups_cons] at h
  · subst q
    simp only [List.eraseDups_cons, List.filter_cons, beq_self_eq_true, Bool.not_true, Bool.false_eq_true, if_false, List.length_cons] at h
    split at h <;> simp [List.eraseDups_cons] at h
  · subst q
    simp only [List.eraseDups_cons, List.filter_cons, beq_self_eq_true, Bool.not_true, Bool.false_eq_true, if_false, List.length_cons] at h
    split at h <;> simp [List.eraseDups_cons] at h

theorem locs0 {ns : List Str} (h : isLocs nm sl [] ns = true) : ns = [] := by
  cases ns with
  | nil => rfl
  | cons => exact ff h
theorem locs_cons {i : Nat} {is : List Nat} {ns : List Str} (h : isLocs nm sl (i :: is) ns = true) : ∃ a r, ns = a :: r ∧ isLoc nm sl i a = true ∧ isLocs nm sl is r = true := by
  cases ns with
  | nil => exact ff h
  | cons a r => exact ⟨a, r, rfl, and2 h⟩
theorem locs2 {i j : Nat} {ns : List Str} (h : isLocs nm sl [i, j] ns = true) : ∃ a b, ns = [a, b] ∧ isLoc nm sl i a = true ∧ isLoc nm sl j b = true := by
  obtain ⟨a, r, rfl, h1, h⟩ := locs_cons h
  obtain ⟨b, r, rfl, h2, h⟩ := locs_cons h
  cases locs0 h
  exact ⟨a, b, rfl, h1, h2⟩
theorem locs3 {i j k : Nat} {ns : List Str} (h : isLocs nm sl [i, j, k] ns = true) : ∃ a b c, ns = [a, b, c] ∧ isLoc nm sl i a = true ∧ isLoc nm sl j b = true ∧ isLoc nm sl k c = true := by
  obtain ⟨a, r, rfl, h1, h⟩ := locs_cons h
  obtain ⟨b, c, rfl, h2, h3⟩ := locs2 h
  exact ⟨a, b, c, rfl, h1, h2, h3⟩
section
variable {ev : ME → Lo → Hp → Option (V × Hp)} {v : V} {l1 : Lo} {H2 : Hp}
theorem tup_inv {ts : List Tg} (e : asgT ev (.tup ts) v l H = some (l1, H2)) : ∃ vs, unpk H v = some vs ∧ asgTs ev ts vs l H = some (l1, H2) := by
  exact as_tup e
theorem asgs_nil {vs : List V} (e : asgTs ev [] vs l H = some (l1, H2)) : vs = [] ∧ l1 = l ∧ H2 = H := by
  cases vs with
  | nil => rw [asgTs] at e; cases e; exact ⟨rfl, rfl, rfl⟩
  | cons => simp [asgTs] at e
theorem asgs_loc {i : Nat} {ts : List Tg} {vs : List V} (e : asgTs ev (.loc i :: ts) vs l H = some (l1, H2)) : ∃ a r, vs = a :: r ∧ asgTs ev ts r (l.set i (some a)) H = some (l1, H2) := by
  cases vs with
  | nil => simp [asgTs] at e
  | cons a r => rw [asgTs, asgT] at e; exact ⟨a, r, rfl, e⟩
theorem asg2 {i j : Nat} (e : asgT ev (.tup [.loc i, .loc j]) v l H = some (l1, H2)) : ∃ a b, unpk H v = some [a, b] ∧ l1 = (l.set i (some a)).set j (some b) ∧ H2 = H := by
  obtain ⟨vs, hu, e1⟩ := tup_inv e
  obtain ⟨a, r1, rfl, e2⟩ := asgs_loc e1
  obtain ⟨b, r2, rfl, e3⟩ := asgs_loc e2
  obtain ⟨rfl, h1, h2⟩ := asgs_nil e3
  exact ⟨a, b, hu, h1, h2⟩
theorem asg3 {i j k : Nat} (e : asgT ev (.tup [.loc i, .loc j, .loc k]) v l H = some (l1, H2)) : ∃ a b c, unpk H v = some [a, b, c] ∧ l1 = ((l.set i (some a)).set j (some b)).set k (some c) ∧ H2 = H := by
  obtain ⟨vs, hu, e1⟩ := tup_inv e
  obtain ⟨a, r1, rfl, e2⟩ := asgs_loc e1
  obtain ⟨b, r2, rfl, e3⟩ := asgs_loc e2
  obtain ⟨c, r3, rfl, e4⟩ := asgs_loc e3
  obtain ⟨rfl, h1, h2⟩ := asgs_nil e4
  exact ⟨a, b, c, hu, h1, h2⟩
end
theorem rs2 {fa : List Nat} {a b : V} {ws : List Value} (x : VRs fa as T [a, b] ws) : ∃ w u, ws = [w, u] ∧ VR fa as T a w ∧ VR fa as T b u := vrs2 x
theorem sw_inv {t : Tg} {r : Option (Option (List Str))} (h : swOk nm sl t r = true) : r = some none ∨ ∃ ns, r = some (some ns) ∧ ((∃ i j, t = .tup [.loc i, .loc j] ∧ isLocs nm sl [i, j] ns = true) ∨ (∃ i j k, t = .tup [.loc i, .loc j, .loc k] ∧ isLocs nm sl [i, j, k] ns = true)) := by
  cases r with
  | none => exact ff h
  | some r => cases r with
    | none => exact .inl rfl
    | some ns =>
      refine .inr ⟨ns, rfl, ?_⟩
      have lo : ∀ {t : Tg} {f : Nat → Bool}, (match locOf t with | none => false | some i => f i) = true → ∃ i, t = .loc i ∧ f i = true := by
        intro t f h
        cases t with
        | loc i => exact ⟨i, rfl, h⟩
        | _ => exact ff h
      cases t with
      | tup ts =>
        have h : swTs nm sl ts ns = true := h
        cases ts with
        | nil => exact ff h
        | cons t ts =>
          obtain ⟨i, rfl, h⟩ := lo h
          cases ts with
          | nil => exact ff h
          | cons t ts =>
            obtain ⟨j, rfl, h⟩ := lo h
            cases ts with
            | nil => exact .inl ⟨i, j, rfl, h⟩
            | cons t ts =>
              obtain ⟨k, rfl, h⟩ := lo h
              cases ts with
              | nil => exact .inr ⟨i, j, k, rfl, h⟩
              | cons => exact ff h
      | _ => exact ff h

/-- an assignment whose value is no comprehension -/
theorem asg_ok {t : Tg} {e0 : ME} (ht : AsS S call d t) (h0 : EvS S call d e0) {l' : Lo} {fl : Fl} (e : exS S.P call (.asg t e0) l H = some (fl, l', H')) {y x : Expr} {pos : Pos} {as : As} {T : TS} {Q : Flow → Shared → Prop} (ao : AOk A d)
    (c1 : chT S.G t nm sl y = true) (c2 : chE S.G e0 nm sl x = true) (hc : notComp x = true)
    (c3 : swOk nm sl t (swpQ nm y x) = true) (er : ER S as T env nm sl l s.heap) (hr : HR S as T H s.heap) (q : RetS S as T s env nm sl fl l' H' Q) : wpAny (model S.prog S.w) A (exec (.Assign [y] x pos) env) Q E s := by
  obtain ⟨v, H1, l1, H2, e1, e2, e⟩ := ex_asg e
  cases e
  have hs := sw_none (env := env) hc (some y) pos.line
  rcases sw_inv c3 with hq | ⟨ns, hq, hk⟩
  · refine asg_plain (chT_star c1) hs (swp_ok er.kind (er.names ▸ hq)) (h0 e1 ao c2 er hr fun w h1 tk1 as1 T1 x1 hr1 vr => ?_)
    exact ht e2 ao c1 (er.ext x1) hr1 vr fun h2 tk2 as2 T2 x2 hr2 er2 => q _ _ _ _ _ ((x1.nil er.exo).trans x2) hr2 er2 .next
  · obtain ⟨⟨ts, k, tp, hy⟩, hd⟩ := swpQ_some hq
    refine swap_ok hy hs (swp_ok er.kind (er.names ▸ hq)) (h0 e1 ao c2 er hr fun w h1 tk1 as1 T1 x1 hr1 vr => ?_)
    have er1 := er.ext x1
    rcases hk with ⟨i, j, rfl, c4⟩ | ⟨i, j, k, rfl, c4⟩
    · obtain ⟨a, b, rfl, g1, g2⟩ := locs2 c4
      obtain ⟨v1, v2, hu, rfl, rfl⟩ := asg2 e2
      refine unpk_ok hu rfl ao.handled hr1 vr fun ws h2 vv kp => ?_
      obtain ⟨w1, w2, rfl, r1, r2⟩ := vrs2 vv
      refine swap2 (er1.ext (.keep kp)) (hr1.keep kp) (dups2 hd) g1 g2 r1 r2 fun h3 tk3 as3 T3 x3 hr3 er3 => ?_
      exact q _ _ _ _ _ (((x1.trans (.keep kp)).nil er.exo).trans x3) hr3 er3 .next
    · obtain ⟨a, b, c, rfl, g1, g2, g3⟩ := locs3 c4
      obtain ⟨v1, v2, v3, hu, rfl, rfl⟩ := asg3 e2
      refine unpk_ok hu rfl ao.handled hr1 vr fun ws h2 vv kp => ?_
      obtain ⟨w1, w2, w3, rfl, r1, r2, r3⟩ := vrs3 vv
      obtain ⟨d1, d2, d3⟩ := dups3 hd
      refine swap3 (er1.ext (.keep kp)) (hr1.keep kp) d1 d2 d3 g1 g2 g3 r1 r2 r3 fun h3 tk3 as3 T3 x3 hr3 er3 => ?_
      exact q _ _ _ _ _ (((x1.trans (.keep kp)).nil er.exo).trans x3) hr3 er3 .next
theorem turn_inv {f : Fl} {l2 : Lo} {H2 : Hp} {X : Lo → Hp → SR} {r : Fl × Lo × Hp} (e : (match (some (f, l2, H2) : SR) with
      | some (.next, l, H) => X l H | some (.cont, l, H) => X l H | some (.brk, l, H) => some (.next, l, H) | some (.ret v, l, H) => some (.ret v, l, H) | none => none) = some r) :
    ((f = .next ∨ f = .cont) ∧ X l2 H2 = some r) ∨ (f = .brk ∧ r = (.next, l2, H2)) ∨ ∃ u, f = .ret u ∧ r = (.ret u, l2, H2) := by
  cases f with
  | next => exact .inl ⟨.inl rfl, e⟩
  | cont => exact .inl ⟨.inr rfl, e⟩
  | brk => exact .inr (.inl ⟨rfl, (Option.some.inj e).symm⟩)
  | ret u => exact .inr (.inr ⟨u, rfl, (Option.some.inj e).symm⟩)
theorem whlN_inv {t : Lo → Hp → Option (V × Hp)} {b : Lo → Hp → SR} {n : Nat} {r : Fl × Lo × Hp} (e : whlN t b (n + 1) l H = some r) : (∃ H1, t l H = some (.bool false, H1) ∧ r = (.next, l, H1)) ∨
    ∃ H1 f l2 H2, t l H = some (.bool true, H1) ∧ b l H1 = some (f, l2, H2) ∧ (((f = .next ∨ f = .cont) ∧ whlN t b n l2 H2 = some r) ∨ (f = .brk ∧ r = (.next, l2, H2)) ∨ ∃ u, f = .ret u ∧ r = (.ret u, l2, H2)) := by
  rw [whlN] at e
  obtain ⟨v, H1, e1, e⟩ := bnd_some e
  cases v with
  | bool q =>
    cases q with
    | false => exact .inl ⟨H1, e1, (Option.some.inj e).symm⟩
    | true =>
      dsimp only at e
      cases hb : b l H1 with
      | none => rw [hb] at e; first | exact nn e | exact ff e | cases e
      | some z =>
        obtain ⟨f, l2, H2⟩ := z
        rw [hb] at e
        exact .inr ⟨H1, f, l2, H2, e1, hb, turn_inv e⟩
  | _ => first | exact ff e | exact nn e | cases e
theorem forN_inv {t : CT} {b : Lo → Hp → SR} {n : Nat} {it : It} {r : Fl × Lo × Hp} (e : forN t b (n + 1) it l H = some r) : (nextI H it = some none ∧ r = (.next, l, H)) ∨
    ∃ v it' l1 f l2 H2, nextI H it = some (some (v, it')) ∧ setCT t v l = some l1 ∧ b l1 H = some (f, l2, H2) ∧ (((f = .next ∨ f = .cont) ∧ forN t b n it' l2 H2 = some r) ∨ (f = .brk ∧ r = (.next, l2, H2)) ∨ ∃ u, f = .ret u ∧ r = (.ret u, l2, H2)) := by
  rw [forN] at e
  cases hn : nextI H it with
  | none => rw [hn] at e; first | exact nn e | exact ff e | cases e
  | some z => cases z with
    | none => rw [hn] at e; exact .inl ⟨rfl, (Option.some.inj e).symm⟩
    | some z =>
      obtain ⟨v, it'⟩ := z
      rw [hn] at e
      dsimp only at e
      cases hs : setCT t v l with
      | none => rw [hs] at e; first | exact nn e | exact ff e | cases e
      | some l1 =>
        rw [hs] at e
        dsimp only at e
        cases hb : b l1 H with
        | none => rw [hb] at e; first | exact nn e | exact ff e | cases e
        | some z =>
          obtain ⟨f, l2, H2⟩ := z
          rw [hb] at e
          exact .inr ⟨v, it', l1, f, l2, H2, rfl, hs, hb, turn_inv e⟩
/-- what a turn's flow leaves -/
theorem flow_goes {f : Fl} {g : Flow} (h : f = .next ∨ f = .cont) (x : FlR S as T f g) : g = .next ∨ g = .cont := by
  rcases h with rfl | rfl <;> cases x
  · exact .inl rfl
  · exact .inr rfl
theorem while_loop {t : ME} {b : List MS} (ht : TrS S call d t) (hb : BkS S call d b) {x : Expr} {y : List Stmt} {R : Result → Shared → Prop} {fl : Fl} {l' : Lo} {n : Nat} (ao : AOk A d) (c1 : chE S.G t nm sl x = true) (c2 : chB S.G b nm sl y = true) (er : ER S as T env nm sl l s.heap) (hr : HR S as T H s.heap)
    (e : whlN (evE S.P call t) (fun l H => exB S.P call b l H) n l H = some (fl, l', H')) (q : RetS S as T s env nm sl fl l' H' (fun f s' => R (.ok f) s')) : codeAny (model S.prog S.w) A (.whileLoop x y [] env) R s := by
  obtain ⟨J, mk, un⟩ : ∃ J : Nat → Shared → Prop, (∀ n h1 tk1 as1 T1 l1 H1, Ext (EX env) as T s.heap as1 T1 h1 → HR S as1 T1 H1 h1 → ER S as1 T1 env nm sl l1 h1 → whlN (evE S.P call t) (fun l H => exB S.P call b l H) n l1 H1 = some (fl, l', H') → J n { s with heap := h1, toks := tk1 }) ∧
      ∀ n s1, J n s1 → ∃ h1 tk1 as1 T1 l1 H1, s1 = { s with heap := h1, toks := tk1 } ∧ Ext (EX env) as T s.heap as1 T1 h1 ∧ HR S as1 T1 H1 h1 ∧ ER S as1 T1 env nm sl l1 h1 ∧ whlN (evE S.P call t) (fun l H => exB S.P call b l H) n l1 H1 = some (fl, l', H') :=
    ⟨_, fun n h1 tk1 as1 T1 l1 H1 a b c d => ⟨h1, tk1, as1, T1, l1, H1, rfl, a, b, c, d⟩, fun _ _ h => h⟩
  refine codeAny_whileLoop J (fun n s1 hI => ?_) n (mk n s.heap s.toks as T l H (.refl ..) hr er e)
  obtain ⟨h1, tk1, as1, T1, l1, H1, rfl, x1, hr1, er1, e⟩ := un _ _ hI
  clear un hI
  generalize notedBy (model S.prog S.w) A env (fun e s' => R (.error e) s') = E1
  cases n with
  | zero => rw [whlN] at e; first | exact nn e | exact ff e | cases e
  | succ n =>
    rcases whlN_inv e with ⟨H2, e2, e⟩ | ⟨H2, f, l3, H3, e2, e3, e⟩
    · first | exact ff e | exact nn e | cases e
      refine ht e2 ao c1 er1 hr1 fun h2 tk2 as2 T2 x2 hr2 => ?_
      rw [if_neg Bool.false_ne_true]
      exact wpAny_execs_nil (q _ _ _ _ _ (x1.trans (x2.nil er1.exo)) hr2 (er1.ext x2) .next)
    · refine ht e2 ao c1 er1 hr1 fun h2 tk2 as2 T2 x2 hr2 => ?_
      rw [if_pos rfl]
      have x12 := x1.trans (x2.nil er1.exo)
      refine hb e3 ao c2 (er1.ext x2) hr2 fun h3 tk3 as3 T3 f x3 hr3 er3 fr => ?_
      rcases e with ⟨hf, e⟩ | ⟨rfl, e⟩ | ⟨u, rfl, e⟩
      · rcases flow_goes hf fr with rfl | rfl <;> exact ⟨n, Nat.lt_succ_self n, mk n h3 _ as3 T3 _ _ (x12.trans x3) hr3 er3 e⟩
      · cases e; cases fr
        exact q _ _ _ _ _ (x12.trans x3) hr3 er3 .next
      · first | exact ff e | exact nn e | cases e
        cases fr with
        | ret vr => exact q _ _ _ _ _ (x12.trans x3) hr3 er3 (.ret vr)
theorem st_whl {t : ME} {b : List MS} (ht : TrS S call d t) (hb : BkS S call d b) : StS S call d (.whl t b) := by
  intro l l' H H' fl e nm sl x s as T env A E Q ao c er hr q
  obtain ⟨y, z, p, rfl, c1, c2⟩ := cs_whl c
  exact wpAny_While (while_loop ht hb ao c1 c2 er hr e q)
theorem own_go {it : It} {I : Addr} {v : Value} {t : Expr} {Q : Unit → Shared → Prop} (x : IR S as T s.heap it I) (q : Q () s) : wpAny (model S.prog S.w) A (letOwnedTupleGo t (.ref I) v) Q E s := by
  obtain ⟨o, ho, n, vs, hc, hd, hn⟩ : ∃ o, s.heap.get? I = some o ∧ ∃ n vs, o.cls = .type n ∧ o.data = .fields vs ∧
      (["enumerate", "zip", "dict_itemiterator", "dict_reverseitemiterator", "odict_iterator", "itertools.zip_longest", "itertools.pairwise"] : List String).contains n = false := by
    cases x with
    | tup a _ _ => obtain ⟨o, e, c, d⟩ := a; exact ⟨o, e, _, _, c, d, by decide⟩
    | str a _ => obtain ⟨o, e, c, d⟩ := a; exact ⟨o, e, _, _, c, d, by decide⟩
    | lst a _ => obtain ⟨o, e, c, d⟩ := a; exact ⟨o, e, _, _, c, d, by decide⟩
    | rng a => exact ⟨_, a, _, _, rfl, rfl, by decide⟩
  have go : ∀ a : Addr, wpAny (model S.prog S.w) A (do
      let o ← load I
      match o.cls, o.data with
      | .type n, .fields vs =>
        if ((["enumerate", "zip", "dict_itemiterator", "dict_reverseitemiterator", "odict_iterator", "itertools.zip_longest", "itertools.pairwise"] : List String).contains n && vs[0]? == some (rawInt a)) = true then do
          rule "for.unpacks-the-owned-tuple"
          updateField I 0 .none
        else pure ()
      | _, _ => pure () : Sem Unit) Q E s := fun a => by
    refine wpAny_bind (wpAny_load ho ?_)
    rw [hc, hd]
    show wpAny _ A (if (_ && _) = true then _ else _) Q E s
    rw [hn, Bool.false_and, if_neg (by decide)]
    exact wpAny_pure q
  cases t <;> first | exact wpAny_pure q | (cases v <;> first | exact wpAny_pure q | exact go _)

/-- a target of a loop -/
noncomputable def tgOf : CT → Tg
  | .one i => .loc i
  | .many is => .tup (is.map .loc)
theorem as_locs : ∀ is : List Nat, AsLS S call d (is.map .loc)
  | [] => a_nil
  | _ :: r => a_cons a_loc (as_locs r)
theorem as_ct (t : CT) : AsS S call d (tgOf t) := by
  cases t with
  | one i => exact a_loc
  | many is => exact a_tup (as_locs is)
theorem setMany_asg {ev : ME → Lo → Hp → Option (V × Hp)} : ∀ {is : List Nat} {vs : List V} {l l' : Lo}, setMany is vs l = some l' → asgTs ev (is.map .loc) vs l H = some (l', H)
  | [], [], _, _, e => by rw [setMany] at e; cases e; rfl
  | [], _ :: _, _, _, e => by simp [setMany] at e
  | _ :: _, [], _, _, e => by simp [setMany] at e
  | i :: is, v :: vs, _, _, e => by
    rw [setMany] at e
    rw [List.map_cons, asgTs, asgT]
    exact setMany_asg e
theorem setCT_asg {ev : ME → Lo → Hp → Option (V × Hp)} {t : CT} {v : V} {l l' : Lo} (e : setCT t v l = some l') : asgT ev (tgOf t) v l H = some (l', H) := by
  unfold setCT at e
  split at e
  · cases e; rfl
  · split at e
    · rename_i is _ vs
      show asgT ev (.tup (is.map .loc)) (.tup vs) l H = some (l', H)
      rw [asgT]
      exact setMany_asg e
    · first | exact ff e | exact nn e | cases e
theorem ct_go_ch {G : Str → Option GV} : ∀ {is : List Nat} {es : List Expr}, ctGo nm sl is es = true → chTs G (is.map .loc) nm sl es = true
  | [], es, c => by cases go_nil c; rfl
  | i :: is, es, c => by
    obtain ⟨n, p, es, rfl, c1, c2⟩ := go_cons c
    exact (Bool.and_eq_true_iff.mpr ⟨c1, ct_go_ch c2⟩ : (isLoc nm sl i n && chTs G (is.map .loc) nm sl es) = true)
theorem ct_ch {G : Str → Option GV} {t : CT} {e : Expr} (c : ctIs nm sl t e = true) : chT G (tgOf t) nm sl e = true := by
  cases t with
  | one i => exact c
  | many is =>
    obtain ⟨xs, k, p, rfl, c⟩ := ct_many c
    exact ct_go_ch c
theorem set_folded {x : Expr} (h : notSet x = true) (env : Env) (v : Value) : foldedSetIterable x env v = pure v := by
  cases x <;> first | rfl | exact ff h | exact nn h | cases h

theorem owned_mono {as as1 : As} {T T1 : TS} (m : Mono as T as1 T1) {b : Addr} (h : b ∈ owned as) : b ∈ owned as1 := by
  obtain ⟨p, hp, hb⟩ := List.mem_flatMap.mp h
  obtain ⟨n, hn⟩ := List.getElem?_of_mem hp
  exact List.mem_flatMap.mpr ⟨p, List.mem_of_getElem? (m.asx n p hn), hb⟩
/-- what is not there later was not there before -/
theorem Ext.dead {as as1 : As} {T T1 : TS} {h h1 : Heap} (x : Ext Nil as T h as1 T1 h1) (hr1 : HR S as1 T1 H' h1) {I : Addr} (hI : h1.get? I = none) : h.get? I = none := by
  cases hz : h.get? I with
  | none => rfl
  | some o =>
    by_cases hm : I ∈ owned as
    · obtain ⟨q, hq⟩ := hr1.alive (owned_mono x.mono hm)
      rw [hI] at hq; first | exact nn hq | exact ff hq | cases hq
    · have := x.kp I o hm (fun z => z) hz
      rw [hI] at this; first | exact nn this | exact ff this | cases this
/-- a change at a place that was not there at the start -/
theorem Ext.off {X : Addr → Prop} {as as1 : As} {T T1 : TS} {h h1 h2 : Heap} {I : Addr} (x : Ext X as T h as1 T1 h1) (k : ∀ b o, b ≠ I → h1.get? b = some o → h2.get? b = some o) (hI : h.get? I = none) (hX : ¬ X I) : Ext X as T h as1 T1 h2 :=
  ⟨x.mono, fun b o n1 n2 e => k b o (fun q => by rw [q, hI] at e; cases e) (x.kp b o n1 n2 e), fun b hb e => by
    obtain ⟨o, ho⟩ := Option.isSome_iff_exists.mp (x.al b hb e)
    rw [k b o (fun q => hX (q ▸ hb)) ho]; rfl, x.own⟩

theorem HR.iter {it : It} {I : Addr} (hr : HR S as T H h) (x : IR S as T h it I) (f : Free S as env I) (k : Heap.ExtBut I h h') : HR S as T H h' :=
  hr.but k f.own f.old (x.noT hr)
theorem for_loop {t : CT} {b : List MS} (hb : BkS S call d b) {y : Expr} {z : List Stmt} {R : Result → Shared → Prop} {I : Addr} {it : It} {fl : Fl} {l' : Lo} {n : Nat} {as0 : As} {T0 : TS} {h0 : Heap} (ao : AOk A d) (c1 : ctIs nm sl t y = true) (c4 : chB S.G b nm sl z = true) (er : ER S as T env nm sl l s.heap) (hr : HR S as T H s.heap)
    (ir : IR S as T s.heap it I) (f : Free S as env I) (x0 : Ext (EX env) as0 T0 h0 as T s.heap) (hI0 : h0.get? I = none) (e : forN t (fun l H => exB S.P call b l H) n it l H = some (fl, l', H'))
    (q : ∀ h' tk as' T' g, Ext (EX env) as0 T0 h0 as' T' h' → HR S as' T' H' h' → ER S as' T' env nm sl l' h' → FlR S as' T' fl g → R (.ok g) { s with heap := h', toks := tk }) : codeAny (model S.prog S.w) A (.forLoop y (.ref I) z [] env) R s := by
  obtain ⟨J, mk, un⟩ : ∃ J : Nat → Shared → Prop, (∀ n hn tkn asn Tn ln Hn itn, Ext (EX env) as0 T0 h0 asn Tn hn → HR S asn Tn Hn hn → ER S asn Tn env nm sl ln hn → IR S asn Tn hn itn I → Free S asn env I → forN t (fun l H => exB S.P call b l H) n itn ln Hn = some (fl, l', H') → J n { s with heap := hn, toks := tkn }) ∧
      ∀ n s1, J n s1 → ∃ hn tkn asn Tn ln Hn itn, s1 = { s with heap := hn, toks := tkn } ∧ Ext (EX env) as0 T0 h0 asn Tn hn ∧ HR S asn Tn Hn hn ∧ ER S asn Tn env nm sl ln hn ∧ IR S asn Tn hn itn I ∧ Free S asn env I ∧ forN t (fun l H => exB S.P call b l H) n itn ln Hn = some (fl, l', H') :=
    ⟨_, fun n hn tkn asn Tn ln Hn itn a b c d e f => ⟨hn, tkn, asn, Tn, ln, Hn, itn, rfl, a, b, c, d, e, f⟩, fun _ _ h => h⟩
  refine codeAny_forLoop_any J (fun n s1 hI => ?_) n (mk n s.heap s.toks as T l H it x0 hr er ir f e)
  obtain ⟨hn, tkn, asn, Tn, ln, Hn, itn, rfl, xn, hrn, ern, irn, fn, e⟩ := un _ _ hI
  clear un hI
  generalize notedBy (model S.prog S.w) A env (fun e s' => R (.error e) s') = E1
  cases n with
  | zero => rw [forN] at e; first | exact nn e | exact ff e | cases e
  | succ n =>
    rcases forN_inv e with ⟨hnx, e⟩ | ⟨u, it', l3, f, l5, H5, hnx, h3e, e5, e⟩
    · first | exact ff e | exact nn e | cases e
      refine next_ok hnx irn fn.own hrn ao.handled fun h3 k3 => ?_
      exact wpAny_execs_nil (q _ _ _ _ _ (xn.off k3 hI0 fn.nex) (hrn.iter irn fn k3) (ern.but fn k3) .next)
    · refine next_ok hnx irn fn.own hrn ao.handled fun wu h3 tk3 k3 ir3 ru => own_go ir3 ?_
      have x3 := xn.off k3 hI0 fn.nex
      refine as_ct (call := call) (d := d) t (setCT_asg h3e) ao (ct_ch c1) (ern.but fn k3) (hrn.iter irn fn k3) ru fun h4 tk4 as4 T4 x4 hr4 er4 => ?_
      obtain ⟨o3, ho3, _⟩ := ir3.alive
      have fn4 := fn.ext x4 ho3
      have ir4 := ir3.ext x4 fn.own fn.nex
      obtain ⟨o4, ho4, _⟩ := ir4.alive
      refine hb e5 ao c4 er4 hr4 fun h5 tk5 as5 T5 f x5 hr5 er5 fr => ?_
      rcases e with ⟨hf, e⟩ | ⟨rfl, e⟩ | ⟨uu, rfl, e⟩
      · rcases flow_goes hf fr with rfl | rfl <;> exact ⟨n, Nat.lt_succ_self n, mk n h5 _ as5 T5 _ _ _ ((x3.trans x4).trans x5) hr5 er5 (ir4.ext x5 fn4.own fn4.nex) (fn4.ext x5 ho4) e⟩
      · cases e; cases fr
        exact q _ _ _ _ _ ((x3.trans x4).trans x5) hr5 er5 .next
      · first | exact ff e | exact nn e | cases e
        cases fr with
        | ret vr => exact q _ _ _ _ _ ((x3.trans x4).trans x5) hr5 er5 (.ret vr)
theorem st_for {t : CT} {e0 : ME} {b : List MS} (h0 : EvS S call d e0) (hb : BkS S call d b) : StS S call d (.for t e0 b) := by
  intro l l' H H' fl e nm sl x s as T env A E Q ao c er hr q
  obtain ⟨v, H1, it, e1, hit, e⟩ := ex_for e
  obtain ⟨y, z, w, p, rfl, c1, c2, c3, c4⟩ := cs_for c
  refine wpAny_For (h0 e1 ao c3 er hr fun w h1 tk1 as1 T1 x1 hr1 vr => ?_) (set_folded c2 env)
  have er1 := er.ext x1
  refine iter_ok hit hr1 vr fun I h2 hI kp2 ir2 => ?_
  exact for_loop hb ao c1 c4 (er1.ext (T' := T1) (as' := as1) (.keep kp2)) (hr1.keep kp2) ir2 (er1.fresh hr1 hI) ((x1.trans (.keep kp2)).nil er.exo) (x1.dead hr1 hI) e fun h' tk as' T' g a b c d => q h' tk as' T' g a b c d
end
end Mine

namespace Mine
section
variable {S : Sur} {call : CallT} {d : Nat} {as as' : As} {T T' : TS} {H H' : Hp} {h h' : Heap} {s : Shared} {env : Env} {nm : Nms} {sl : Sl} {l : Lo} {A : Around} {E : Value → Shared → Prop}

theorem Ext.close {X : Addr → Prop} {as as1 as2 : As} {T T1 T2 : TS} {h h1 h2 : Heap} (x : Ext Nil as T h as1 T1 h1) (y : Ext X as1 T1 h1 as2 T2 h2) (hX : ∀ b, X b → h.get? b = none) : Ext Nil as T h as2 T2 h2 := by
  refine ⟨x.mono.trans y.mono, fun b o n1 n2 e => ?_, fun b hb => hb.elim, fun b hb => ?_⟩
  · have e1 := x.kp b o n1 n2 e
    refine y.kp b o (fun hb => ?_) (fun q => by rw [hX b q] at e; cases e) e1
    rcases x.own b hb with q | q
    · exact n1 q
    · rw [q] at e; first | exact nn e | exact ff e | cases e
  · rcases y.own b hb with q | q
    · exact x.own b q
    · cases e : h.get? b with
      | none => exact .inr rfl
      | some o =>
        by_cases ho : b ∈ owned as
        · exact .inl ho
        · have := x.kp b o ho (fun z => z) e; rw [q] at this; first | exact nn this | exact ff this | cases this

theorem strIn_mem {x : Str} : ∀ {l : List Str}, strIn x l = true ↔ x ∈ l
  | [] => by simp [strIn]
  | y :: r => by simp only [strIn, Bool.or_eq_true, beq_iff_eq, List.mem_cons, strIn_mem]
theorem ndStr_nodup : ∀ {l : List Str}, ndStr l = true → l.Nodup
  | [], _ => .nil
  | x :: r, h => by
    simp only [ndStr, Bool.and_eq_true, Bool.not_eq_true'] at h
    refine List.nodup_cons.mpr ⟨fun q => ?_, ndStr_nodup h.2⟩
    rw [strIn_mem.mpr q] at h; cases h.1
theorem nd_lookup : ∀ {nm : Nms} {x : Str} {k : NameKind}, (nm.map (·.1)).Nodup → (x, k) ∈ nm → nm.lookup x = some k
  | (y, j) :: r, x, k, hn, hm => by
    obtain ⟨h1, h2⟩ := List.nodup_cons.mp hn
    rw [List.lookup_cons]
    rcases List.mem_cons.mp hm with e | e
    · cases e; simp
    · have : x ≠ y := fun q => h1 (q ▸ List.mem_map.mpr ⟨_, e, rfl⟩)
      rw [beq_eq_false_iff_ne.mpr this]
      exact nd_lookup h2 e
theorem slots_mem : ∀ {nm : Nms} {i : Nat} {x : Str} {b : Bool}, (slotsOf nm)[i]? = some (some (x, b)) → (x, kOf b) ∈ nm
  | [], i, x, b, e => by simp [slotsOf] at e
  | (y, k) :: r, i, x, b, e => by
    unfold slotsOf at e
    cases k <;> try exact .tail _ (slots_mem e)
    · cases i with
      | zero => simp at e; obtain ⟨rfl, rfl⟩ := e; exact .head _
      | succ i => exact .tail _ (slots_mem (by simpa using e))
    · cases i with
      | zero => simp at e; obtain ⟨rfl, rfl⟩ := e; exact .head _
      | succ i => exact .tail _ (slots_mem (by simpa using e))
theorem slots_some : ∀ {nm : Nms} {i : Nat} {z : Option (Str × Bool)}, (slotsOf nm)[i]? = some z → ∃ y, z = some y
  | [], i, z, e => by simp [slotsOf] at e
  | (y, k) :: r, i, z, e => by
    unfold slotsOf at e
    cases k <;> try exact slots_some e
    · cases i with
      | zero => simp at e; exact ⟨_, e.symm⟩
      | succ i => exact slots_some (nm := r) (i := i) (by simpa using e)
    · cases i with
      | zero => simp at e; exact ⟨_, e.symm⟩
      | succ i => exact slots_some (nm := r) (i := i) (by simpa using e)
theorem slots_nd : ∀ {nm : Nms}, (nm.map (·.1)).Nodup → ∀ {i j : Nat} {x : Str} {b c : Bool}, (slotsOf nm)[i]? = some (some (x, b)) → (slotsOf nm)[j]? = some (some (x, c)) → i = j
  | [], _, i, _, _, _, _, e, _ => by simp [slotsOf] at e
  | (y, k) :: r, hn, i, j, x, b, c, e1, e2 => by
    obtain ⟨h1, h2⟩ := List.nodup_cons.mp hn
    have no : ∀ {i : Nat} {c : Bool}, (slotsOf r)[i]? = some (some (y, c)) → False := fun e => h1 (List.mem_map.mpr ⟨_, slots_mem e, rfl⟩)
    unfold slotsOf at e1 e2
    cases k <;> try exact slots_nd h2 e1 e2
    · cases i <;> cases j
      · rfl
      · simp at e1 e2; obtain ⟨rfl, rfl⟩ := e1; exact (no e2).elim
      · simp at e1 e2; obtain ⟨rfl, rfl⟩ := e2; exact (no e1).elim
      · rename_i i j
        exact congrArg (· + 1) (slots_nd h2 (i := i) (j := j) (x := x) (b := b) (c := c) (by simpa using e1) (by simpa using e2))
    · cases i <;> cases j
      · rfl
      · simp at e1 e2; obtain ⟨rfl, rfl⟩ := e1; exact (no e2).elim
      · simp at e1 e2; obtain ⟨rfl, rfl⟩ := e2; exact (no e1).elim
      · rename_i i j
        exact congrArg (· + 1) (slots_nd h2 (i := i) (j := j) (x := x) (b := b) (c := c) (by simpa using e1) (by simpa using e2))

theorem bindL_other {kd : Str → Option NameKind} {x : Str} : ∀ {ps : List Str} {ws : List Value} {m : Str → Option Value}, x ∉ ps → bindL kd (ps.zip ws) m x = m x
  | [], _, _, _ => rfl
  | _ :: _, [], _, _ => rfl
  | p :: ps, w :: ws, m, h => by
    rw [List.zip_cons_cons, bindL, bindL_other (fun q => h (.tail _ q))]
    split
    · show (if x = p then some w else m x) = m x
      rw [if_neg (fun q : x = p => h (by rw [q]; exact .head _))]
    · rfl
theorem bindL_get {kd : Str → Option NameKind} {x : Str} {w : Value} : ∀ {ps : List Str} {ws : List Value} {m : Str → Option Value} {i : Nat}, ps.Nodup → ps[i]? = some x → ws[i]? = some w → kd x = some .local → bindL kd (ps.zip ws) m x = some w
  | [], _, _, _, _, e, _, _ => by simp at e
  | _ :: _, [], _, _, _, _, e, _ => by simp at e
  | p :: ps, u :: ws, m, 0, hn, e1, e2, hk => by
    simp at e1 e2; subst e1; subst e2
    rw [List.zip_cons_cons, bindL, bindL_other (List.nodup_cons.mp hn).1, if_pos hk, if_pos rfl]
  | p :: ps, u :: ws, m, i + 1, hn, e1, e2, hk => by
    rw [List.zip_cons_cons, bindL]
    exact bindL_get (List.nodup_cons.mp hn).2 (by simpa using e1) (by simpa using e2) hk
theorem bindC_other {kd : Str → Option NameKind} {x : Str} : ∀ {ps : List Str} {ws : List Value} {m : Str → Option Value}, x ∉ ps → bindC kd (ps.zip ws) m x = m x
  | [], _, _, _ => rfl
  | _ :: _, [], _, _ => rfl
  | p :: ps, w :: ws, m, h => by
    rw [List.zip_cons_cons, bindC, bindC_other (fun q => h (.tail _ q))]
    split
    · rfl
    · show (if x = p then some w else m x) = m x
      rw [if_neg (fun q : x = p => h (by rw [q]; exact .head _))]
theorem bindC_get {kd : Str → Option NameKind} {x : Str} {w : Value} : ∀ {ps : List Str} {ws : List Value} {m : Str → Option Value} {i : Nat}, ps.Nodup → ps[i]? = some x → ws[i]? = some w → kd x = some .cell → bindC kd (ps.zip ws) m x = some w
  | [], _, _, _, _, e, _, _ => by simp at e
  | _ :: _, [], _, _, _, _, e, _ => by simp at e
  | p :: ps, u :: ws, m, 0, hn, e1, e2, hk => by
    simp at e1 e2; subst e1; subst e2
    rw [List.zip_cons_cons, bindC, bindC_other (List.nodup_cons.mp hn).1, if_neg (by rw [hk]; intro q; cases q), if_pos rfl]
  | p :: ps, u :: ws, m, i + 1, hn, e1, e2, hk => by
    rw [List.zip_cons_cons, bindC]
    exact bindC_get (List.nodup_cons.mp hn).2 (by simpa using e1) (by simpa using e2) hk
theorem cells_some : ∀ {nm : Nms} {n : Nat} {acc : List (Str × Addr)} {x : Str}, ((x, NameKind.cell) ∈ nm ∨ (acc.lookup x).isSome = true) → ((cellsFrom n nm acc).lookup x).isSome = true
  | [], _, _, _, h => by rcases h with h | h; simp at h; exact h
  | (y, k) :: r, n, acc, x, h => by
    unfold cellsFrom
    split
    · refine cells_some ?_
      rcases h with h | h
      · rcases List.mem_cons.mp h with e | e
        · cases e; right; simp [List.lookup_cons]
        · exact .inl e
      · right
        rw [List.lookup_cons]
        split
        · rfl
        · exact h
    · rename_i hk
      refine cells_some ?_
      rcases h with h | h
      · rcases List.mem_cons.mp h with e | e
        · cases e; exact absurd rfl hk
        · exact .inl e
      · exact .inr h
theorem zip_lookup : ∀ {ps : List Str} {ws : List Value}, ps.Nodup → ws.length = ps.length → ps.filterMap (fun n => ((ps.zip ws).lookup n).map (n, ·)) = ps.zip ws := by
  have gen : ∀ (ps : List Str) (ws : List Value) (f : Str → Option Value), ps.Nodup → ws.length = ps.length → (∀ (i : Nat) (x : Str) (w : Value), ps[i]? = some x → ws[i]? = some w → f x = some w) → ps.filterMap (fun n => (f n).map (n, ·)) = ps.zip ws := by
    intro ps
    induction ps with
    | nil => intro ws f _ _ _; rfl
    | cons p ps ih =>
      intro ws f hn hl hf
      cases ws with
      | nil => simp at hl
      | cons w ws =>
        rw [List.filterMap_cons, hf 0 p w rfl rfl, List.zip_cons_cons]
        show (p, w) :: _ = _
        rw [ih ws f (List.nodup_cons.mp hn).2 (by simpa using hl) fun i x u e1 e2 => hf (i + 1) x u (by simpa using e1) (by simpa using e2)]
  intro ps ws hn hl
  refine gen ps ws _ hn hl ?_
  have look : ∀ (ps : List Str) (ws : List Value) (i : Nat) (x : Str) (w : Value), ps.Nodup → ps[i]? = some x → ws[i]? = some w → (ps.zip ws).lookup x = some w := by
    intro ps
    induction ps with
    | nil => intro ws i x w _ e; simp at e
    | cons p ps ih =>
      intro ws i x w hn e1 e2
      cases ws with
      | nil => simp at e2
      | cons u ws =>
        rw [List.zip_cons_cons, List.lookup_cons]
        cases i with
        | zero => simp at e1 e2; subst e1; subst e2; simp
        | succ i =>
          have hne : x ≠ p := fun q => (List.nodup_cons.mp hn).1 (q ▸ List.mem_of_getElem? (by simpa using e1))
          rw [beq_eq_false_iff_ne.mpr hne]
          exact ih ws i x w (List.nodup_cons.mp hn).2 (by simpa using e1) (by simpa using e2)
  exact fun i x w e1 e2 => look ps ws i x w hn e1 e2

theorem lookup_zip_some {ps : List Str} {ws : List Value} (hl : ws.length = ps.length) : ∀ n ∈ ps, ((ps.zip ws).lookup n).isNone = false := by
  induction ps generalizing ws with
  | nil => intro n h; simp at h
  | cons p ps ih =>
    intro n h
    cases ws with
    | nil => simp at hl
    | cons w ws =>
      rw [List.zip_cons_cons, List.lookup_cons]
      split
      · rfl
      · rename_i hb
        refine ih (by simpa using hl) n ?_
        rcases List.mem_cons.mp h with e | e
        · subst e; simp at hb
        · exact e
/-- arguments by their places alone -/
theorem binds_plain {fd : FuncData} {ws : List Value} (h1 : fd.params.posonlyargs = []) (h2 : fd.params.vararg = none) (h3 : fd.params.kwonlyargs = []) (h4 : fd.params.kwarg = none) (h5 : fd.defaults = .none) (hn : (fd.params.args.map (·.arg)).Nodup)
    (hl : ws.length = fd.params.args.length) : bindArgs fd ⟨ws, []⟩ = pure ((fd.params.args.map (·.arg)).zip ws) := by
  have hl' : ws.length = (fd.params.args.map (·.arg)).length := by rw [List.length_map]; exact hl
  have hm : ((fd.params.args.map (·.arg)).take ((fd.params.args.map (·.arg)).length)).filter (fun n => (((fd.params.args.map (·.arg)).zip ws).lookup n).isNone) = [] := by
    rw [List.take_length, List.filter_eq_nil_iff]
    intro n hn'
    rw [lookup_zip_some hl' n hn']; simp
  have hs : seqItems? Value.none = pure none := rfl
  have hg : decide (ws.length > (fd.params.args.map (·.arg)).length) = false := decide_eq_false (by omega)
  unfold bindArgs
  simp only [h1, h2, h3, h4, h5, hs, List.map_nil, List.nil_append, List.append_nil, List.forIn_nil, pure_bind]
  simp only [Option.getD_none, Array.toList_empty, List.length_nil, List.drop_nil, List.zip_nil_right, List.forIn_nil, Nat.zero_sub, Nat.sub_zero, hg, Bool.false_and, Bool.false_eq_true, if_false, hm, List.isEmpty_nil, Bool.not_true, pure_bind]
  rw [zip_lookup hn hl']
end
end Mine

namespace Mine
section
variable {S : Sur} {as as' : As} {T T' : TS} {H H' : Hp} {h h' : Heap} {s : Shared} {env : Env} {nm : Nms} {sl : Sl} {l : Lo} {A : Around} {E : Value → Shared → Prop}

theorem args_are : ∀ {ps : List Arg} {sl : Sl}, argsAre ps sl = true → ∀ {i : Nat} {a : Arg}, ps[i]? = some a → ∃ b, sl[i]? = some (some (a.arg, b))
  | [], _, _, i, a, e => by simp at e
  | p :: ps, [], h, _, _, _ => by simp [argsAre] at h
  | p :: ps, none :: sl, h, _, _, _ => by simp [argsAre] at h
  | p :: ps, some (x, b) :: sl, h, i, a, e => by
    simp only [argsAre, Bool.and_eq_true] at h
    cases i with
    | zero => simp at e; subst e; exact ⟨b, by rw [beq_iff_eq.mp h.1]; rfl⟩
    | succ i =>
      obtain ⟨c, hc⟩ := args_are h.2 (i := i) (a := a) (by simpa using e)
      exact ⟨c, by simpa using hc⟩
theorem args_nd : ∀ {ps : List Arg} {sl : Sl}, argsAre ps sl = true → (∀ {i j : Nat} {x : Str} {b c : Bool}, sl[i]? = some (some (x, b)) → sl[j]? = some (some (x, c)) → i = j) → (ps.map (·.arg)).Nodup
  | [], _, _, _ => .nil
  | p :: ps, [], h, _ => by simp [argsAre] at h
  | p :: ps, none :: sl, h, _ => by simp [argsAre] at h
  | p :: ps, some (x, b) :: sl, h, hn => by
    have h' := h
    simp only [argsAre, Bool.and_eq_true] at h'
    rw [List.map_cons]
    refine List.nodup_cons.mpr ⟨fun q => ?_, args_nd h'.2 fun {i j x b c} e1 e2 => ?_⟩
    · obtain ⟨a, ha, he⟩ := List.mem_map.mp q
      obtain ⟨i, hi⟩ := List.getElem?_of_mem ha
      obtain ⟨c, hc⟩ := args_are h'.2 hi
      have := hn (i := 0) (j := i + 1) (x := p.arg) (b := b) (c := c) (by rw [beq_iff_eq.mp h'.1]; rfl) (by rw [← he]; simpa using hc)
      omega
    · have := hn (i := i + 1) (j := j + 1) (x := x) (b := b) (c := c) (by simpa using e1) (by simpa using e2)
      omega
theorem bad_body : ∀ {b : List MS}, badBody b = true → b = [.bad]
  | [.bad], _ => rfl

theorem frame_ok {fd : FuncData} {fi : FI} {a : Addr} {vs : List V} {ws : List Value} {s1 : Shared} (hr : HR S as T H s.heap) (vv : VRs S.fa as T vs ws) (hlen : vs.length = fi.np) (h1 : fd.globals = mainGlobals) (h2 : fd.builtins = builtinsNs)
    (h3 : kindIs0 fd.scope = true) (h4 : fd.params.args.length = fi.np) (h5 : (slotsOf fd.scope.names).length = fi.ns) (h6 : argsAre fd.params.args (slotsOf fd.scope.names) = true) (h7 : (fd.scope.names.map (·.1)).Nodup) (hpn : (fd.params.args.map (·.arg)).Nodup) (hle : fi.np ≤ fi.ns)
    (x : InCallC s (callEnvC fd s.heap.objs.size a).locals (bindL (callEnvC fd s.heap.objs.size a).kindOf ((fd.params.args.map (·.arg)).zip ws) fun _ => none) (callEnvC fd s.heap.objs.size a).cells
        (bindC (callEnvC fd s.heap.objs.size a).kindOf ((fd.params.args.map (·.arg)).zip ws) fun _ => none) s1) :
    ER S as T (callEnvC fd s.heap.objs.size a) fd.scope.names (slotsOf fd.scope.names) (vs.map some ++ List.replicate (fi.ns - fi.np) none) s1.heap := by
  have fresh : ∀ b, s.heap.objs.size ≤ b → s.heap.get? b = none := fun b hb => by
    cases e : s.heap.get? b with
    | none => rfl
    | some o => exact absurd (Heap.lt_size e) (Nat.not_lt.mpr hb)
  have fr : ∀ b, s.heap.get? b = none → b ∉ owned as ∧ S.h0.get? b = none := fun b hb => by
    refine ⟨fun q => ?_, ?_⟩
    · obtain ⟨o, ho⟩ := hr.alive q; rw [hb] at ho; first | exact nn ho | exact ff ho | cases ho
    · cases e : S.h0.get? b with
      | none => rfl
      | some o => have := hr.base b o e; rw [hb] at this; first | exact nn this | exact ff this | cases this
  simp only [kindIs0, Bool.and_eq_true] at h3
  obtain ⟨⟨⟨k1, k2⟩, k3⟩, k4⟩ := h3
  have kf : fd.scope.kind = .function := by
    split at k2
    · rename_i e; exact e
    · first | exact ff k2 | exact nn k2 | cases k2
  have at_ : ∀ {i : Nat} {v : V} {z : Str} {b : Bool}, (vs.map some ++ List.replicate (fi.ns - fi.np) none)[i]? = some (some v) → (slotsOf fd.scope.names)[i]? = some (some (z, b)) → ∃ w, vs[i]? = some v ∧ ws[i]? = some w ∧ VR S.fa as T v w ∧ (fd.params.args.map (·.arg))[i]? = some z := by
    intro i v z b e1 e2
    by_cases hi : i < vs.length
    · rw [List.getElem?_append_left (by rw [List.length_map]; exact hi), List.getElem?_map] at e1
      obtain ⟨v', h', h''⟩ := Option.map_eq_some_iff.mp e1
      cases h''
      obtain ⟨w, hw, vr⟩ := vv.get _ h'
      obtain ⟨p, hp⟩ : ∃ p, fd.params.args[i]? = some p := ⟨_, List.getElem?_eq_getElem (by omega)⟩
      obtain ⟨c, hc⟩ := args_are h6 hp
      rw [e2] at hc; first | exact nn hc | exact ff hc | cases hc
      exact ⟨w, h', hw, vr, by rw [List.getElem?_map, hp]; rfl⟩
    · rw [List.getElem?_append_right (by rw [List.length_map]; omega), List.getElem?_replicate] at e1
      split at e1 <;> cases e1
  have kd : ∀ {i : Nat} {z : Str} {b : Bool}, (slotsOf fd.scope.names)[i]? = some (some (z, b)) → (callEnvC fd s.heap.objs.size a).kindOf z = some (kOf b) := fun e => nd_lookup h7 (slots_mem e)
  refine ⟨kf, h1, h2, rfl, k1, ?_, fun i j y b c e1 e2 => slots_nd h7 e1 e2, ⟨_, x.toInCall.ns, fun i v y e1 e2 => ?_⟩, fun i y e1 => ?_, fun y z c e1 e2 => ?_, fun y c e1 => ⟨_, x.cell y c e1⟩, fr _ (fresh _ x.toInCall.fresh), fun y c e1 => ?_⟩
  · rw [List.length_append, List.length_map, List.length_replicate, h5]; omega
  · obtain ⟨w, g1, g2, g3, g4⟩ := at_ e1 e2
    exact ⟨w, bindL_get hpn g4 g2 (kd e2), g3⟩
  · obtain ⟨c, hc⟩ := Option.isSome_iff_exists.mp (cells_some (n := s.heap.objs.size + 1) (acc := []) (x := y) (nm := fd.scope.names) (.inl (slots_mem e1)))
    refine ⟨c, _, hc, x.cell y c hc, fun v hv => ?_⟩
    obtain ⟨w, g1, g2, g3, g4⟩ := at_ hv e1
    exact ⟨w, bindC_get hpn g4 g2 (kd e1), g3⟩
  · exact name_of_addr x.apart (mem_of_lookup e1) (mem_of_lookup e2)
  · have := x.above y c (mem_of_lookup e1)
    exact fr _ (fresh _ (Nat.le_trans x.toInCall.fresh (Nat.le_of_lt this)))

theorem deeper_ok {d : Nat} (ao : AOkC A (d + 1)) (env : Env) : AOk (A.deeper env) d := by
  refine ⟨ao.handled, ?_, ?_⟩
  · have := ao.depth
    show A.depth + 1 + 4 * d + 8 ≤ 1000
    omega
  · have := ao.units
    show A.units + 3 + 32 * d + 200 ≤ 9900
    omega

theorem call_ok (C : Cx S) (hB : ∀ d, CallOk S (callF S.P d) d → ∀ b, BkS S (callF S.P d) d b) : ∀ d, CallOk S (callF S.P d) d := by
  intro d
  induction d with
  | zero => intro k vs H H' v e; rw [callF] at e; first | exact nn e | exact ff e | cases e
  | succ d ih =>
    intro k vs H H' v e A s as T R a ws ao ha hr vv q
    rw [callF] at e
    split at e
    · rename_i fi hfi
      split at e
      · rename_i hlen
        obtain ⟨a', ha', ck⟩ := C.fns k fi hfi
        rw [ha] at ha'; cases ha'
        obtain ⟨fl, l2, e1, hfl⟩ : ∃ fl l2, exB S.P (callF S.P d) fi.body (vs.map some ++ List.replicate (fi.ns - fi.np) none) H = some (fl, l2, H') ∧ ((fl = .next ∧ v = .none) ∨ fl = .ret v) := by
          split at e
          · rename_i v' l2 H2 e2; cases e; exact ⟨_, _, e2, .inr rfl⟩
          · rename_i l2 H2 e2; cases e; exact ⟨_, _, e2, .inl ⟨rfl, rfl⟩⟩
          · first | exact ff e | exact nn e | cases e
        unfold chK at ck
        simp only [Bool.or_eq_true] at ck
        rcases ck with ck | ck
        · rw [bad_body ck] at e1
          rw [exB, exS] at e1; cases e1
        · split at ck
          · rename_i c0 d0 fd sl0 hk
            unfold chFd at ck
            simp only [Bool.and_eq_true, decide_eq_true_eq, beq_iff_eq, List.isEmpty_iff, Option.isNone_iff_eq_none] at ck
            obtain ⟨⟨⟨⟨⟨⟨⟨⟨⟨⟨⟨⟨⟨⟨c1, c2⟩, c3⟩, c4⟩, c5⟩, c6⟩, c7⟩, c8⟩, c9⟩, c10⟩, c11⟩, c12⟩, c13⟩, c14⟩, c15⟩ := ck
            split at c14
            · rename_i body hbody
              have c5' : fd.defaults = .none := by split at c5; rename_i e; exact e; cases c5
              have X := C.X.keeps hr.base
              have hn7 := ndStr_nodup c13
              have hle : fi.np ≤ fi.ns := by
                rw [← c10, ← c11]
                by_cases hz : fd.params.args.length = 0
                · omega
                · obtain ⟨b, hb⟩ := args_are c12 (i := fd.params.args.length - 1) (a := fd.params.args[fd.params.args.length - 1]) (List.getElem?_eq_getElem (by omega))
                  have := (List.getElem?_eq_some_iff.mp hb).1
                  omega
              have hpn : (fd.params.args.map (·.arg)).Nodup :=
                 args_nd c12 fun e1 e2 => slots_nd hn7 e1 e2
              have hl : ws.length = fd.params.args.length := by rw [vv.length, hlen, c10]
              have hbind := binds_plain (ws := ws) c1 c2 c3 c4 c5' hpn hl
              have kk := c9
              simp only [kindIs0, Bool.and_eq_true, Bool.not_eq_true'] at kk
              have kf : fd.scope.kind = .function := by
                have := kk.1.1.2
                split at this
                · rename_i e; exact e
                · first | exact ff this | exact nn this | cases this
              refine codeAny_call_cells (by have := ao.depth; show A.depth < 1000; omega) (X _ _ hk) rfl (C.lim.keeps hr.base) (codeRec_of X c15) hbody hbind c6 (fun z hz => ?_) (fun s1 x => ?_) kk.2 kk.1.2 kf
              · obtain ⟨z1, z2⟩ := z
                have hz1 := (List.of_mem_zip hz).1
                obtain ⟨p, hp, rfl⟩ := List.mem_map.mp hz1
                obtain ⟨i, hi⟩ := List.getElem?_of_mem hp
                obtain ⟨b, hb⟩ := args_are c12 hi
                have hm := slots_mem hb
                cases b with
                | false => exact .inl (nd_lookup hn7 hm)
                | true => exact .inr ⟨nd_lookup hn7 hm, cells_some (.inl hm)⟩
              · have er := frame_ok hr vv hlen c7 c8 c9 c10 c11 c12 hn7 hpn hle x
                obtain ⟨h1, tk1, hs1⟩ := x.toInCall.same
                have kp := x.toInCall.keep
                subst hs1
                have x0 : Ext Nil as T s.heap as T h1 := .keep kp
                refine hB d ih fi.body e1 (deeper_ok ao _) c14 er (hr.keep kp) fun h2 tk2 as2 T2 f x2 hr2 er2 fr => ?_
                have x02 : Ext Nil as T s.heap as2 T2 h2 := x0.close x2 fun b hb => by
                  have low : ∀ c, s.heap.objs.size ≤ c → s.heap.get? c = none := fun c hc => by
                    cases e : s.heap.get? c with
                    | none => rfl
                    | some o => exact absurd (Heap.lt_size e) (Nat.not_lt.mpr hc)
                  rcases hb with rfl | ⟨y, hy⟩
                  · exact low _ x.toInCall.fresh
                  · exact low _ (Nat.le_trans x.toInCall.fresh (Nat.le_of_lt (x.above y b (mem_of_lookup hy))))
                rcases hfl with ⟨rfl, rfl⟩ | rfl
                · first | exact ff fr | exact nn fr | cases fr
                  exact q _ _ _ _ _ x02 hr2 .none
                · cases fr with
                  | ret vr => exact q _ _ _ _ _ x02 hr2 vr
            · first | exact ff c14 | exact nn c14 | cases c14
          · first | exact ff ck | exact nn ck | cases ck
      · first | exact ff e | exact nn e | cases e
    · first | exact ff e | exact nn e | cases e
end
end Mine

namespace Mine

/-- the cells a comprehension takes with it -/
noncomputable def clOf (cells : List (Str × Addr)) : Nms → List (Str × Addr) → List (Str × Addr)
  | [], acc => acc
  | (x, k) :: r, acc => match k with
    | .free => (match cells.lookup x with | some c => clOf cells r ((x, c) :: acc) | none => clOf cells r acc)
    | _ => clOf cells r acc

section
variable {S : Sur} {call : CallT} {d : Nat} {as as' : As} {T T' : TS} {H H' : Hp} {h h' : Heap} {s : Shared} {env : Env} {nm : Nms} {sl : Sl} {l : Lo} {A : Around} {E : Value → Shared → Prop}

theorem closure_fold {env : Env} : ∀ {names : Nms} {acc : List (Str × Addr)}, (∀ x, (x, NameKind.free) ∈ names → (env.cells.lookup x).isSome = true) →
    (forIn names acc (fun (p : Str × NameKind) (cs : List (Str × Addr)) => (if p.2 == .free then do let a ← cellOf env p.1; pure (ForInStep.yield ((p.1, a) :: cs)) else pure (ForInStep.yield cs) : Sem (ForInStep (List (Str × Addr)))))) = pure (clOf env.cells names acc)
  | [], acc, _ => rfl
  | (x, k) :: r, acc, h => by
    rw [List.forIn_cons]
    have hr : ∀ y, (y, NameKind.free) ∈ r → (env.cells.lookup y).isSome = true := fun y hy => h y (.tail _ hy)
    cases k with
    | free =>
      obtain ⟨c, hc⟩ := Option.isSome_iff_exists.mp (h x (.head _))
      have : cellOf env x = pure c := by unfold cellOf; rw [hc]
      simp only [beq_self_eq_true, if_true, this, pure_bind, clOf, hc]
      exact closure_fold hr
    | _ => 
      simp only [clOf]
      exact closure_fold hr
theorem closure_ok {sc : Scope} {env : Env} (h : ∀ x, (x, NameKind.free) ∈ sc.names → (env.cells.lookup x).isSome = true) : closureFor sc env = pure (clOf env.cells sc.names []) := by
  have := closure_fold (acc := []) h
  unfold closureFor
  simp only [bind_pure]
  rw [← this]
theorem clOf_old {cells : List (Str × Addr)} : ∀ {names : Nms} {acc : List (Str × Addr)} {x : Str} {c : Addr}, (clOf cells names acc).lookup x = some c → cells.lookup x = some c ∨ acc.lookup x = some c
  | [], acc, x, c, e => .inr e
  | (y, k) :: r, acc, x, c, e => by
    unfold clOf at e
    split at e
    · split at e
      · rename_i c' hc
        rcases clOf_old e with q | q
        · exact .inl q
        · rw [List.lookup_cons] at q
          split at q
          · rename_i hb; cases q; exact .inl (beq_iff_eq.mp hb ▸ hc)
          · exact .inr q
      · exact clOf_old e
    · exact clOf_old e
theorem clOf_acc {cells : List (Str × Addr)} : ∀ {names : Nms} {acc : List (Str × Addr)} {x : Str} {c : Addr}, cells.lookup x = some c → acc.lookup x = some c → (clOf cells names acc).lookup x = some c
  | [], acc, x, c, _, e => e
  | (y, k) :: r, acc, x, c, h, e => by
    unfold clOf
    split
    · split
      · rename_i c' hc
        refine clOf_acc h ?_
        rw [List.lookup_cons]
        split
        · rename_i hb; rw [← beq_iff_eq.mp hb, h] at hc; rw [hc]
        · exact e
      · exact clOf_acc h e
    · exact clOf_acc h e
theorem clOf_free {cells : List (Str × Addr)} : ∀ {names : Nms} {acc : List (Str × Addr)} {x : Str} {c : Addr}, (x, NameKind.free) ∈ names → cells.lookup x = some c → (clOf cells names acc).lookup x = some c
  | [], acc, x, c, h, _ => by simp at h
  | (y, k) :: r, acc, x, c, h, e => by
    unfold clOf
    rcases List.mem_cons.mp h with q | q
    · first | exact ff q | exact nn q | cases q
      simp only [e]
      exact clOf_acc e (by simp)
    · split
      · split
        · exact clOf_free q e
        · exact clOf_free q e
      · exact clOf_free q e

/-- a comprehension's loop -/
theorem loop_tests {elt target iter : Expr} {ifs : List Expr} {scope : Scope} {pos : Pos} {it acc : Value} {env : Env} {R : Result → Shared → Prop} (I : Nat → Shared → Prop)
    (turn : ∀ n s, I n s → wpAny (model S.prog S.w) A (pyNext it) (fun r s₁ => match r with
      | none => R (.ok .next) s₁
      | some v => wpAny (model S.prog S.w) A (letOwnedTupleGo target it v) (fun _ s₁' => wpAny (model S.prog S.w) A (assign target env v) (fun _ s₂ =>
          wpAny (model S.prog S.w) A (forIn ifs true fun c r => if r = true then do let ok ← PySem.isTrue c env (eval c env); pure (ForInStep.yield ok) else pure (ForInStep.yield r)) (fun ok s₃ =>
            if ok = true then wpAny (model S.prog S.w) A (eval elt env) (fun x s₄ =>
              wpAny (model S.prog S.w) A (PySem.call (.builtin "list.append") [acc, x]) (fun _ s₅ => ∃ m, m < n ∧ I m s₅) (notedBy (model S.prog S.w) A env fun e s' => R (.error e) s') s₄) (notedBy (model S.prog S.w) A env fun e s' => R (.error e) s') s₃
            else ∃ m, m < n ∧ I m s₃) (notedBy (model S.prog S.w) A env fun e s' => R (.error e) s') s₂) (notedBy (model S.prog S.w) A env fun e s' => R (.error e) s') s₁') (notedBy (model S.prog S.w) A env fun e s' => R (.error e) s') s₁) (notedBy (model S.prog S.w) A env fun e s' => R (.error e) s') s)
    (n : Nat) (h : I n s) : codeAny (model S.prog S.w) A (.compLoop (.ListComp elt [⟨target, iter, ifs, 0⟩] scope pos) 0 it acc env) R s := by
  refine codeAny_loop rfl I (fun n s hI => ?_) n h
  show wpAny _ A ((compTurn (.ListComp elt [⟨target, iter, ifs, 0⟩] scope pos) 0 it acc env).onRaise (fun x => do noteFrame x env; theTreesLotGoes x)) _ _ s
  refine wpAny_noted ?_
  rw [compTurn_list]
  refine wpAny_bind (wpAny_standAt (wpAny_bind (wpAny_mono (turn n s hI) (fun r s₁ h₁ => ?_) fun _ _ h' => h')))
  cases r with
  | none => exact wpAny_pure h₁
  | some v =>
    refine wpAny_bind (wpAny_mono h₁ (fun _ s₁' h₁' => ?_) fun _ _ h' => h')
    refine wpAny_bind (wpAny_mono h₁' (fun _ s₂ h₂ => wpAny_bind (wpAny_mono h₂ (fun ok s₃ h₃ => ?_) fun _ _ h' => h')) fun _ _ h' => h')
    cases ok with
    | false => exact wpAny_pure ⟨rfl, h₃⟩
    | true =>
      exact wpAny_bind (wpAny_bind (wpAny_mono h₃ (fun x s₄ h₄ => wpAny_bind (wpAny_mono h₄ (fun _ s₅ h₅ => wpAny_pure (wpAny_pure ⟨rfl, h₅⟩)) fun _ _ h' => h')) fun _ _ h' => h'))

theorem tests_false {env : Env} {Q : Bool → Shared → Prop} : ∀ {xs : List Expr}, Q false s →
    wpAny (model S.prog S.w) A (forIn xs false fun c r => if r = true then do let ok ← PySem.isTrue c env (eval c env); pure (ForInStep.yield ok) else pure (ForInStep.yield r)) Q E s
  | [], q => wpAny_pure q
  | x :: r, q => by
    rw [List.forIn_cons]
    refine wpAny_bind ?_
    rw [if_neg (by decide)]
    exact wpAny_pure (tests_false q)
theorem tests_ok : ∀ {cs : List ME}, AllEv S call d cs → ∀ {l : Lo} {H H' : Hp} {b : Bool}, evC S.P call cs l H = some (b, H') →
    ∀ ⦃nm : Nms⦄ ⦃sl : Sl⦄ ⦃xs : List Expr⦄ ⦃s : Shared⦄ ⦃as : As⦄ ⦃T : TS⦄ ⦃env : Env⦄ ⦃A : Around⦄ ⦃E : Value → Shared → Prop⦄ ⦃Q : Bool → Shared → Prop⦄, AOk A d → chL S.G cs nm sl xs = true → ER S as T env nm sl l s.heap → HR S as T H s.heap →
    RetB S as T s H' b Q → wpAny (model S.prog S.w) A (forIn xs true fun c r => if r = true then do let ok ← PySem.isTrue c env (eval c env); pure (ForInStep.yield ok) else pure (ForInStep.yield r)) Q E s
  | [], _, _, _, _, _, e => by
    intro nm sl xs s as T env A E Q ao c er hr q
    rw [evC] at e; first | exact nn e | exact ff e | cases e
    cases xs with
    | nil => exact wpAny_pure (q s.heap s.toks as T (.refl ..) hr)
    | cons => simp [chL] at c
  | e0 :: r, hA, _, _, _, _, e => by
    intro nm sl xs s as T env A E Q ao c er hr q
    obtain ⟨_, he, hr'⟩ := hA
    rw [evC] at e
    obtain ⟨a, H1, e1, e⟩ := bnd_some e
    cases xs with
    | nil => simp [chL] at c
    | cons x ys =>
      simp only [chL, Bool.and_eq_true] at c
      rw [List.forIn_cons]
      refine wpAny_bind ?_
      rw [if_pos rfl]
      split at e
      · refine wpAny_bind (he e1 ao c.1.2 er hr fun h1 tk1 as1 T1 x1 hr1 => wpAny_pure ?_)
        exact tests_ok hr' e ao c.2 (er.ext x1) hr1 (q.from x1)
      · first | exact ff e | exact nn e | cases e
        refine wpAny_bind (he e1 ao c.1.2 er hr fun h1 tk1 as1 T1 x1 hr1 => wpAny_pure ?_)
        exact tests_false (q _ _ _ _ x1 hr1)
      · first | exact ff e | exact nn e | cases e

/-- a list that has lain apart is taken in -/
theorem HR.adopt {S : Sur} {as : As} {T : TS} {H : Hp} {h : Heap} {D : Addr} {vs : List V} {ws : List Value} {k : Nat} (x : HR S as T H h) (e : h.get? D = some (lst ws k)) (ho : D ∉ owned as) (h0 : S.h0.get? D = none) (hg : sysModules < D) (hv : VRs S.fa as T vs ws) (hl : vs.length ≤ lim) :
    HR S (as ++ [(D, none)]) T (H ++ [.list vs]) h ∧ VR S.fa (as ++ [(D, none)]) T (.loc H.length) (.ref D) := by
  have m : Mono as T (as ++ [(D, none)]) T := ⟨fun n q e => getElem?_append_some e, fun _ _ e => e⟩
  refine ⟨⟨x.base, by simp [x.len], fun n q r e1 e2 => ?_, ?_, fun a ha => ?_, x.im, x.t0, x.ro, x.two, fun a ha => ?_⟩, ?_⟩
  · by_cases hn : n < H.length
    · rw [List.getElem?_append_left hn] at e1
      rw [List.getElem?_append_left (by rw [x.len]; exact hn)] at e2
      exact (x.obj n q r e1 e2).keep m (fun _ z => z) (fun _ _ _ z => z)
    · have : n = H.length := by
        have := (List.getElem?_eq_some_iff.mp e1).1; simp at this; omega
      subst this
      rw [List.getElem?_append_right (Nat.le_refl _), Nat.sub_self] at e1
      rw [List.getElem?_append_right (by rw [x.len]; exact Nat.le_refl _), x.len, Nat.sub_self] at e2
      cases e1; cases e2
      exact .list e hl (hv.mono m)
  · rw [owned_append]
    refine List.nodup_append.mpr ⟨x.nd, by simp [owned], fun a ha b hb q => ?_⟩
    simp [owned] at hb
    rw [q, hb] at ha
    exact ho ha
  · rw [owned_append] at ha
    rcases List.mem_append.mp ha with q | q
    · exact x.new a q
    · simp [owned] at q; rw [q]; exact h0
  · rw [owned_append] at ha
    rcases List.mem_append.mp ha with q | q
    · exact x.big a q
    · simp [owned] at q; rw [q]; exact hg
  · exact .loc (p := (D, none)) (by rw [List.getElem?_append_right (by rw [x.len]; exact Nat.le_refl _), x.len, Nat.sub_self]; rfl)

theorem IR.self {it : It} {I : Addr} {Q : Value → Shared → Prop} (x : IR S as T s.heap it I) (q : Q (.ref I) s) : wpAny (model S.prog S.w) A (pyIter (.ref I)) Q E s := by
  cases x with
  | tup a _ _ => exact wpAny_pyIter_tupleiter a q
  | str a _ => exact wpAny_pyIter_striter_ascii a q
  | lst a _ => exact wpAny_pyIter_listiter a q
  | rng a => exact wpAny_pyIter_rangeiter a q

theorem compN_len {cond : Lo → Hp → Option (Bool × Hp)} {elt : Lo → Hp → Option (V × Hp)} {t : CT} {l : Lo} : ∀ {n : Nat} {it : It} {acc vs : List V} {H H' : Hp}, compN cond elt t l n it acc H = some (vs, H') → acc.length ≤ vs.length
  | 0, _, _, _, _, _, e => by rw [compN] at e; first | exact nn e | exact ff e | cases e
  | n + 1, it, acc, vs, H, H', e => by
    rw [compN] at e
    split at e
    · first | exact ff e | exact nn e | cases e
    · cases e; simp
    · split at e
      · first | exact ff e | exact nn e | cases e
      · obtain ⟨b, H1, e1, e⟩ := bnd_some e
        split at e
        · obtain ⟨r, H2, e2, e⟩ := bnd_some e
          have := compN_len e
          rw [List.length_cons] at this
          omega
        · exact compN_len e

/-- stores of a comprehension's own names -/
theorem flag_spec {i : Nat} (c : flagF sl i = true) : ∃ x, sl[i]? = some (some (x, false)) := by
  unfold flagF at c
  split at c
  · exact ⟨_, by assumption⟩
  · first | exact ff c | exact nn c | cases c
theorem set_flag {i : Nat} {v : V} {n : Str} {w : Value} {Q : Unit → Shared → Prop} (f : flagF sl i = true) (x : ER S as T env nm sl l s.heap) (hr : HR S as T H s.heap) (c : isLoc nm sl i n = true) (vr : VR S.fa as T v w)
    (q : ∀ h' tk, Ext (fun b => b = env.locals) as T s.heap as T h' → HR S as T H h' → ER S as T env nm sl (l.set i (some v)) h' → Q () { s with heap := h', toks := tk }) : wpAny (model S.prog S.w) A (storeName env n w) Q E s := by
  refine store_gen (X := fun b => b = env.locals) rfl (fun c e _ => ?_) x hr c vr q
  obtain ⟨y, hy⟩ := flag_spec f
  rw [hy] at e; first | exact nn e | exact ff e | cases e
theorem sets_flag : ∀ {is : List Nat} {vs : List V} {l l' : Lo}, setMany is vs l = some l' → ∀ ⦃xs : List Expr⦄ ⦃ws : List Value⦄ ⦃s : Shared⦄ ⦃E : Value → Shared → Prop⦄ ⦃Q : Unit → Shared → Prop⦄, is.all (flagF sl) = true → ctGo nm sl is xs = true → ER S as T env nm sl l s.heap → HR S as T H s.heap → VRs S.fa as T vs ws →
    (∀ h' tk, Ext (fun b => b = env.locals) as T s.heap as T h' → HR S as T H h' → ER S as T env nm sl l' h' → Q () { s with heap := h', toks := tk }) → wpAny (model S.prog S.w) A (assignInOrder ((assignEach xs env).map (·.2)) ws) Q E s
  | [], [], _, _, e => by
    intro xs ws s E Q _ c er hr vr q
    rw [setMany] at e; first | exact nn e | exact ff e | cases e
    cases vr
    cases go_nil c
    exact wpAny_pure (q s.heap s.toks (.refl ..) hr er)
  | [], _ :: _, _, _, e => by simp [setMany] at e
  | _ :: _, [], _, _, e => by simp [setMany] at e
  | i :: is, v :: vs, l, l', e => by
    intro xs ws s E Q f c er hr vr q
    rw [setMany] at e
    cases vr with
    | @cons v0 w1 l0 ws1 v1 v2 =>
      obtain ⟨n, p, xs, rfl, c1, c2⟩ := go_cons c
      obtain ⟨f1, f2⟩ := and2 (a := flagF sl i) (b := is.all (flagF sl)) f
      show wpAny _ A (do holding ws1 (assign (.Name n p) env w1); assignInOrder ((assignEach xs env).map (·.2)) ws1) Q E s
      refine wpAny_bind (wpAny_holding (assign_Name (set_flag f1 er hr c1 v1 fun h1 tk1 x1 hr1 er1 => ?_)))
      exact sets_flag e f2 c2 er1 hr1 v2 fun h2 tk2 x2 hr2 er2 => q h2 tk2 (x1.trans x2) hr2 er2
theorem ct_flag {t : CT} {v : V} {l' : Lo} {x : Expr} {w : Value} {Q : Unit → Shared → Prop} (e : setCT t v l = some l') (f : ctIn sl t = true) (c : ctIs nm sl t x = true) (hh : A.handled = none) (er : ER S as T env nm sl l s.heap) (hr : HR S as T H s.heap) (vr : VR S.fa as T v w)
    (q : ∀ h' tk, Ext (fun b => b = env.locals) as T s.heap as T h' → HR S as T H h' → ER S as T env nm sl l' h' → Q () { s with heap := h', toks := tk }) : wpAny (model S.prog S.w) A (assign x env w) Q E s := by
  cases t with
  | one i =>
    obtain ⟨n, p, rfl, c⟩ := ct_one c
    cases e
    exact assign_Name (set_flag f er hr c vr q)
  | many is =>
    obtain ⟨xs, kk, pos, rfl, c⟩ := ct_many c
    cases v with
    | tup vs =>
      obtain ⟨c1, c2⟩ := chTs_each (G := S.G) (env := env) (ct_go_ch c)
      refine wpAny_bind (wpAny_standAt ?_)
      unfold unpack
      rw [c2]
      refine wpAny_bind (wpAny_holding (unpk_ok (H := H) (v := .tup vs) (vs := vs) rfl ?_ hh hr vr fun ws h' vv kp => ?_))
      · rw [c1, List.length_map]
        have := asgTs_len (setMany_asg (ev := fun _ _ _ => none) (H := H) e)
        rw [List.length_map] at this
        exact this
      · have x0 : Ext Nil as T s.heap as T h' := .keep kp
        refine sets_flag e f c (er.ext x0) (hr.keep kp) vv fun h2 tk2 x2 hr2 er2 => q h2 tk2 ?_ hr2 er2
        exact (Ext.nil (X := fun b => b = env.locals) x0 (fun b hb => by rw [show b = env.locals from hb]; exact er.frame.1)).trans x2
    | _ => exact nn e
/-- the names outside are as before -/
theorem setMany_other {j : Nat} : ∀ {is : List Nat} {vs : List V} {l l' : Lo}, setMany is vs l = some l' → j ∉ is → l'[j]? = l[j]?
  | [], [], _, _, e, _ => by rw [setMany] at e; cases e; rfl
  | [], _ :: _, _, _, e, _ => by simp [setMany] at e
  | _ :: _, [], _, _, e, _ => by simp [setMany] at e
  | i :: is, v :: vs, _, _, e, h => by
    rw [setMany] at e
    rw [setMany_other e (fun q => h (.tail _ q)), List.getElem?_set_ne (fun q : i = j => h (by rw [← q]; exact .head _))]
theorem setCT_other {t : CT} {v : V} {l' : Lo} {j : Nat} {x : Str} (e : setCT t v l = some l') (f : ctIn sl t = true) (hj : sl[j]? = some (some (x, true))) : l'[j]? = l[j]? := by
  have no : ∀ i, flagF sl i = true → j ≠ i := fun i fi q => by
    obtain ⟨y, hy⟩ := flag_spec fi
    rw [← q, hj] at hy; cases hy
  unfold setCT at e
  split at e
  · first | exact ff e | exact nn e | cases e
    rw [List.getElem?_set_ne (Ne.symm (no _ f))]
  · split at e
    · refine setMany_other e fun q => ?_
      simp only [ctIn, List.all_eq_true] at f
      exact no _ (f _ q) rfl
    · first | exact ff e | exact nn e | cases e
theorem ER.back {l' : Lo} (x : ER S as T env nm sl l' h) (hl : l.length = sl.length) (h0 : ∀ (i : Nat) (v : V) (y : Str), l[i]? = some (some v) → sl[i]? = some (some (y, false)) → False) (h1 : ∀ (i : Nat) (y : Str), sl[i]? = some (some (y, true)) → l'[i]? = l[i]?) : ER S as T env nm sl l h := by
  obtain ⟨m, hn, hm⟩ := x.loc
  refine ⟨x.kind, x.glob, x.blt, x.names, x.dbg, hl, x.nd, ⟨m, hn, fun i v y e1 e2 => (h0 i v y e1 e2).elim⟩, fun i y e1 => ?_, x.cellx, x.cella, x.frame, x.cells⟩
  obtain ⟨c, w, g1, g2, g3⟩ := x.cell i y e1
  exact ⟨c, w, g1, g2, fun v hv => g3 v (by rw [h1 i y e1]; exact hv)⟩

/-- the frame of a comprehension -/
theorem own_names {sc : Scope} (hk : env.scope.kind = .function) : (relabel sc env).names = ownNm sc.names env.scope.names := by
  unfold relabel ownNm
  refine List.map_congr_left fun z _ => ?_
  obtain ⟨n, k⟩ := z
  show (if _ then _ else _) = (if _ then _ else _)
  have : (k == NameKind.free && env.scope.kind == .function && env.kindOf n == some .cell) = (kindIs k .free && (match nkOf n env.scope.names with | some k' => kindIs k' .cell | none => false)) := by
    rw [hk, nkOf_eq]
    unfold Env.kindOf
    cases k <;> simp [kindIs] <;> (cases hq : List.lookup n env.scope.names with
      | none => rfl
      | some k' => cases k' <;> rfl)
  rw [this]
  all_goals rfl
theorem frees_spec {nm : Nms} : ∀ {names : Nms}, frees names nm sl = true → ∀ {x : Str} {k : NameKind}, (x, k) ∈ names → k ≠ .cell ∧ (k = .free → nm.lookup x = some .cell ∧ ∃ i : Nat, sl[i]? = some (some (x, true)))
  | [], _, x, k, h => by simp at h
  | (y, j) :: r, c, x, k, h => by
    simp only [frees, Bool.and_eq_true] at c
    rcases List.mem_cons.mp h with e | e
    · first | exact ff e | exact nn e | cases e
      have := c.1
      cases j <;> simp only [Bool.false_eq_true, Bool.and_eq_true] at this
      · exact ⟨by decide, fun q => by cases q⟩
      · refine ⟨by decide, fun _ => ⟨?_, ?_⟩⟩
        · have h1 := this.1
          split at h1
          · rename_i k' hk
            rw [nkOf_eq] at hk
            rw [hk, kindIs_eq h1]
          · first | exact ff h1 | exact nn h1 | cases h1
        · obtain ⟨z, hz, hz2⟩ := List.any_eq_true.mp this.2
          obtain ⟨i, hi⟩ := List.getElem?_of_mem hz
          split at hz2
          · exact ⟨i, by rw [hi, beq_iff_eq.mp hz2]⟩
          · first | exact ff hz2 | exact nn hz2 | cases hz2
      · exact ⟨by decide, fun q => by cases q⟩
    · exact frees_spec c.2 e
theorem inner_mem : ∀ {nm : Nms} {i : Nat} {z : Option (Str × Bool)}, (innerSl nm)[i]? = some z → ∃ x, z = some (x, false) ∧ (x, NameKind.local) ∈ nm
  | [], i, z, e => by simp [innerSl] at e
  | (y, k) :: r, i, z, e => by
    unfold innerSl at e
    split at e
    · rename_i hc
      simp only [Bool.and_eq_true] at hc
      have hk := kindIs_eq hc.1
      subst hk
      cases i with
      | zero => simp at e; subst e; exact ⟨y, rfl, .head _⟩
      | succ i => obtain ⟨x, h1, h2⟩ := inner_mem (nm := r) (i := i) (z := z) (by simpa using e); exact ⟨x, h1, .tail _ h2⟩
    · obtain ⟨x, h1, h2⟩ := inner_mem e; exact ⟨x, h1, .tail _ h2⟩
theorem inner_nd : ∀ {nm : Nms}, (nm.map (·.1)).Nodup → ∀ {i j : Nat} {x : Str}, (innerSl nm)[i]? = some (some (x, false)) → (innerSl nm)[j]? = some (some (x, false)) → i = j
  | [], _, i, _, _, e, _ => by simp [innerSl] at e
  | (y, k) :: r, hn, i, j, x, e1, e2 => by
    obtain ⟨h1, h2⟩ := List.nodup_cons.mp hn
    have no : ∀ {i : Nat}, (innerSl r)[i]? = some (some (y, false)) → False := fun e => by
      obtain ⟨x, q, hm⟩ := inner_mem e
      cases q
      exact h1 (List.mem_map.mpr ⟨_, hm, rfl⟩)
    unfold innerSl at e1 e2
    split at e1
    · rename_i hc
      rw [if_pos hc] at e2
      cases i <;> cases j
      · rfl
      · simp at e1 e2; subst e1; exact (no e2).elim
      · simp at e1 e2; subst e2; exact (no e1).elim
      · rename_i i j
        exact congrArg (· + 1) (inner_nd h2 (i := i) (j := j) (x := x) (by simpa using e1) (by simpa using e2))
    · rename_i hc
      rw [if_neg hc] at e2
      exact inner_nd h2 e1 e2
theorem hide_spec {names : Nms} {i : Nat} {x : Str} {b : Bool} (e : (hideSl sl names)[i]? = some (some (x, b))) : b = true ∧ sl[i]? = some (some (x, true)) ∧ names.lookup x = some .free := by
  unfold hideSl at e
  rw [List.getElem?_map] at e
  obtain ⟨z, hz, e⟩ := Option.map_eq_some_iff.mp e
  split at e
  · rename_i y
    cases hq : nkOf y names with
    | none => rw [hq] at e; simp at e
    | some k =>
      rw [hq] at e
      cases hk : kindIs k .free with
      | false => simp [hk] at e
      | true => simp [hk] at e; obtain ⟨rfl, rfl⟩ := e; exact ⟨rfl, hz, by rw [← nkOf_eq, hq, kindIs_eq hk]⟩
  · first | exact ff e | exact nn e | cases e
theorem noDbg_own {names nm : Nms} (h : noDbg names = true) : noDbg (ownNm names nm) = true := by
  induction names with
  | nil => rfl
  | cons z r ih =>
    obtain ⟨n, k⟩ := z
    simp only [noDbg, Bool.and_eq_true] at h
    have this : ∀ (c : Prop) [Decidable c], ((if c then (n, NameKind.cell) else (n, k)) : Str × NameKind).fst = n := by intro c _; split <;> rfl
    show noDbg ((if _ then (n, NameKind.cell) else (n, k)) :: ownNm r nm) = true
    simp only [noDbg, this, h.1, Bool.true_and]
    exact ih h.2
theorem comp_frame {sc : Scope} {k : Nat} {C : Addr} {g : Str → Option Value} (er : ER S as T env nm sl l h) (kp : ∀ b o, h.get? b = some o → h'.get? b = some o) (hC : h.get? C = none) (hO : C ∉ owned as ∧ S.h0.get? C = none) (hns : h'.Ns C g) (hk : kindIs0 sc = true) (hf : frees sc.names nm sl = true)
    (hn : (sc.names.map (·.1)).Nodup) (hi : (innerSl sc.names).length = k) :
    ER S as T (compEnvC sc (clOf env.cells sc.names []) C env) (ownNm sc.names nm) (hideSl sl sc.names ++ innerSl sc.names) (l ++ List.replicate k none) h' := by
  simp only [kindIs0, Bool.and_eq_true] at hk
  obtain ⟨⟨⟨k1, k2⟩, k3⟩, k4⟩ := hk
  have kf : sc.kind = .function := by
    split at k2
    · rename_i e; exact e
    · first | exact ff k2 | exact nn k2 | cases k2
  have hsl : (hideSl sl sc.names).length = sl.length := by unfold hideSl; rw [List.length_map]
  have old : ∀ {x : Str} {c : Addr}, (clOf env.cells sc.names []).lookup x = some c → env.cells.lookup x = some c := fun e => by
    rcases clOf_old e with q | q
    · exact q
    · simp at q
  have un : ∀ {x : Str} {i : Nat} {z : Option (Str × Bool)}, sc.names.lookup x = some .free → (innerSl sc.names)[i]? = some z → z = some (x, false) → False := fun h1 h2 h3 => by
    obtain ⟨y, q, hm⟩ := inner_mem h2
    rw [h3] at q; first | exact nn q | exact ff q | cases q
    rw [nd_lookup hn hm] at h1; cases h1
  have li : ∀ {i : Nat}, i < sl.length → (l ++ List.replicate k (none : Option V))[i]? = l[i]? := fun hi' => List.getElem?_append_left (by rw [er.len]; exact hi')
  refine ⟨kf, er.glob, er.blt, ?_, noDbg_own k1, ?_, fun i j y b c e1 e2 => ?_, ⟨g, hns, fun i v y e1 e2 => ?_⟩, fun i y e1 => ?_, fun y z c e1 e2 => er.cellx y z c (old e1) (old e2), fun y c e1 => ?_, hO, fun y c e1 => er.cells y c (old e1)⟩
  · show (relabel sc env).names = _
    rw [own_names er.kind, er.names]
  · rw [List.length_append, List.length_append, List.length_replicate, hsl, hi, er.len]
  · by_cases hi1 : i < sl.length
    · rw [List.getElem?_append_left (by rw [hsl]; exact hi1)] at e1
      obtain ⟨rfl, f1, f2⟩ := hide_spec e1
      by_cases hj1 : j < sl.length
      · rw [List.getElem?_append_left (by rw [hsl]; exact hj1)] at e2
        obtain ⟨rfl, g1, g2⟩ := hide_spec e2
        exact er.nd i j y true true f1 g1
      · rw [List.getElem?_append_right (by rw [hsl]; omega)] at e2
        obtain ⟨z, q, _⟩ := inner_mem e2
        cases q
        exact (un f2 e2 rfl).elim
    · rw [List.getElem?_append_right (by rw [hsl]; omega)] at e1
      obtain ⟨z, q, _⟩ := inner_mem e1
      cases q
      by_cases hj1 : j < sl.length
      · rw [List.getElem?_append_left (by rw [hsl]; exact hj1)] at e2
        obtain ⟨rfl, g1, g2⟩ := hide_spec e2
        exact (un g2 e1 rfl).elim
      · rw [List.getElem?_append_right (by rw [hsl]; omega)] at e2
        obtain ⟨z, q, _⟩ := inner_mem e2
        cases q
        have := inner_nd hn e1 e2
        rw [hsl] at this
        omega
  · by_cases hi1 : i < sl.length
    · rw [List.getElem?_append_left (by rw [hsl]; exact hi1)] at e2
      obtain ⟨q, _⟩ := hide_spec e2
      cases q
    · rw [List.getElem?_append_right (by rw [er.len]; omega), List.getElem?_replicate] at e1
      split at e1 <;> cases e1
  · by_cases hi1 : i < sl.length
    · rw [List.getElem?_append_left (by rw [hsl]; exact hi1)] at e1
      obtain ⟨_, f1, f2⟩ := hide_spec e1
      obtain ⟨c, w, g1, g2, g3⟩ := er.cell i y f1
      refine ⟨c, w, clOf_free (mem_of_lookup f2) g1, cell_keep g2 fun o => kp _ o, fun v hv => g3 v (by rw [← li hi1]; exact hv)⟩
    · rw [List.getElem?_append_right (by rw [hsl]; omega)] at e1
      obtain ⟨z, q, _⟩ := inner_mem e1
      cases q
  · obtain ⟨w, hw⟩ := er.cella y c (old e1)
    exact ⟨w, cell_keep hw fun o => kp _ o⟩
end
end Mine

namespace Mine
section
variable {S : Sur} {call : CallT} {d : Nat} {as as' : As} {T T' : TS} {H H' : Hp} {h h' : Heap} {s : Shared} {env : Env} {nm : Nms} {sl : Sl} {l : Lo} {A : Around} {E : Value → Shared → Prop}

theorem none_big {h : Heap} {a : Addr} (ha : h.objs.size ≤ a) : h.get? a = none := by
  cases e : h.get? a with
  | none => rfl
  | some o => exact absurd (Heap.lt_size e) (Nat.not_lt.mpr ha)
theorem HR.fresh (hr : HR S as T H h) {b : Addr} (hb : h.get? b = none) : b ∉ owned as ∧ S.h0.get? b = none := by
  refine ⟨fun q => ?_, ?_⟩
  · obtain ⟨o, ho⟩ := hr.alive q; rw [hb] at ho; cases ho
  · cases e : S.h0.get? b with
    | none => rfl
    | some o => have := hr.base b o e; rw [hb] at this; cases this
theorem HR.noT_own (hr : HR S as T H h) {a : Addr} {ws : List Value} {k : Nat} (e : h.get? a = some (lst ws k)) (h0 : S.h0.get? a = none) (i : Im) : ¬ T a i := fun t => by
  have := hr.im a i t
  cases i with
  | tup us => obtain ⟨o', e', c, _⟩ := this; rw [e] at e'; cases e'; simp [lst] at c
  | ro us => obtain ⟨o, q⟩ := hr.ro a us t; rw [h0] at q; cases q
  | rng i j l => obtain ⟨t, u, v, e'⟩ := this; have e2 := e.symm.trans e'; simp [lst] at e2
theorem Ext.adopt {as as1 : As} {T T1 : TS} {h h1 : Heap} {D : Addr} (x : Ext Nil as T h as1 T1 h1) (hD : h.get? D = none) : Ext Nil as T h (as1 ++ [(D, none)]) T1 h1 := by
  refine ⟨⟨fun n p e => getElem?_append_some (x.mono.asx n p e), x.mono.tx⟩, x.kp, x.al, fun b hb => ?_⟩
  rw [owned_append] at hb
  rcases List.mem_append.mp hb with q | q
  · exact x.own b q
  · simp [owned] at q; subst q; exact .inr hD

theorem compN_inv {cs : Lo → Hp → Option (Bool × Hp)} {x : Lo → Hp → Option (V × Hp)} {t : CT} {n : Nat} {it : It} {acc : List V} {r : List V × Hp} (e : compN cs x t l (n + 1) it acc H = some r) : (nextI H it = some none ∧ (acc.reverse, H) = r) ∨
    ∃ v it' l1 b H1, nextI H it = some (some (v, it')) ∧ setCT t v l = some l1 ∧ cs l1 H = some (b, H1) ∧ ((b = true ∧ ∃ w H2, x l1 H1 = some (w, H2) ∧ compN cs x t l n it' (w :: acc) H2 = some r) ∨ (b = false ∧ compN cs x t l n it' acc H1 = some r)) := by
  rw [compN] at e
  cases hn : nextI H it with
  | none => rw [hn] at e; cases e
  | some z => cases z with
    | none => rw [hn] at e; exact .inl ⟨rfl, Option.some.inj e⟩
    | some z =>
      obtain ⟨v, it'⟩ := z
      rw [hn] at e
      dsimp only at e
      cases hs : setCT t v l with
      | none => rw [hs] at e; cases e
      | some l1 =>
        rw [hs] at e
        obtain ⟨b, H1, e1, e⟩ := bnd_some e
        refine .inr ⟨v, it', l1, b, H1, rfl, hs, e1, ?_⟩
        cases b with
        | true => obtain ⟨w, H2, e2, e3⟩ := bnd_some e; exact .inl ⟨rfl, w, H2, e2, e3⟩
        | false => exact .inr ⟨rfl, e⟩
theorem comp_turns {elt : ME} {t : CT} {cs : List ME} (helt : EvS S call d elt) (hcs : AllEv S call d cs) {x tg it0 : Expr} {ifs : List Expr} {sc : Scope} {pos : Pos} {I D : Addr} {as1 : As} {T1 : TS} {h1 : Heap} {R : Result → Shared → Prop} {vs : List V} {n : Nat} {itr : It} {H2 : Hp} (ao : AOk A d)
    (c3 : ctIn sl t = true) (c4 : ctIs nm sl t tg = true) (c5 : chL S.G cs nm sl ifs = true) (c6 : chE S.G elt nm sl x = true) (hlim : vs.length ≤ lim) (hI : h1.get? I = none) (hD1 : h1.get? D = none) (hC1 : h1.get? env.locals = none) (ID : I ≠ D) (IC : I ≠ env.locals) (bigD : sysModules < D)
    (hl0 : ∀ (i : Nat) (v : V) (y : Str), l[i]? = some (some v) → sl[i]? = some (some (y, false)) → False) (x14 : Ext Nil as1 T1 h1 as T s.heap) (hr : HR S as T H s.heap) (er : ER S as T env nm sl l s.heap) (ir : IR S as T s.heap itr I) (fI : Free S as env I) (D4 : s.heap.get? D = some (lst [] 0)) (fD : Free S as env D)
    (e2 : compN (fun l H => evC S.P call cs l H) (fun l H => evE S.P call elt l H) t l n itr [] H = some (vs, H2))
    (q : ∀ h5 tk asN TN m, h5.Ns env.locals m → Ext Nil as1 T1 h1 asN TN h5 → HR S (asN ++ [(D, none)]) TN (H2 ++ [.list vs]) h5 → VR S.fa (asN ++ [(D, none)]) TN (.loc H2.length) (.ref D) → env.locals ∉ owned asN → R (.ok .next) { s with heap := h5, toks := tk }) :
    codeAny (model S.prog S.w) A (.compLoop (.ListComp x [⟨tg, it0, ifs, 0⟩] sc pos) 0 (.ref I) (.ref D) env) R s := by
  obtain ⟨J, mk, un⟩ : ∃ J : Nat → Shared → Prop, (∀ n hN tkN asN TN HN itN acc ws kN, Ext Nil as1 T1 h1 asN TN hN → HR S asN TN HN hN → ER S asN TN env nm sl l hN → IR S asN TN hN itN I → Free S asN env I → hN.get? D = some (lst ws kN) → VRs S.fa asN TN acc.reverse ws → Free S asN env D →
        compN (fun l H => evC S.P call cs l H) (fun l H => evE S.P call elt l H) t l n itN acc HN = some (vs, H2) → J n { s with heap := hN, toks := tkN }) ∧
      ∀ n s', J n s' → ∃ hN tkN asN TN HN itN acc ws kN, s' = { s with heap := hN, toks := tkN } ∧ Ext Nil as1 T1 h1 asN TN hN ∧ HR S asN TN HN hN ∧ ER S asN TN env nm sl l hN ∧ IR S asN TN hN itN I ∧ Free S asN env I ∧ hN.get? D = some (lst ws kN) ∧ VRs S.fa asN TN acc.reverse ws ∧ Free S asN env D ∧
        compN (fun l H => evC S.P call cs l H) (fun l H => evE S.P call elt l H) t l n itN acc HN = some (vs, H2) :=
    ⟨_, fun n hN tkN asN TN HN itN acc ws kN a b c d e f g h i => ⟨hN, tkN, asN, TN, HN, itN, acc, ws, kN, rfl, a, b, c, d, e, f, g, h, i⟩, fun _ _ h => h⟩
  have hlen0 := er.len
  refine loop_tests J (fun n s' hI' => ?_) n (mk n s.heap s.toks as T H itr [] [] 0 x14 hr er ir fI D4 .nil fD e2)
  obtain ⟨hN, tkN, asN, TN, HN, itN, acc, ws, kN, rfl, xN, hrN, erN, irN, fIN, DN, vN, fDN, eN⟩ := un _ _ hI'
  clear un hI' e2 D4 fI fD ir er hr x14
  generalize notedBy (model S.prog S.w) A env (fun e s' => R (.error e) s') = E1
  cases n with
  | zero => rw [compN] at eN; cases eN
  | succ n =>
    rcases compN_inv eN with ⟨hnx, eN⟩ | ⟨u, it', l5, b, H7, hnx, e5, e7, eN⟩
    · cases eN
      refine next_ok hnx irN fIN.own hrN ao.handled fun h5 k5 => ?_
      have hr5 := hrN.iter irN fIN k5
      have D5 := k5 _ _ (Ne.symm ID) DN
      obtain ⟨hr6, vr6⟩ := hr5.adopt D5 fDN.own fDN.old bigD vN (by simpa using hlim)
      obtain ⟨m, hm, _⟩ := erN.loc
      exact q h5 _ asN TN m (ns_keep hm fun o => k5 _ o (Ne.symm IC)) (xN.off k5 hI (fun z => z)) hr6 vr6 erN.frame.1
    · refine next_ok hnx irN fIN.own hrN ao.handled fun wu h5 tk5 k5 ir5 ru => own_go ir5 ?_
      have hr5 := hrN.iter irN fIN k5
      have er5 := erN.but fIN k5
      have x5 := xN.off k5 hI (fun z => z)
      have D5 := k5 _ _ (Ne.symm ID) DN
      refine ct_flag e5 c3 c4 ao.handled er5 hr5 ru fun h6 tk6 x6 hr6 er6 => ?_
      have x16 : Ext Nil as1 T1 h1 asN TN h6 := x5.close x6 fun b hb => by rw [show b = env.locals from hb]; exact hC1
      have D6 := x6.kp _ _ fDN.own (fun z => fDN.loc z) D5
      have ir6 := ir5.ext x6 fIN.own (fun z => fIN.loc z)
      refine tests_ok hcs e7 ao c5 er6 hr6 fun h7 tk7 as7 T7 x7 hr7 => ?_
      have er7 := er6.ext x7
      have x17 := x16.trans x7
      have D7 := x7.kp _ _ fDN.own (fun z => z) D6
      obtain ⟨oI6, hoI6, _⟩ := ir6.alive
      have fI7 := fIN.ext x7 hoI6
      have fD7 := fDN.ext x7 D6
      have ir7 := ir6.ext x7 fIN.own (fun z => z)
      rcases eN with ⟨rfl, r, H8, e8, eN⟩ | ⟨rfl, eN⟩
      · rw [if_pos rfl]
        refine helt e8 ao c6 er7 hr7 fun wr h8 tk8 as8 T8 x8 hr8 rr => ?_
        have D8 := x8.kp _ _ fD7.own (fun z => z) D7
        have er8 := er7.ext x8
        obtain ⟨oI7, hoI7, _⟩ := ir7.alive
        have fI8 := fI7.ext x8 hoI7
        have fD8 := fD7.ext x8 D7
        have ir8 := ir7.ext x8 fI7.own (fun z => z)
        have v8 : VRs S.fa as8 T8 acc.reverse ws := (vN.mono x7.mono).mono x8.mono
        have hlen : ws.length ≤ lim := by
          have := compN_len eN
          rw [List.length_cons] at this
          have h2 := v8.length
          rw [List.length_reverse] at h2
          omega
        refine append_at (its := ws.toArray) (n := kN) D8 (fun h9 sb9 e9 => ?_) (by rw [List.size_toArray]; exact lim_size hlen)
        have k9 : ∀ b o, b ≠ D → h8.get? b = some o → h9.get? b = some o := fun b o nb e => (sb9.2 b nb).trans e
        refine ⟨n, Nat.lt_succ_self n, mk n h9 _ as8 T8 H8 it' (r :: acc) (ws ++ [wr]) (kN + 1) ((x17.trans x8).off k9 hD1 (fun z => z)) (hr8.but k9 fD8.own fD8.old (hr8.noT_own D8 fD8.old)) ?_ (ir8.keep (.refl ..) fun o => k9 _ o ID) fI8 (by rw [e9]; simp [lst]) ?_ fD8 eN⟩
        · exact (er8.but fD8 k9).back hlen0 hl0 fun i y hy => setCT_other e5 c3 hy
        · rw [List.reverse_cons]; exact v8.append (.cons rr .nil)
      · rw [if_neg Bool.false_ne_true]
        exact ⟨n, Nat.lt_succ_self n, mk n h7 _ as7 T7 H7 it' acc ws kN x17 hr7 (er7.back hlen0 hl0 fun i y hy => setCT_other e5 c3 hy) ir7 fI7 D7 (vN.mono x7.mono) fD7 eN⟩
theorem comp_gen {elt src : ME} {t : CT} {k : Nat} {cs : List ME} (hsrc : EvS S call d src) (helt : EvS S call d elt) (hcs : AllEv S call d cs) {v : V} (e : evE S.P call (.comp elt src t k cs) l H = some (v, H')) {x tg it : Expr} {ifs : List Expr} {sc : Scope} {pos p : Pos}
    {use : Option (Value → Sem Unit)} {Q : Value → Shared → Prop} (ao : AOk A d) (c : chE S.G (.comp elt src t k cs) nm sl (.ListComp x [⟨tg, it, ifs, 0⟩] sc pos) = true) (er : ER S as T env nm sl l s.heap) (hr : HR S as T H s.heap)
    (q : ∀ D C h' tk as' T' m, h'.Ns C m → Ext Nil as T s.heap as' T' h' → HR S as' T' H' h' → VR S.fa as' T' v (.ref D) → s.heap.get? C = none → C ∉ owned as' → compPost (model S.prog S.w) A E use Q (.ref D) C (.ok .next) { s with heap := h', toks := tk }) :
    wpAny (model S.prog S.w) A (comprehension (.ListComp x [⟨tg, it, ifs, 0⟩] sc pos) sc env p (newList []) false (eval it env) use) Q E s := by
  obtain ⟨sv, H1, itr, vs, H2, e1, hit, e2, hlim, rfl, rfl⟩ := ev_comp e
  obtain ⟨cs12, c0⟩ := and2 (a := notSet it && chE S.G src nm sl it) c
  obtain ⟨cs1, cs2⟩ := and2 cs12
  obtain ⟨d1, c8⟩ := and2 (b := frees sc.names nm sl) c0
  obtain ⟨d2, c7⟩ := and2 d1
  obtain ⟨d3, c6⟩ := and2 d2
  obtain ⟨d4, c5⟩ := and2 d3
  obtain ⟨c1, c2, c3, c4⟩ := and4 d4
  have hnd := ndStr_nodup c7
  have kf : sc.kind = .function := by
    have := c2
    simp only [kindIs0, Bool.and_eq_true] at this
    have := this.1.1.2
    split at this
    · rename_i e; exact e
    · cases this
  have hcl : closureFor sc env = pure (clOf env.cells sc.names []) := closure_ok fun y hy => by
    obtain ⟨_, i, hi⟩ := (frees_spec c8 hy).2 rfl
    obtain ⟨c, w, g1, _⟩ := er.cell i y hi
    rw [g1]; rfl
  refine wpAny_comprehension_free (use := use) rfl (set_folded cs1 env) hcl kf (fun y hy hl => by obtain ⟨y1, y2⟩ := y; cases hl; exact nd_lookup hnd hy) ?_
  refine hsrc e1 ao cs2 er hr fun w h1 tk1 as1 T1 x1 hr1 vr => ?_
  refine iter_ok hit hr1 vr fun I h2 hI kp2 ir2 => ?_
  have er1 := er.ext x1
  have nI := hr1.fresh hI
  have hr2 := hr1.keep kp2
  obtain ⟨oI, hoI, _⟩ := ir2.alive
  refine wpAny_newList ?_
  have low1 : ∀ {b}, h2.objs.size ≤ b → h1.get? b = none := fun {b} hb => by
    cases z : h1.get? b with
    | none => rfl
    | some o => exact absurd (Heap.lt_size (kp2 _ _ z)) (Nat.not_lt.mpr hb)
  refine wpAny_newFunctionEnv (fun y hy => (frees_spec c8 (x := y.1) (k := y.2) hy).1) (by intro y hy; simp at hy) (fun h4 hns4 hsb4 => ?_) kf
  dsimp only at hns4 hsb4 ⊢
  generalize hG : h2.push { cls := Value.type "list", dict := none, data := Data.seq ([] : List Value).toArray } = G2 at hns4 hsb4 ⊢
  have hC : G2.objs.size = h2.objs.size + 1 := by rw [← hG, Heap.size_push]
  have kpG : ∀ b o, h2.get? b = some o → G2.get? b = some o := fun b o e => hG ▸ keep_push _ b o e
  have kp4 : ∀ b o, b ≠ G2.objs.size → G2.get? b = some o → h4.get? b = some o := fun b o nb e => (hsb4.2 b nb).trans (keep_push _ b o e)
  have lt2 : ∀ {b o}, h2.get? b = some o → b ≠ G2.objs.size := fun e => by rw [hC]; exact Nat.ne_of_lt (Nat.lt_succ_of_lt (Heap.lt_size e))
  have kp24 : ∀ b o, h2.get? b = some o → h4.get? b = some o := fun b o e => kp4 b o (lt2 e) (kpG b o e)
  have dC : h2.objs.size ≠ G2.objs.size := by rw [hC]; omega
  have D4 : h4.get? h2.objs.size = some (lst [] 0) := kp4 _ _ dC (hG ▸ Heap.get?_push_size _ rfl)
  have hD1 : h1.get? h2.objs.size = none := low1 (Nat.le_refl _)
  have hC1 : h1.get? G2.objs.size = none := low1 (by rw [hC]; omega)
  have nD := hr1.fresh hD1
  have bigD : sysModules < h2.objs.size := by
    obtain ⟨o', ho'⟩ := hr2.two
    exact Nat.lt_trans (show sysModules < cStatics by decide) (Heap.lt_size (hr2.base _ _ ho'))
  have nC := hr1.fresh hC1
  have ID : I ≠ h2.objs.size := Nat.ne_of_lt (Heap.lt_size hoI)
  have IC : I ≠ G2.objs.size := lt2 hoI
  have er4 := comp_frame (k := k) er1 (h' := h4) (fun b o e => kp24 b o (kp2 b o e)) hC1 nC hns4 c2 c8 hnd (of_decide_eq_true c1)
  have cellsI : ∀ {b : Addr}, h1.get? b = none → ∀ y, (clOf env.cells sc.names []).lookup y ≠ some b := fun hb y q => by
    rcases clOf_old q with z | z
    · obtain ⟨w, hw⟩ := er1.cella y _ z
      obtain ⟨o, ho⟩ := cell_alive hw
      rw [hb] at ho; cases ho
    · simp at z
  have fI : Free S as1 (compEnvC sc (clOf env.cells sc.names []) G2.objs.size env) I := ⟨nI.1, nI.2, IC, cellsI hI⟩
  have fD : Free S as1 (compEnvC sc (clOf env.cells sc.names []) G2.objs.size env) h2.objs.size := ⟨nD.1, nD.2, dC, cellsI hD1⟩
  have ir4 : IR S as1 T1 h4 itr I := ir2.keep (.refl ..) fun o e => kp24 I o e
  have x14 : Ext Nil as1 T1 h1 as1 T1 h4 := .keep fun b o e => kp24 b o (kp2 b o e)
  have hl0 : ∀ (i : Nat) (v : V) (y : Str), (l ++ List.replicate k (none : Option V))[i]? = some (some v) → (hideSl sl sc.names ++ innerSl sc.names)[i]? = some (some (y, false)) → False := by
    intro i v y f1 f2
    have hsl : (hideSl sl sc.names).length = l.length := by unfold hideSl; rw [List.length_map, er.len]
    by_cases hi : i < l.length
    · rw [List.getElem?_append_left (by rw [hsl]; exact hi)] at f2
      obtain ⟨z, _⟩ := hide_spec f2
      cases z
    · rw [List.getElem?_append_right (by omega), List.getElem?_replicate] at f1
      split at f1 <;> cases f1
  have loop : ∀ tk, codeAny (model S.prog S.w) A (.compLoop (.ListComp x [⟨tg, it, ifs, 0⟩] sc pos) 0 (.ref I) (.ref h2.objs.size) (compEnvC sc (clOf env.cells sc.names []) G2.objs.size env)) (compPost (model S.prog S.w) A E use Q (.ref h2.objs.size) G2.objs.size) { s with heap := h4, toks := tk } := by
    intro tk
    refine comp_turns helt hcs ao c3 c4 c5 c6 hlim hI hD1 hC1 ID IC bigD hl0 x14 (hr2.keep kp24) er4 ir4 fI D4 fD e2 fun h5 tk5 asN TN m hm xN hr6 vr6 hO => ?_
    refine q _ _ h5 _ _ TN m hm (x1.trans (xN.adopt hD1)) hr6 vr6 (x1.dead hr1 hC1) ?_
    rw [owned_append]
    intro z
    rcases List.mem_append.mp z with z | z
    · exact hO z
    · simp [owned] at z; exact dC z.symm
  exact codeAny_compStart_list (loop _) (ir4.self (loop _))

theorem s_comp {elt src : ME} {t : CT} {k : Nat} {cs : List ME} (hsrc : EvS S call d src) (helt : EvS S call d elt) (hcs : AllEv S call d cs) : EvS S call d (.comp elt src t k cs) := by
  intro l H H' v e nm sl x s as T env A E Q ao c er hr q
  obtain ⟨y, tg, it, ifs, sc, pos, rfl⟩ := ch_comp c
  · rw [eval_ListComp]
    refine comp_gen hsrc helt hcs (use := none) e ao c er hr fun D C h' tk as' T' m hm x' hr' vr hC hO => ⟨m, hm, fun h'' sb => ?_⟩
    have kp : ∀ b o, b ≠ C → h'.get? b = some o → h''.get? b = some o := fun b o nb e => (sb.2 b nb).trans e
    have h0C := (hr.fresh hC).2
    exact q _ _ _ _ _ (x'.off kp hC (fun z => z)) (hr'.but kp hO h0C (noT_ns hr' hm)) vr
end
end Mine

namespace Mine
section
variable {S : Sur} {call : CallT} {d : Nat} {as as' : As} {T T' : TS} {H H' : Hp} {h h' : Heap} {s : Shared} {env : Env} {nm : Nms} {sl : Sl} {l : Lo} {A : Around} {E : Value → Shared → Prop}

theorem sw_true {n : Str} {py pos px : Pos} {x : Expr} {gens : List Comprehension} {sc : Scope} (er : ER S as T env nm sl l h)
    (c : (nm.lookup n == some .local && py.line == px.line && !(sc.names.any fun (z, k) => z == n && (k == .local || k == .cell))) = true) : swapsWith (.ListComp x gens sc px) (some (.Name n py)) pos.line env = pure true := by
  have hb : env.blockKind = .function := by unfold Env.blockKind; rw [er.kind]; rfl
  show (do return env.blockKind == .function && env.kindOf n == some .local && py.line == px.line && !(sc.names.any fun (z, k) => z == n && (k == .local || k == .cell)) : Sem Bool) = pure true
  have hk : env.kindOf n = nm.lookup n := by unfold Env.kindOf; rw [er.names]
  rw [hb, hk]
  have : (ScopeKind.function == ScopeKind.function) = true := rfl
  rw [this, Bool.true_and, c]

theorem asg_comp {i : Nat} {elt src : ME} {t : CT} {k : Nat} {cs : List ME} (hsrc : EvS S call d src) (helt : EvS S call d elt) (hcs : AllEv S call d cs) {l' : Lo} {fl : Fl} (e : exS S.P call (.asg (.loc i) (.comp elt src t k cs)) l H = some (fl, l', H')) {n : Str} {py pos px : Pos} {x : Expr} {gens : List Comprehension} {sc : Scope}
    {as : As} {T : TS} {Q : Flow → Shared → Prop} (ao : AOk A d) (c1 : isLoc nm sl i n = true) (c2 : chE S.G (.comp elt src t k cs) nm sl (.ListComp x gens sc px) = true)
    (c3 : (nm.lookup n == some .local && py.line == px.line && !(sc.names.any fun (z, k) => z == n && (k == .local || k == .cell))) = true) (er : ER S as T env nm sl l s.heap) (hr : HR S as T H s.heap) (q : RetS S as T s env nm sl fl l' H' Q) :
    wpAny (model S.prog S.w) A (exec (.Assign [.Name n py] (.ListComp x gens sc px) pos) env) Q E s := by
  obtain ⟨v, H1, l1, H2, e1, e2, e⟩ := ex_asg e
  cases e
  have e2 : some (l.set i (some v), H1) = some (l', H') := e2
  cases e2
  rw [exec_Assign_Name_used _ _ _ _ (sw_true er c3)]
  obtain ⟨y, tg, it, ifs, sc', pos', heq⟩ := ch_comp c2
  · cases heq
    refine wpAny_bind (wpAny_standAt (wpAny_bind ?_))
    show wpAny _ A (do let _ ← comprehension (.ListComp x [⟨tg, it, ifs, 0⟩] sc px) sc env _ (newList []) false (eval it env) (some (assign (.Name n py) env))) _ _ s
    refine wpAny_bind (wpAny_mono (comp_gen (E := E) hsrc helt hcs (use := some (assign (.Name n py) env)) (Q := fun _ s' => Q .next s') e1 ao c2 er hr fun D C h' tk as' T' m hm x' hr' vr hC hO => ?_) (fun _ s' hq => wpAny_pure (wpAny_pure hq)) fun _ _ e => e)
    have fC := er.fresh hr hC
    obtain ⟨oC, hoC⟩ := ns_alive hm
    have fC' : Free S as' env C := fC.ext x' (o := oC) |> fun _ => ⟨hO, fC.old, fC.loc, fC.cell⟩
    refine assign_Name (store_ok (er.ext x') hr' c1 vr fun h3 tk3 as3 T3 x3 hr3 er3 => ?_)
    have hm3 := ns_keep hm fun o e => x3.kp C o hO fC'.nex e
    refine ⟨m, hm3, fun h4 sb => ?_⟩
    have kp : ∀ b o, b ≠ C → h3.get? b = some o → h4.get? b = some o := fun b o nb e => (sb.2 b nb).trans e
    have f3 : Free S as3 env C := fC'.ext x3 hoC
    exact q _ _ _ _ _ (((x'.nil er.exo).trans x3).off kp hC fC.nex) (hr3.but kp f3.own f3.old (noT_ns hr3 hm3)) (er3.but f3 kp) .next
theorem st_asg {t : Tg} {e0 : ME} (ht : AsS S call d t) (h0 : EvS S call d e0) (hc : ∀ elt src ct k cs, e0 = .comp elt src ct k cs → EvS S call d src ∧ EvS S call d elt ∧ AllEv S call d cs) : StS S call d (.asg t e0) := by
  intro l l' H H' fl e nm sl x s as T env A E Q ao c er hr q
  obtain ⟨y, x, p, rfl, c1, c2, c3⟩ := cs_asg c
  cases hn : notComp x with
  | true =>
    have c3 : (bif notComp x then swOk nm sl t (swpQ nm y x) else cmpS nm y x t) = true := c3
    rw [hn] at c3
    exact asg_ok ht h0 e ao c1 c2 hn c3 er hr q
  | false =>
    have c3 : (bif notComp x then swOk nm sl t (swpQ nm y x) else cmpS nm y x t) = true := c3
    rw [hn] at c3
    have c3 : cmpS nm y x t = true := c3
    obtain ⟨n, py, elt0, gens, sc, px, i, rfl, rfl, rfl, c3⟩ := cmpS_inv c3
    cases e0 with
    | comp elt src ct k cs =>
      obtain ⟨g1, g2, g3⟩ := hc _ _ _ _ _ rfl
      exact asg_comp g1 g2 g3 e ao c1 c2 c3 er hr q
    | bad =>
      obtain ⟨_, _, _, _, e1, _⟩ := ex_asg e
      exact nn e1
    | _ => exact ff c2

theorem s_dict {es : List ME} (hA : AllEv S call d es) : EvS S call d (.dict es) := by
  intro l H H' v e nm sl x s as T env A E Q ao c er hr q
  obtain ⟨vs, H1, e1, rfl, rfl⟩ := ev_dict e
  obtain ⟨ks, us, p, rfl, c15, cD⟩ := ch_dict c
  ·
    cases es with
    | nil =>
      rw [evD] at e1; cases e1
      have c2 := cD
      obtain ⟨rfl, rfl⟩ := cD_nil c2
      · refine wpAny_Dict_empty ?_
        have kp := keep_push (h := s.heap) { cls := Value.type "dict", data := Data.dict #[] }
        have hd : (s.heap.push { cls := Value.type "dict", data := Data.dict #[] }).DictOf (strKind S.prog S.w) s.heap.objs.size [] := ⟨_, _, _, Heap.get?_push_size _ rfl, ⟨rfl, rfl, rfl⟩, rfl, by intro e he; simp at he, by first | exact .nil | simp | trivial, by simp⟩
        have m : Mono as T (as ++ [(s.heap.objs.size, none)]) T := ⟨fun n q e => getElem?_append_some e, fun _ _ e => e⟩
        have hr2 := hr.alloc (o := .dict []) (p := (s.heap.objs.size, none)) kp (by simp) (by simp) (.dict hd (by simp) .nil)
        refine q _ _ _ _ _ ⟨m, fun b o _ _ e => kp b o e, fun b hb _ => hb.elim, fun b hb => ?_⟩ hr2 (.loc (p := (s.heap.objs.size, none)) (by rw [List.getElem?_append_right (by rw [hr.len]; exact Nat.le_refl _), hr.len, Nat.sub_self]; rfl))
        rw [owned_append] at hb
        rcases List.mem_append.mp hb with z | z
        · exact .inl z
        · simp [owned] at z; subst z; exact .inr size_none
    | cons a r => rw [evD] at e1; cases e1

theorem t_of {e : ME} (h : EvS S call d e) (hp : ∀ {G : Str → Option GV} {nm : Nms} {sl : Sl} {x : Expr} {env : Env} {whole : Sem Value}, chE G e nm sl x = true → PySem.isTrue x env whole = (do let v ← whole; standAt x.pos; holding [v] (truthy v))) : TrS S call d e := by
  intro l H H' b e1 nm sl x s as T env A E Q ao c er hr q
  exact tr_of_ev (hp c) h e1 ao c er hr q
theorem l_all : ∀ {es : List ME}, AllEv S call d es → EvLS S call d es
  | [], _ => l_nil
  | _ :: _, h => l_cons h.1 (l_all h.2.2)
mutual
theorem ok_E (C : Cx S) (ca : CallOk S call d) : ∀ e : ME, EvS S call d e ∧ TrS S call d e
  | .bad => ⟨s_bad, fun e => nn e⟩
  | .lit v => ⟨s_lit, t_of s_lit fun c => by obtain ⟨_, _, _, rfl, _⟩ := ch_lit c; rfl⟩
  | .loc i => ⟨s_loc, t_of s_loc fun c => by obtain ⟨_, _, rfl, _⟩ := ch_loc c; rfl⟩
  | .glob v => ⟨s_glob C, t_of (s_glob C) fun c => by obtain ⟨_, _, rfl, _⟩ := ch_glob c; rfl⟩
  | .tup es => ⟨s_tup (l_all (ok_L C ca es)), t_of (s_tup (l_all (ok_L C ca es))) fun c => by obtain ⟨_, _, _, rfl, _⟩ := ch_tup c; rfl⟩
  | .lst es => ⟨s_lst (l_all (ok_L C ca es)), t_of (s_lst (l_all (ok_L C ca es))) fun c => by obtain ⟨_, _, rfl, _⟩ := ch_lst c; rfl⟩
  | .dict es => ⟨s_dict (ok_L C ca es), t_of (s_dict (ok_L C ca es)) fun c => by obtain ⟨_, _, _, rfl, _⟩ := ch_dict c; rfl⟩
  | .attr e a => ⟨s_attr C (ok_E C ca e).1, t_of (s_attr C (ok_E C ca e).1) fun c => by obtain ⟨_, _, rfl, _⟩ := ch_attr c; rfl⟩
  | .idx e i => ⟨s_idx (ok_E C ca e).1 (ok_E C ca i).1, t_of (s_idx (ok_E C ca e).1 (ok_E C ca i).1) fun c => by obtain ⟨_, _, _, rfl, _⟩ := ch_idx c; rfl⟩
  | .slice e lo hi st => ⟨s_slice (ok_E C ca e).1 (ok_E C ca lo).1 (ok_E C ca hi).1 (ok_E C ca st).1, t_of (s_slice (ok_E C ca e).1 (ok_E C ca lo).1 (ok_E C ca hi).1 (ok_E C ca st).1) fun c => by obtain ⟨_, _, _, _, _, _, rfl, _⟩ := ch_slice c; rfl⟩
  | .bin op a b => ⟨s_bin (ok_E C ca a).1 (ok_E C ca b).1, t_of (s_bin (ok_E C ca a).1 (ok_E C ca b).1) fun c => by obtain ⟨_, _, _, _, rfl, _⟩ := ch_bin c; rfl⟩
  | .neg a => ⟨s_neg (ok_E C ca a).1, t_of (s_neg (ok_E C ca a).1) fun c => by obtain ⟨_, _, rfl, _⟩ := ch_neg c; rfl⟩
  | .not a => ⟨s_not (ok_E C ca a).1, t_not (ok_E C ca a).2⟩
  | .cmp op a b => ⟨s_cmp (ok_E C ca a).1 (ok_E C ca b).1, t_cmp (ok_E C ca a).1 (ok_E C ca b).1⟩
  | .and es => ⟨s_and (ok_L C ca es), t_and (ok_L C ca es)⟩
  | .or es => ⟨s_or (ok_L C ca es), t_or (ok_L C ca es)⟩
  | .ife t a b => ⟨s_ife (ok_E C ca t).2 (ok_E C ca a).1 (ok_E C ca b).1, t_ife (ok_E C ca t).2 (ok_E C ca a).2 (ok_E C ca b).2⟩
  | .call f es => ⟨s_call C ca (ok_E C ca f).1 (l_all (ok_L C ca es)), t_of (s_call C ca (ok_E C ca f).1 (l_all (ok_L C ca es))) fun c => by obtain ⟨_, _, _, _, rfl, _⟩ := ch_call c; rfl⟩
  | .new k es => ⟨s_new C ca (l_all (ok_L C ca es)), t_of (s_new C ca (l_all (ok_L C ca es))) fun c => by obtain ⟨_, _, _, _, rfl, _⟩ := ch_new c; rfl⟩
  | .meth o m es => ⟨s_meth C ca (ok_E C ca o).1 (l_all (ok_L C ca es)), t_of (s_meth C ca (ok_E C ca o).1 (l_all (ok_L C ca es))) fun c => by obtain ⟨_, _, _, _, rfl, _⟩ := ch_meth c; rfl⟩
  | .bmeth o m es => ⟨s_bmeth (ok_E C ca o).1 (l_all (ok_L C ca es)), t_of (s_bmeth (ok_E C ca o).1 (l_all (ok_L C ca es))) fun c => by obtain ⟨_, _, _, _, rfl, _⟩ := ch_bmeth c; rfl⟩
  | .prim p es => ⟨s_prim C (l_all (ok_L C ca es)), t_of (s_prim C (l_all (ok_L C ca es))) fun c => by obtain ⟨_, _, _, rfl, _⟩ := ch_prim c; rfl⟩
  | .isin e k => ⟨s_isin C (ok_E C ca e).1, t_of (s_isin C (ok_E C ca e).1) fun c => by obtain ⟨_, _, _, _, _, _, rfl, _⟩ := ch_isin c; rfl⟩
  | .comp elt src t k cs => ⟨s_comp (ok_E C ca src).1 (ok_E C ca elt).1 (ok_L C ca cs), t_of (s_comp (ok_E C ca src).1 (ok_E C ca elt).1 (ok_L C ca cs)) fun c => by obtain ⟨_, _, _, _, _, _, rfl⟩ := ch_comp c; rfl⟩
theorem ok_L (C : Cx S) (ca : CallOk S call d) : ∀ es : List ME, AllEv S call d es
  | [] => trivial
  | e :: r => ⟨(ok_E C ca e).1, (ok_E C ca e).2, ok_L C ca r⟩
end
mutual
theorem ok_T (C : Cx S) (ca : CallOk S call d) : ∀ t : Tg, AsS S call d t
  | .loc i => a_loc
  | .attr o a => a_attr C (ok_E C ca o).1
  | .idx o i => a_idx (ok_E C ca o).1 (ok_E C ca i).1
  | .tup ts => a_tup (ok_Ts C ca ts)
theorem ok_Ts (C : Cx S) (ca : CallOk S call d) : ∀ ts : List Tg, AsLS S call d ts
  | [] => a_nil
  | t :: r => a_cons (ok_T C ca t) (ok_Ts C ca r)
end
mutual
theorem ok_S (C : Cx S) (ca : CallOk S call d) : ∀ st : MS, StS S call d st
  | .bad => t_bad
  | .expr e => t_expr (ok_E C ca e).1
  | .ret e => t_ret (ok_E C ca e).1
  | .asg t e => st_asg (ok_T C ca t) (ok_E C ca e).1 fun elt src ct k cs _ => ⟨(ok_E C ca src).1, (ok_E C ca elt).1, ok_L C ca cs⟩
  | .auga o a op e => t_auga C (ok_E C ca o).1 (ok_E C ca e).1
  | .ife t b o => st_ife (ok_E C ca t).2 (ok_B C ca b) (ok_B C ca o)
  | .whl t b => st_whl (ok_E C ca t).2 (ok_B C ca b)
  | .for t e b => st_for (ok_E C ca e).1 (ok_B C ca b)
  | .brk => t_brk
  | .cont => t_cont
theorem ok_B (C : Cx S) (ca : CallOk S call d) : ∀ b : List MS, BkS S call d b
  | [] => b_nil
  | st :: r => b_cons (ok_S C ca st) (ok_B C ca r)
end
/-- what the small machine computes, the text computes -/
theorem sound (C : Cx S) (d : Nat) : CallOk S (callF S.P d) d := call_ok C (fun _ ca b => ok_B C ca b) d
end
end Mine

namespace Mine

/-! The surroundings, checked by figures. -/
noncomputable def tupIn (K : Frag) (a : Addr) : Option (List Value) := match K.lookup a with
  | some o => (match o.cls with
    | .type n => (match o.data with | .seq us _ => bif n == "tuple" then some us.toList else none | _ => none)
    | _ => none)
  | none => none
theorem tupIn_some {K : Frag} {a : Addr} {us : List Value} (h : tupIn K a = some us) : ∃ d n sl, K.lookup a = some ⟨.type "tuple", d, .seq us.toArray n, sl⟩ := by
  unfold tupIn at h
  cases hk : K.lookup a with
  | none => rw [hk] at h; exact nn h
  | some o =>
    rw [hk] at h
    obtain ⟨c, d, da, sl⟩ := o
    dsimp only at h
    cases c with
    | type n => cases da with
      | seq us' k =>
        have h : (bif n == "tuple" then some us'.toList else none) = some us := h
        cases hn : n == "tuple" with
        | false => rw [hn] at h; exact nn h
        | true => rw [hn] at h; cases h; cases beq_iff_eq.mp hn; exact ⟨d, k, sl, rfl⟩
      | _ => exact nn h
    | _ => exact nn h
mutual
noncomputable def valOk (K : Frag) : V → Value → Bool
  | .none, u => (match u with | .none => true | _ => false)
  | .bool b, u => (match u with | .bool c => b == c | _ => false)
  | .int i, u => (match u with | .int j _ => i == j | _ => false)
  | .str s, u => (match u with | .str x _ => s == x.cps.toList && decide (s.length ≤ 1000) | _ => false)
  | .tup l, u => (match u with
    | .ref a => (match tupIn K a with | some us => decide (l.length ≤ 1000) && valsOk K l us | none => false)
    | _ => false)
  | _, _ => false
noncomputable def valsOk (K : Frag) : List V → List Value → Bool
  | [], us => us.isEmpty
  | v :: r, us => (match us with | u :: t => valOk K v u && valsOk K r t | [] => false)
end
noncomputable def isMissing (r : Option (Option Value)) : Bool := match r with | some none => true | _ => false
noncomputable def isRef (r : Option (Option Value)) (a : Nat) : Bool := match r with | some (some (.ref b)) => b == a | _ => false
noncomputable def glOk (K : Frag) (fa ca : List Nat) (x : Str) (g : GV) : Bool := match g with
  | .fn k => (match fa[k]? with | some a => isRef (nsIn K mainGlobals x) a | none => false)
  | .val v => (match nsIn K mainGlobals x with | some (some u) => valOk K v u | _ => false)
  | .cls c => (match ca[c]? with | some a => isRef (nsIn K mainGlobals x) a && x == CLSN.getD c Str.empty | none => false)
  | .pr _ => isMissing (nsIn K mainGlobals x)
  | .isi => isMissing (nsIn K mainGlobals x) && x == Str.ofString "isinstance"
  | .typ _ => isMissing (nsIn K mainGlobals x)
noncomputable def lookG (x : Str) : List (Str × GV) → Option GV
  | [] => none
  | (y, g) :: r => if x == y then some g else lookG x r
theorem lookG_mem {x : Str} {g : GV} : ∀ {gl : List (Str × GV)}, lookG x gl = some g → (x, g) ∈ gl
  | (y, h) :: r, e => by
    rw [lookG] at e
    split at e
    · rename_i hb; cases e; rw [beq_iff_eq.mp hb]; exact .head _
    · exact .tail _ (lookG_mem e)
noncomputable def isFnv (K : Frag) (r : Option (Option Value)) (fa : List Nat) (k : Nat) : Bool := match fa[k]? with
  | some a => isRef r a && (match typeIn K (.ref a) with | some t => t == .type "function" | none => false)
  | none => false
noncomputable def isB (r : Option (Option Value)) (id : String) : Bool := match r with | some (some (.builtin i)) => i == id | _ => false
noncomputable def isNone1 : Option (Option Addr) → Bool
  | some none => true
  | _ => false
noncomputable def clsOk (K : Frag) (fa : List Nat) (C : Nat) (ci : CI) : Bool :=
  makesIn K C && isFnv K (findIn K (.ref C) "__init__") fa ci.init && isB (findIn K (.ref C) "__getattribute__") "object.__getattribute__" && isMissing (findIn K (.ref C) "__getattr__") && hasDictIn K C &&
  (List.range 22).all (fun i => (match findIn K (.ref C) (nmOf i) with | some at' => noGet K at' | none => false) && (match takerIn K C (nmOf i) with | some none => true | _ => false)) &&
  isB (findIn K (.ref C) "__setattr__") "object.__setattr__" && plainOver K C &&
  ci.meths.all (fun p => isFnv K (findIn K (.ref C) (mmOf p.1)) fa p.2 && (List.range 22).all fun i => !(nmOf i == mmOf p.1))
noncomputable def chkFns (G : Str → Option GV) (K : Frag) : List FI → List Nat → Bool
  | [], _ => true
  | fi :: r, a :: t => chK G K fi a && chkFns G K r t
  | _ :: _, [] => false
theorem chkFns_at {G : Str → Option GV} {K : Frag} : ∀ {fns : List FI} {fa : List Nat}, chkFns G K fns fa = true → ∀ (k : Nat) (fi : FI), fns[k]? = some fi → ∃ a : Nat, fa[k]? = some a ∧ chK G K fi a = true
  | [], _, _, k, fi, e => by simp at e
  | _ :: _, [], h, _, _, _ => by simp [chkFns] at h
  | fi :: r, a :: t, h, k, fi', e => by
    simp only [chkFns, Bool.and_eq_true] at h
    cases k with
    | zero => simp at e; subst e; exact ⟨a, rfl, h.1⟩
    | succ k => obtain ⟨b, h1, h2⟩ := chkFns_at h.2 k fi' (by simpa using e); exact ⟨b, by simpa using h1, h2⟩
/-- all but the functions' texts -/
noncomputable def surOk (K : Frag) (fa ca : List Nat) (gl : List (Str × GV)) (cls : List CI) : Bool :=
  gl.all (fun p => glOk K fa ca p.1 p.2) && fa.all (fun a => keepIn K (.ref a)) && ca.all (fun a => keepIn K (.ref a)) && kitAll K ca &&
  (List.range 5).all fun c => (match ca[c]?, cls[c]? with | some C, some ci => clsOk K fa C ci | _, _ => false)

/-- the tuples at hand, and the script -/
noncomputable def T0of (K : Frag) (p : Addr) (ws : List Value) : TS := fun a i => (a = p ∧ i = .ro ws) ∨ ∃ us d n sl, i = .tup us ∧ K.lookup a = some ⟨.type "tuple", d, .seq us.toArray n, sl⟩
mutual
theorem valOk_vr {fa : List Nat} {K : Frag} {p : Addr} {ws : List Value} : ∀ {v : V} {u : Value}, valOk K v u = true → VR fa [] (T0of K p ws) v u
  | .none, u, h => by cases u with
    | none => exact .none
    | _ => exact ff h
  | .bool b, u, h => by cases u with
    | bool c => rw [beq_iff_eq.mp h]; exact .bool _
    | _ => exact ff h
  | .int i, u, h => by cases u with
    | int c t => rw [beq_iff_eq.mp h]; exact .int _ _
    | _ => exact ff h
  | .str s, u, h => by cases u with
    | str x t =>
      obtain ⟨h1, h2⟩ := and2 (a := s == x.cps.toList) (b := decide (s.length ≤ 1000)) h
      have := beq_iff_eq.mp h1
      subst this
      exact .str x.cps.toList t (by have := of_decide_eq_true h2; unfold lim; omega)
    | _ => exact ff h
  | .tup l, u, h => by cases u with
    | ref a =>
      have h : (match tupIn K a with | some us => decide (l.length ≤ 1000) && valsOk K l us | none => false) = true := h
      cases hk : tupIn K a with
      | none => rw [hk] at h; exact ff h
      | some us =>
        rw [hk] at h
        obtain ⟨h1, h2⟩ := and2 (a := decide (l.length ≤ 1000)) (b := valsOk K l us) h
        obtain ⟨d, n, sl, hk⟩ := tupIn_some hk
        exact .tup (ws := us) (.inr ⟨us, d, n, sl, rfl, hk⟩) (by have := of_decide_eq_true h1; unfold lim; omega) (valsOk_vr h2)
    | _ => exact ff h
  | .loc n, u, h => ff h
  | .rng a b c, u, h => ff h
  | .fn k, u, h => ff h
  | .ro l, u, h => ff h
theorem valsOk_vr {fa : List Nat} {K : Frag} {p : Addr} {ws : List Value} : ∀ {l : List V} {us : List Value}, valsOk K l us = true → VRs fa [] (T0of K p ws) l us
  | [], us, h => by
    have := List.isEmpty_iff.mp (show us.isEmpty = true from h)
    subst this; exact .nil
  | v :: r, us, h => by
    cases us with
    | nil => exact ff h
    | cons u t =>
      obtain ⟨h1, h2⟩ := and2 (a := valOk K v u) (b := valsOk K r t) h
      exact .cons (valOk_vr h1) (valsOk_vr h2)
end

theorem isRef_eq {r : Option (Option Value)} {a : Nat} (h : isRef r a = true) : r = some (some (.ref a)) := by
  unfold isRef at h; split at h
  · rw [beq_iff_eq.mp h]
  · first | exact ff h | exact nn h | cases h
theorem isMissing_eq {r : Option (Option Value)} (h : isMissing r = true) : r = some none := by
  unfold isMissing at h; split at h
  · rfl
  · first | exact ff h | exact nn h | cases h
theorem isB_eq {r : Option (Option Value)} {id : String} (h : isB r id = true) : r = some (some (.builtin id)) := by
  unfold isB at h; split at h
  · rw [beq_iff_eq.mp h]
  · first | exact ff h | exact nn h | cases h
theorem isFnv_eq {K : Frag} {r : Option (Option Value)} {fa : List Nat} {k : Nat} (h : isFnv K r fa k = true) : ∃ a, fa[k]? = some a ∧ r = some (some (.ref a)) ∧ typeIn K (.ref a) = some (.type "function") := by
  unfold isFnv at h
  split at h
  · rename_i a ha
    simp only [Bool.and_eq_true] at h
    refine ⟨a, ha, isRef_eq h.1, ?_⟩
    have := h.2
    split at this
    · rename_i t ht; rw [ht, beq_iff_eq.mp this]
    · first | exact ff this | exact nn this | cases this
  · first | exact ff h | exact nn h | cases h

theorem lookN_mem {α : Type} {m : Nat} {v : α} : ∀ {l : List (Nat × α)}, lookN m l = some v → (m, v) ∈ l
  | (j, u) :: r, h => by
    rw [lookN] at h
    split at h
    · rename_i hb; cases h; rw [beq_iff_eq.mp hb]; exact .head _
    · exact .tail _ (lookN_mem h)
theorem cx_of {S : Sur} {gl : List (Str × GV)} {mg mb : Str → Option Value} {p : Addr} {ws : List Value} (hG : ∀ x, S.G x = lookG x gl) (hT : S.T0 = T0of S.K p ws) (X : S.K.In S.h0) (lm : S.h0.NoLimit) (g1 : S.h0.Ns mainGlobals mg) (g2 : S.h0.Ns builtinsNs mb)
    (g3 : ∀ x : Str, x ≠ "__name__" → mb x = bootBuiltins x) (c1 : surOk S.K S.fa S.ca gl S.P.cls = true) (c2 : chkFns S.G S.K S.P.fns S.fa = true) : Cx S := by
  unfold surOk at c1
  simp only [Bool.and_eq_true] at c1
  obtain ⟨⟨⟨⟨d1, d2⟩, d3⟩, d4⟩, d5⟩ := c1
  have gk : ∀ x g, S.G x = some g → glOk S.K S.fa S.ca x g = true := fun x g e => List.all_eq_true.mp d1 (x, g) (lookG_mem ((hG x).symm.trans e))
  refine ⟨X, lm, ⟨mg, mb, g1, g2, g3⟩, fun x k e => ?_, fun x v e => ?_, fun x c e => ?_, fun x q e => ?_, fun x e => ?_, fun x k e => ?_, chkFns_at c2, fun k a e => ?_, fun k a e => ?_, fun c C h5 e => ?_, d4⟩
  · have := gk x _ e
    simp only [glOk] at this
    split at this
    · rename_i a ha; exact ⟨a, ha, isRef_eq this⟩
    · first | exact ff this | exact nn this | cases this
  · have := gk x _ e
    unfold glOk at this
    simp only at this
    split at this
    · rename_i u hu; exact ⟨u, hu, hT ▸ valOk_vr this⟩
    · first | exact ff this | exact nn this | cases this
  · have := gk x _ e
    unfold glOk at this
    simp only at this
    split at this
    · rename_i a ha
      simp only [Bool.and_eq_true] at this
      exact ⟨a, ha, isRef_eq this.1, beq_iff_eq.mp this.2⟩
    · first | exact ff this | exact nn this | cases this
  · exact isMissing_eq (gk x _ e)
  · have := gk x _ e
    simp only [glOk, Bool.and_eq_true] at this
    exact ⟨isMissing_eq this.1, beq_iff_eq.mp this.2⟩
  · exact isMissing_eq (gk x _ e)
  · exact List.all_eq_true.mp d2 a (List.mem_of_getElem? e)
  · exact List.all_eq_true.mp d3 a (List.mem_of_getElem? e)
  · have := List.all_eq_true.mp d5 c (List.mem_range.mpr h5)
    rw [e] at this
    split at this
    · rename_i C' ci hC' hci
      cases hC'
      refine ⟨ci, hci, ?_⟩
      unfold clsOk at this
      simp only [Bool.and_eq_true] at this
      obtain ⟨⟨⟨⟨⟨⟨⟨⟨a1, a2⟩, a3⟩, a4⟩, a5⟩, a6⟩, a7⟩, a8⟩, a9⟩ := this
      refine ⟨a1, isFnv_eq a2, ⟨isB_eq a3, isMissing_eq a4⟩, a5, fun i hi => ?_, fun i hi => ?_, isB_eq a7, a8, fun m k hm => ?_, fun m k i hm hi => ?_⟩
      · have := List.all_eq_true.mp a6 i (List.mem_range.mpr hi)
        simp only [Bool.and_eq_true] at this
        have := this.1
        split at this
        · rename_i at' ha; exact ⟨at', ha, this⟩
        · first | exact ff this | exact nn this | cases this
      · have := List.all_eq_true.mp a6 i (List.mem_range.mpr hi)
        simp only [Bool.and_eq_true] at this
        have := this.2
        split at this
        · assumption
        · first | exact ff this | exact nn this | cases this
      · have hmem := lookN_mem hm
        have := List.all_eq_true.mp a9 _ hmem
        simp only [Bool.and_eq_true] at this
        exact isFnv_eq this.1
      · have hmem := lookN_mem hm
        have := List.all_eq_true.mp a9 _ hmem
        simp only [Bool.and_eq_true] at this
        have := List.all_eq_true.mp this.2 i (List.mem_range.mpr hi)
        simpa using this
    · first | exact ff this | exact nn this | cases this

theorem ints_vrs {fa : List Nat} {as : As} {T : TS} : ∀ {ws : List Value} {ns : List Int}, IntsAre ws ns → VRs fa as T (ns.map .int) ws
  | _, _, .nil => .nil
  | _, _, .cons n t r => .cons (.int n t) (ints_vrs r)
/-- the law's call -/
theorem entry {S : Sur} (C : Cx S) {p : Addr} {ws : List Value} {ns : List Int} {k d : Nat} {a : Addr} {H' : Hp} {A : Around} {E Q : Value → Shared → Prop} {s : Shared} (hT : S.T0 = T0of S.K p ws) (hs : s.heap = S.h0) (hL : S.h0.IsList p ws.toArray) (hI : IntsAre ws ns) (hz : ns.length ≤ lim) (ao : AOkC A d) (ha : S.fa[k]? = some a)
    (hc : callF S.P d k [.ro (ns.map .int)] [] = some (.bool true, H')) (q : ∀ h' tk, (∀ b o, S.h0.get? b = some o → h'.get? b = some o) → Q (.bool true) { s with heap := h', toks := tk }) : wpAny (model S.prog S.w) A (call (.ref a) [.ref p]) Q E s := by
  have hr : HR S [] S.T0 [] s.heap := by
    rw [hs]
    refine ⟨fun _ _ e => e, rfl, fun n o q e => by simp at e, .nil, fun a h => by simp [owned] at h, fun b i t => ?_, fun _ _ t => t, fun b us t => ?_, ?_, fun a h => by simp [owned] at h⟩
    · rw [hT] at t
      rcases t with ⟨rfl, rfl⟩ | ⟨us, d, n, sl, rfl, hk⟩
      · exact hL
      · exact ⟨_, C.X _ _ hk, rfl, n, rfl⟩
    · rw [hT] at t
      rcases t with ⟨rfl, _⟩ | ⟨us, d, n, sl, q, hk⟩
      · obtain ⟨o, ho, _⟩ := hL; exact ⟨o, ho⟩
      · first | exact ff q | exact nn q | cases q
    · obtain ⟨mc, n, _⟩ := C.lim
      exact ns_alive n
  refine wpAny_call (sound C d hc ao ha hr (.cons (.ro (ws := ws) (hT ▸ .inl ⟨rfl, rfl⟩) (by rw [List.length_map]; exact hz) (ints_vrs hI)) .nil) fun w h' tk as' T' x hr' vr => ?_)
  cases boolE vr
  exact q h' tk hr'.base
end Mine

namespace Mine
noncomputable def b_row_of : List MS := [.asg (.tup [.loc 2, .loc 3]) (.tup [.lst [], .lst [.loc 0]]), .whl (.cmp .gt (.prim .len [.loc 3]) (.lit (.int 0))) [.asg (.loc 4) (.bmeth (.loc 3) .pop []), .ife (.cmp .eq (.idx (.loc 4) (.lit (.int 0))) (.loc 1)) [.expr (.bmeth (.loc 3) .extend [.lst [.idx (.loc 4) (.lit (.int 2)), .idx (.loc 4) (.lit (.int 1))]])] [.expr (.bmeth (.loc 2) .append [.loc 4])]], .ret (.loc 2)]
noncomputable def b_is_plain_text : List MS := [.ret (.and [.cmp .eq (.idx (.loc 0) (.lit (.int 0))) (.lit (.str [99, 104, 97, 114, 115])), .isin (.idx (.loc 0) (.lit (.int 1))) .str])]
noncomputable def b_with_texts_joined : List MS := [.asg (.loc 1) (.lst []), .for (.one 2) (.loc 0) [.ife (.call (.glob (.fn 1)) [.loc 2]) [.ife (.cmp .eq (.idx (.loc 2) (.lit (.int 1))) (.lit (.str []))) [.cont] [], .ife (.and [.cmp .gt (.prim .len [.loc 1]) (.lit (.int 0)), .call (.glob (.fn 1)) [.idx (.loc 1) (.bin .sub (.prim .len [.loc 1]) (.lit (.int 1)))]]) [.asg (.loc 2) (.tup [.lit (.str [99, 104, 97, 114, 115]), .bin .add (.idx (.bmeth (.loc 1) .pop []) (.lit (.int 1))) (.idx (.loc 2) (.lit (.int 1)))])] []] [], .expr (.bmeth (.loc 1) .append [.loc 2])], .ret (.loc 1)]
noncomputable def b_PatternCode_init : List MS := [.asg (.attr (.loc 0) 0) (.lst [])]
noncomputable def b_PatternCode_emit : List MS := [.expr (.bmeth (.attr (.loc 0) 0) .append [.loc 1]), .ret (.bin .sub (.prim .len [.attr (.loc 0) 0]) (.lit (.int 1)))]
noncomputable def b_PatternCode_put : List MS := [.asg (.loc 2) (.lst [.tup [.glob (.str [112, 117, 116]), .loc 1]]), .whl (.cmp .gt (.prim .len [.loc 2]) (.lit (.int 0))) [.asg (.tup [.loc 3, .loc 4]) (.bmeth (.loc 2) .pop []), .ife (.cmp .eq (.loc 3) (.glob (.str [112, 117, 116]))) [.expr (.bmeth (.loc 2) .extend [.slice (.meth (.loc 0) 103 [.loc 4]) (.lit .none) (.lit .none) (.neg (.lit (.int 1)))])] [.ife (.cmp .eq (.loc 3) (.glob (.str [101, 109, 105, 116]))) [.expr (.meth (.loc 0) 101 [.loc 4])] [.expr (.meth (.loc 0) 106 [.loc 3, .loc 4])]]]]
noncomputable def b_PatternCode_begun : List MS := [.asg (.loc 2) (.idx (.loc 1) (.lit (.int 0))), .ife (.cmp .eq (.loc 2) (.lit (.str [99, 97, 116]))) [.ret (.comp (.tup [.glob (.str [112, 117, 116]), .loc 3]) (.call (.glob (.fn 2)) [.call (.glob (.fn 0)) [.loc 1, .lit (.str [99, 97, 116])]]) (.one 3) 1 [])] [], .ife (.cmp .eq (.loc 2) (.lit (.str [97, 108, 116]))) [.ret (.meth (.loc 0) 104 [.call (.glob (.fn 0)) [.loc 1, .lit (.str [97, 108, 116])]])] [], .ife (.cmp .eq (.loc 2) (.lit (.str [97, 114, 98, 110, 111]))) [.ret (.meth (.loc 0) 105 [.idx (.loc 1) (.lit (.int 1))])] [], .ife (.or [.cmp .eq (.loc 2) (.lit (.str [108, 97, 116, 101, 114])), .cmp .eq (.loc 2) (.lit (.str [110, 111, 119]))]) [.expr (.meth (.loc 0) 101 [.tup [.glob (.str [109, 97, 114, 107])]]), .ret (.lst [.tup [.glob (.str [112, 117, 116]), .idx (.loc 1) (.lit (.int 1))], .tup [.glob (.str [101, 109, 105, 116]), .tup [.ife (.cmp .eq (.loc 2) (.lit (.str [108, 97, 116, 101, 114]))) (.glob (.str [110, 97, 109, 101])) (.glob (.str [115, 101, 116])), .idx (.loc 1) (.lit (.int 2))]]])] [], .ife (.cmp .isin (.loc 2) (.glob (.tup [.str [99, 104, 97, 114, 115], .str [108, 101, 110], .str [112, 111, 115], .str [114, 112, 111, 115], .str [116, 97, 98], .str [114, 116, 97, 98], .str [97, 110, 121], .str [110, 111, 116, 97, 110, 121], .str [115, 112, 97, 110], .str [98, 114, 101, 97, 107], .str [114, 101, 109]]))) [.expr (.meth (.loc 0) 101 [.tup [.glob (.str [111, 110, 101]), .loc 2, .ife (.cmp .gt (.prim .len [.loc 1]) (.lit (.int 1))) (.idx (.loc 1) (.lit (.int 1))) (.lit (.none))]])] [.ife (.or [.cmp .eq (.loc 2) (.lit (.str [97, 114, 98])), .cmp .eq (.loc 2) (.lit (.str [98, 97, 108]))]) [.expr (.meth (.loc 0) 101 [.tup [.glob (.str [119, 97, 121, 115]), .loc 2]])] [.expr (.meth (.loc 0) 101 [.ife (.cmp .isin (.loc 2) (.glob (.tup [.str [102, 101, 110, 99, 101], .str [102, 97, 105, 108], .str [97, 98, 111, 114, 116], .str [115, 117, 99, 99, 101, 101, 100]]))) (.tup [.loc 2]) (.tup [.ife (.cmp .eq (.loc 2) (.lit (.str [99, 117, 114, 115, 111, 114]))) (.glob (.str [112, 108, 97, 99, 101])) (.glob (.str [97, 115, 107])), .idx (.loc 1) (.lit (.int 1))])])]], .ret (.lst [])]
noncomputable def b_PatternCode_choice : List MS := [.asg (.tup [.loc 2, .loc 3]) (.tup [.lst [], .lst [.neg (.lit (.int 1)), .lst []]]), .for (.one 4) (.slice (.loc 1) (.lit .none) (.bin .sub (.prim .len [.loc 1]) (.lit (.int 1))) (.lit .none)) [.expr (.bmeth (.loc 2) .extend [.lst [.tup [.glob (.str [111, 112, 101, 110]), .loc 3], .tup [.glob (.str [112, 117, 116]), .loc 4], .tup [.glob (.str [115, 104, 117, 116]), .loc 3]]])], .ret (.bin .add (.loc 2) (.lst [.tup [.glob (.str [112, 117, 116]), .idx (.loc 1) (.bin .sub (.prim .len [.loc 1]) (.lit (.int 1)))], .tup [.glob (.str [109, 101, 101, 116]), .loc 3]]))]
noncomputable def b_PatternCode_repeat : List MS := [.asg (.loc 2) (.meth (.loc 0) 101 [.lit (.none)]), .asg (.loc 3) (.meth (.loc 0) 101 [.lit (.none)]), .asg (.idx (.attr (.loc 0) 0) (.loc 2)) (.tup [.glob (.str [115, 112, 108, 105, 116]), .prim .len [.attr (.loc 0) 0]]), .expr (.meth (.loc 0) 101 [.tup [.glob (.str [109, 97, 114, 107])]]), .ret (.lst [.tup [.glob (.str [112, 117, 116]), .loc 1], .tup [.glob (.str [101, 109, 105, 116]), .tup [.glob (.str [103, 97, 105, 110])]], .tup [.glob (.str [101, 109, 105, 116]), .tup [.glob (.str [106, 117, 109, 112]), .loc 2]], .tup [.glob (.str [109, 101, 101, 116]), .lst [.loc 2, .lst [.loc 3]]]])]
noncomputable def b_PatternCode_bound : List MS := [.ife (.cmp .eq (.loc 1) (.glob (.str [111, 112, 101, 110]))) [.asg (.idx (.loc 2) (.lit (.int 0))) (.meth (.loc 0) 101 [.lit (.none)])] [.ife (.cmp .eq (.loc 1) (.glob (.str [115, 104, 117, 116]))) [.expr (.bmeth (.idx (.loc 2) (.lit (.int 1))) .append [.meth (.loc 0) 101 [.lit (.none)]]), .asg (.idx (.attr (.loc 0) 0) (.idx (.loc 2) (.lit (.int 0)))) (.tup [.glob (.str [115, 112, 108, 105, 116]), .prim .len [.attr (.loc 0) 0]])] [.for (.one 3) (.idx (.loc 2) (.lit (.int 1))) [.asg (.idx (.attr (.loc 0) 0) (.loc 3)) (.tup [.glob (.str [106, 117, 109, 112]), .prim .len [.attr (.loc 0) 0]])]]]]
noncomputable def b_straightened : List MS := [.asg (.loc 1) (.lst []), .for (.one 2) (.loc 0) [.ife (.cmp .isin (.idx (.loc 2) (.lit (.int 0))) (.tup [.glob (.str [106, 117, 109, 112]), .glob (.str [115, 112, 108, 105, 116])])) [.asg (.loc 3) (.idx (.loc 2) (.lit (.int 1))), .whl (.cmp .eq (.idx (.idx (.loc 0) (.loc 3)) (.lit (.int 0))) (.glob (.str [106, 117, 109, 112]))) [.asg (.loc 3) (.idx (.idx (.loc 0) (.loc 3)) (.lit (.int 1)))], .asg (.loc 2) (.tup [.idx (.loc 2) (.lit (.int 0)), .loc 3])] [], .expr (.bmeth (.loc 1) .append [.loc 2])], .ret (.loc 1)]
noncomputable def b_compile_pattern : List MS := [.asg (.loc 1) (.new 0 []), .expr (.meth (.loc 1) 102 [.loc 0]), .expr (.meth (.loc 1) 101 [.tup [.glob (.str [100, 111, 110, 101])]]), .ret (.call (.glob (.fn 10)) [.attr (.loc 1) 0])]
noncomputable def b_SnobolError_init : List MS := [.bad]
noncomputable def b_Pattern_init : List MS := [.bad]
noncomputable def b_Delayed_init : List MS := [.bad]
noncomputable def b_NameRef_init : List MS := [.asg (.attr (.loc 0) 15) (.loc 1), .asg (.attr (.loc 0) 16) (.loc 2), .asg (.attr (.loc 0) 17) (.loc 3)]
noncomputable def b_is_fail : List MS := [.bad]
noncomputable def b_fits : List MS := [.bad]
noncomputable def b_whole_of_text : List MS := [.bad]
noncomputable def b_text_of_whole : List MS := [.bad]
noncomputable def b_to_whole : List MS := [.bad]
noncomputable def b_to_text : List MS := [.bad]
noncomputable def b_need_text : List MS := [.bad]
noncomputable def b_plain_count : List MS := [.bad]
noncomputable def b_plain_signs : List MS := [.bad]
noncomputable def b_pattern_of : List MS := [.bad]
noncomputable def b_is_delayed : List MS := [.ret (.isin (.loc 0) .tuple)]
noncomputable def b_settled : List MS := [.ife (.or [.and [.cmp .notin (.idx (.loc 0) (.lit (.int 0))) (.glob (.tup [.str [108, 101, 110], .str [112, 111, 115], .str [114, 112, 111, 115], .str [116, 97, 98], .str [114, 116, 97, 98]])), .cmp .notin (.idx (.loc 0) (.lit (.int 0))) (.glob (.tup [.str [97, 110, 121], .str [110, 111, 116, 97, 110, 121], .str [115, 112, 97, 110], .str [98, 114, 101, 97, 107]]))], .not (.call (.glob (.fn 26)) [.idx (.loc 0) (.lit (.int 1))])]) [.ret (.loc 0)] [], .asg (.loc 2) (.meth (.loc 1) 116 [.idx (.idx (.loc 0) (.lit (.int 1))) (.lit (.int 1))]), .ife (.call (.glob (.fn 16)) [.loc 2]) [.ret (.lit (.none))] [], .ife (.cmp .isin (.idx (.loc 0) (.lit (.int 0))) (.glob (.tup [.str [108, 101, 110], .str [112, 111, 115], .str [114, 112, 111, 115], .str [116, 97, 98], .str [114, 116, 97, 98]]))) [.ret (.tup [.idx (.loc 0) (.lit (.int 0)), .call (.glob (.fn 23)) [.loc 2, .idx (.loc 0) (.lit (.int 0)), .attr (.loc 1) 12]])] [], .ret (.tup [.idx (.loc 0) (.lit (.int 0)), .call (.glob (.fn 24)) [.loc 2, .idx (.loc 0) (.lit (.int 0))]])]
noncomputable def b_chars_end : List MS := [.bad]
noncomputable def b_len_end : List MS := [.bad]
noncomputable def b_pos_end : List MS := [.bad]
noncomputable def b_rpos_end : List MS := [.ret (.ife (.cmp .eq (.bin .sub (.prim .len [.loc 0]) (.loc 1)) (.loc 2)) (.loc 1) (.lit (.none)))]
noncomputable def b_tab_end : List MS := [.bad]
noncomputable def b_rtab_end : List MS := [.bad]
noncomputable def b_rem_end : List MS := [.bad]
noncomputable def b_any_at : List MS := [.bad]
noncomputable def b_notany_at : List MS := [.bad]
noncomputable def b_run_end : List MS := [.bad]
noncomputable def b_span_end : List MS := [.bad]
noncomputable def b_break_end : List MS := [.bad]
noncomputable def b_arb_ends : List MS := [.ret (.prim .list [.prim .range [.loc 1, .bin .add (.prim .len [.loc 0]) (.lit (.int 1))]])]
noncomputable def b_bal_end : List MS := [.bad]
noncomputable def b_bal_ends : List MS := [.bad]
noncomputable def b_one_end : List MS := [.ife (.cmp .eq (.loc 0) (.lit (.str [99, 104, 97, 114, 115]))) [.ret (.call (.glob (.fn 28)) [.loc 1, .loc 2, .loc 3])] [], .ife (.cmp .eq (.loc 0) (.lit (.str [108, 101, 110]))) [.ret (.call (.glob (.fn 29)) [.loc 1, .loc 2, .loc 3])] [], .ife (.cmp .eq (.loc 0) (.lit (.str [112, 111, 115]))) [.ret (.call (.glob (.fn 30)) [.loc 2, .loc 3])] [], .ife (.cmp .eq (.loc 0) (.lit (.str [114, 112, 111, 115]))) [.ret (.call (.glob (.fn 31)) [.loc 1, .loc 2, .loc 3])] [], .ife (.cmp .eq (.loc 0) (.lit (.str [116, 97, 98]))) [.ret (.call (.glob (.fn 32)) [.loc 1, .loc 2, .loc 3])] [], .ife (.cmp .eq (.loc 0) (.lit (.str [114, 116, 97, 98]))) [.ret (.call (.glob (.fn 33)) [.loc 1, .loc 2, .loc 3])] [], .ife (.cmp .eq (.loc 0) (.lit (.str [97, 110, 121]))) [.ret (.call (.glob (.fn 35)) [.loc 1, .loc 2, .loc 3])] [], .ife (.cmp .eq (.loc 0) (.lit (.str [110, 111, 116, 97, 110, 121]))) [.ret (.call (.glob (.fn 36)) [.loc 1, .loc 2, .loc 3])] [], .ife (.cmp .eq (.loc 0) (.lit (.str [115, 112, 97, 110]))) [.ret (.call (.glob (.fn 38)) [.loc 1, .loc 2, .loc 3])] [], .ret (.call (.glob (.fn 39)) [.loc 1, .loc 2, .loc 3])]
noncomputable def b_plain_end : List MS := [.ret (.ife (.cmp .eq (.idx (.loc 0) (.lit (.int 0))) (.lit (.str [114, 101, 109]))) (.call (.glob (.fn 34)) [.loc 1]) (.call (.glob (.fn 43)) [.idx (.loc 0) (.lit (.int 0)), .loc 1, .loc 2, .idx (.loc 0) (.lit (.int 1))]))]
noncomputable def b_ends_of : List MS := [.ife (.cmp .eq (.loc 0) (.lit (.str [97, 114, 98]))) [.ret (.call (.glob (.fn 40)) [.loc 1, .loc 2])] [], .ife (.cmp .eq (.loc 0) (.lit (.str [98, 97, 108]))) [.ret (.call (.glob (.fn 42)) [.loc 1, .loc 2])] [], .ife (.cmp .eq (.loc 0) (.lit (.str [114, 101, 109]))) [.ret (.lst [.call (.glob (.fn 34)) [.loc 1]])] [], .asg (.loc 4) (.call (.glob (.fn 43)) [.loc 0, .loc 1, .loc 2, .loc 3]), .ret (.ife (.cmp .is (.loc 4) (.lit (.none))) (.lst []) (.lst [.loc 4]))]
noncomputable def b_Way_init : List MS := [.asg (.attr (.loc 0) 0) (.loc 1), .asg (.attr (.loc 0) 1) (.loc 2), .asg (.attr (.loc 0) 2) (.loc 3), .asg (.attr (.loc 0) 3) (.loc 4), .asg (.attr (.loc 0) 4) (.loc 5), .asg (.attr (.loc 0) 5) (.loc 6)]
noncomputable def b_Way_copied : List MS := [.ret (.new 2 [.attr (.loc 0) 0, .loc 1, .attr (.loc 0) 2, .attr (.loc 0) 3, .attr (.loc 0) 4, .attr (.loc 0) 5])]
noncomputable def b_Match_init : List MS := [.asg (.attr (.loc 0) 6) (.loc 1), .asg (.attr (.loc 0) 7) (.loc 2), .asg (.attr (.loc 0) 8) (.lst [])]
noncomputable def b_Match_run : List MS := [.asg (.loc 3) (.new 2 [.loc 1, .lit (.int 0), .loc 2, .lit (.none), .lit (.none), .lit (.none)]), .whl (.cmp .isnot (.loc 3) (.lit (.none))) [.expr (.meth (.attr (.loc 0) 7) 118 []), .asg (.loc 4) (.idx (.attr (.loc 3) 0) (.attr (.loc 3) 1)), .ife (.and [.cmp .eq (.idx (.loc 4) (.lit (.int 0))) (.glob (.str [100, 111, 110, 101])), .cmp .is (.attr (.loc 3) 5) (.lit (.none))]) [.ret (.tup [.glob (.int 0), .loc 3])] [], .ife (.cmp .eq (.idx (.loc 4) (.lit (.int 0))) (.glob (.str [97, 98, 111, 114, 116]))) [.ret (.tup [.glob (.int 2), .lit (.none)])] [], .ife (.not (.meth (.loc 0) 110 [.loc 4, .loc 3])) [.asg (.loc 3) (.meth (.loc 0) 109 []), .ife (.and [.cmp .isnot (.loc 3) (.lit (.none)), .cmp .is (.attr (.loc 3) 0) (.lit (.none))]) [.ret (.tup [.glob (.int 2), .lit (.none)])] []] []], .ret (.tup [.glob (.int 1), .lit (.none)])]
noncomputable def b_Match_way_back : List MS := [.ret (.ife (.cmp .gt (.prim .len [.attr (.loc 0) 8]) (.lit (.int 0))) (.bmeth (.attr (.loc 0) 8) .pop []) (.lit (.none)))]
noncomputable def b_Match_done : List MS := [.asg (.loc 3) (.idx (.loc 1) (.lit (.int 0))), .ife (.cmp .eq (.loc 3) (.glob (.str [111, 110, 101]))) [.ret (.meth (.loc 0) 111 [.loc 1, .loc 2])] [], .ife (.cmp .eq (.loc 3) (.glob (.str [115, 112, 108, 105, 116]))) [.expr (.bmeth (.attr (.loc 0) 8) .append [.meth (.loc 2) 107 [.idx (.loc 1) (.lit (.int 1))]])] [.ife (.cmp .eq (.loc 3) (.glob (.str [106, 117, 109, 112]))) [.asg (.attr (.loc 2) 1) (.idx (.loc 1) (.lit (.int 1))), .ret (.lit (.bool true))] [.ife (.cmp .eq (.loc 3) (.glob (.str [109, 97, 114, 107]))) [.asg (.attr (.loc 2) 4) (.tup [.attr (.loc 2) 4, .attr (.loc 2) 2])] [.ife (.cmp .isin (.loc 3) (.tup [.glob (.str [110, 97, 109, 101]), .glob (.str [115, 101, 116]), .glob (.str [103, 97, 105, 110])])) [.ife (.not (.meth (.loc 0) 112 [.loc 1, .loc 2])) [.ret (.lit (.bool false))] []] [.ife (.cmp .eq (.loc 3) (.glob (.str [112, 108, 97, 99, 101]))) [.ife (.not (.meth (.attr (.loc 0) 7) 117 [.idx (.loc 1) (.lit (.int 1)), .attr (.loc 2) 2])) [.ret (.lit (.bool false))] []] [.ret (.meth (.loc 0) 113 [.loc 1, .loc 2])]]]]], .auga (.loc 2) 1 .add (.lit (.int 1)), .ret (.lit (.bool true))]
noncomputable def b_Match_met_once : List MS := [.asg (.loc 3) (.idx (.loc 1) (.lit (.int 2))), .ife (.isin (.loc 3) .tuple) [.asg (.loc 4) (.call (.glob (.fn 27)) [.tup [.idx (.loc 1) (.lit (.int 1)), .loc 3], .attr (.loc 0) 7]), .ife (.cmp .is (.loc 4) (.lit (.none))) [.ret (.lit (.bool false))] [], .asg (.loc 3) (.idx (.loc 4) (.lit (.int 1)))] [], .asg (.loc 5) (.call (.glob (.fn 44)) [.tup [.idx (.loc 1) (.lit (.int 1)), .loc 3], .attr (.loc 0) 6, .attr (.loc 2) 2]), .ife (.cmp .is (.loc 5) (.lit (.none))) [.ret (.lit (.bool false))] [], .asg (.attr (.loc 2) 2) (.loc 5), .auga (.loc 2) 1 .add (.lit (.int 1)), .ret (.lit (.bool true))]
noncomputable def b_Match_ended : List MS := [.asg (.tup [.loc 3, .loc 4]) (.attr (.loc 2) 4), .asg (.attr (.loc 2) 4) (.loc 3), .asg (.loc 5) (.slice (.attr (.loc 0) 6) (.loc 4) (.attr (.loc 2) 2) (.lit .none)), .ife (.cmp .eq (.idx (.loc 1) (.lit (.int 0))) (.glob (.str [103, 97, 105, 110]))) [.ret (.cmp .gt (.attr (.loc 2) 2) (.loc 4))] [], .ife (.cmp .eq (.idx (.loc 1) (.lit (.int 0))) (.glob (.str [115, 101, 116]))) [.ret (.meth (.attr (.loc 0) 7) 117 [.idx (.loc 1) (.lit (.int 1)), .loc 5])] [], .asg (.attr (.loc 2) 3) (.tup [.attr (.loc 2) 3, .tup [.idx (.loc 1) (.lit (.int 1)), .loc 5]]), .ret (.lit (.bool true))]
noncomputable def b_Match_other : List MS := [.asg (.loc 3) (.idx (.loc 1) (.lit (.int 0))), .ife (.cmp .eq (.loc 3) (.glob (.str [102, 97, 105, 108]))) [.ret (.lit (.bool false))] [], .ife (.cmp .eq (.loc 3) (.glob (.str [119, 97, 121, 115]))) [.ret (.meth (.loc 0) 114 [.loc 2, .call (.glob (.fn 45)) [.idx (.loc 1) (.lit (.int 1)), .attr (.loc 0) 6, .attr (.loc 2) 2, .lit (.none)]])] [], .ife (.cmp .eq (.loc 3) (.glob (.str [97, 115, 107]))) [.ret (.meth (.loc 0) 115 [.idx (.loc 1) (.lit (.int 1)), .loc 2])] [], .ife (.cmp .eq (.loc 3) (.glob (.str [100, 111, 110, 101]))) [.asg (.tup [.attr (.loc 2) 5, .tup [.attr (.loc 2) 0, .attr (.loc 2) 1]]) (.attr (.loc 2) 5), .ret (.lit (.bool true))] [], .ife (.cmp .eq (.loc 3) (.glob (.str [102, 101, 110, 99, 101]))) [.expr (.bmeth (.attr (.loc 0) 8) .append [.new 2 [.lit (.none), .lit (.int 0), .lit (.int 0), .lit (.none), .lit (.none), .lit (.none)]])] [.ife (.cmp .eq (.loc 3) (.glob (.str [115, 117, 99, 99, 101, 101, 100]))) [.expr (.bmeth (.attr (.loc 0) 8) .append [.meth (.loc 2) 107 [.attr (.loc 2) 1]])] []], .auga (.loc 2) 1 .add (.lit (.int 1)), .ret (.lit (.bool true))]
noncomputable def b_Match_met_often : List MS := [.ife (.cmp .eq (.prim .len [.loc 2]) (.lit (.int 0))) [.ret (.lit (.bool false))] [], .auga (.loc 1) 1 .add (.lit (.int 1)), .for (.one 3) (.slice (.loc 2) (.lit .none) (.lit (.int 0)) (.neg (.lit (.int 1)))) [.asg (.loc 4) (.meth (.loc 1) 107 [.attr (.loc 1) 1]), .asg (.attr (.loc 4) 2) (.loc 3), .expr (.bmeth (.attr (.loc 0) 8) .append [.loc 4])], .asg (.attr (.loc 1) 2) (.idx (.loc 2) (.lit (.int 0))), .ret (.lit (.bool true))]
noncomputable def b_Match_asked : List MS := [.bad]
noncomputable def b_named_rows : List MS := [.bad]
noncomputable def b_match_orders : List MS := [.for (.one 4) (.prim .range [.ife (.loc 2) (.lit (.int 1)) (.bin .add (.prim .len [.loc 1]) (.lit (.int 1)))]) [.asg (.tup [.loc 5, .loc 6]) (.meth (.new 3 [.loc 1, .loc 3]) 108 [.loc 0, .loc 4]), .ife (.cmp .eq (.loc 5) (.glob (.int 0))) [.ret (.tup [.loc 4, .attr (.loc 6) 2, .call (.glob (.fn 57)) [.attr (.loc 6) 3]])] [], .ife (.cmp .eq (.loc 5) (.glob (.int 2))) [.ret (.lit (.none))] []], .ret (.lit (.none))]
noncomputable def b_match_compiled : List MS := [.ret (.call (.glob (.fn 58)) [.call (.glob (.fn 11)) [.loc 0], .loc 1, .loc 2, .loc 3])]
noncomputable def b_PlainHost_init : List MS := [.asg (.attr (.loc 0) 9) (.loc 1), .asg (.attr (.loc 0) 10) (.loc 2), .asg (.attr (.loc 0) 11) (.loc 3), .asg (.attr (.loc 0) 12) (.lit (.int 64)), .asg (.attr (.loc 0) 13) (.lit (.int 0)), .asg (.attr (.loc 0) 14) (.lst [])]
noncomputable def b_PlainHost_value_of : List MS := [.bad]
noncomputable def b_PlainHost_assign : List MS := [.ife (.cmp .isin (.attr (.loc 1) 17) (.attr (.loc 0) 11)) [.ret (.lit (.bool false))] [], .asg (.idx (.attr (.loc 0) 9) (.attr (.loc 1) 17)) (.loc 2), .expr (.bmeth (.attr (.loc 0) 14) .append [.tup [.attr (.loc 1) 17, .loc 2]]), .ret (.lit (.bool true))]
noncomputable def b_PlainHost_step : List MS := [.auga (.loc 0) 13 .add (.lit (.int 1)), .ife (.cmp .gt (.attr (.loc 0) 13) (.attr (.loc 0) 10)) [.bad] []]
noncomputable def b_match_plain : List MS := [.for (.one 4) (.prim .range [.ife (.loc 2) (.lit (.int 1)) (.bin .add (.prim .len [.loc 1]) (.lit (.int 1)))]) [.asg (.loc 5) (.call (.glob (.fn 65)) [.loc 0, .loc 1, .loc 4, .loc 3]), .ife (.cmp .isnot (.loc 5) (.lit (.none))) [.ret (.ife (.cmp .eq (.loc 5) (.glob (.str [108, 111, 115, 116]))) (.lit (.none)) (.loc 5))] []], .ret (.lit (.none))]
noncomputable def b_match_at : List MS := [.asg (.loc 4) (.call (.glob (.fn 66)) [.loc 0, .loc 1, .loc 2, .loc 3]), .ret (.ife (.or [.cmp .is (.loc 4) (.lit (.none)), .cmp .eq (.loc 4) (.glob (.str [108, 111, 115, 116]))]) (.loc 4) (.tup [.loc 2, .idx (.loc 4) (.lit (.int 0)), .idx (.loc 4) (.lit (.int 1))]))]
noncomputable def b_tried : List MS := [.asg (.loc 4) (.lst [.tup [.tup [.loc 0, .lit (.none)], .loc 2, .tup []]]), .whl (.cmp .gt (.prim .len [.loc 4]) (.lit (.int 0))) [.asg (.loc 5) (.bmeth (.loc 4) .pop []), .ife (.cmp .is (.loc 5) (.lit (.none))) [.ret (.glob (.str [108, 111, 115, 116]))] [], .asg (.tup [.loc 6, .loc 7, .loc 8]) (.loc 5), .whl (.cmp .isnot (.loc 6) (.lit (.none))) [.expr (.meth (.loc 3) 118 []), .asg (.loc 5) (.call (.glob (.fn 67)) [.loc 6, .loc 7, .loc 8, .loc 1, .loc 4, .loc 3]), .ife (.cmp .is (.loc 5) (.lit (.none))) [.brk] [], .ife (.cmp .eq (.loc 5) (.glob (.str [108, 111, 115, 116]))) [.ret (.glob (.str [108, 111, 115, 116]))] [], .asg (.tup [.loc 6, .loc 7, .loc 8]) (.loc 5)], .ife (.cmp .is (.loc 6) (.lit (.none))) [.ret (.tup [.loc 7, .prim .list [.loc 8]])] []], .ret (.lit (.none))]
noncomputable def b_advanced : List MS := [.asg (.tup [.loc 6, .loc 7]) (.loc 0), .asg (.loc 8) (.idx (.loc 6) (.lit (.int 0))), .ife (.cmp .isin (.loc 8) (.tup [.lit (.str [99, 97, 116]), .lit (.str [97, 108, 116]), .lit (.str [97, 114, 98, 110, 111]), .lit (.str [108, 97, 116, 101, 114]), .lit (.str [110, 111, 119])])) [.ret (.call (.glob (.fn 68)) [.loc 6, .loc 7, .loc 1, .loc 2, .loc 4])] [], .ife (.cmp .eq (.slice (.loc 8) (.lit .none) (.lit (.int 4)) (.lit .none)) (.lit (.str [101, 110, 100, 32]))) [.ret (.call (.glob (.fn 69)) [.loc 6, .loc 7, .loc 1, .loc 2, .loc 3, .loc 4, .loc 5])] [], .ife (.cmp .eq (.loc 8) (.lit (.str [99, 117, 114, 115, 111, 114]))) [.ret (.ife (.meth (.loc 5) 117 [.idx (.loc 6) (.lit (.int 1)), .loc 1]) (.tup [.loc 7, .loc 1, .loc 2]) (.lit (.none)))] [], .ife (.cmp .eq (.loc 8) (.lit (.str [100, 101, 108, 97, 121]))) [.asg (.loc 9) (.meth (.loc 5) 116 [.idx (.loc 6) (.lit (.int 1))]), .ret (.ife (.call (.glob (.fn 16)) [.loc 9]) (.lit (.none)) (.tup [.tup [.call (.glob (.fn 25)) [.loc 9], .loc 7], .loc 1, .loc 2]))] [], .ife (.cmp .isin (.loc 8) (.tup [.lit (.str [102, 101, 110, 99, 101]), .lit (.str [97, 98, 111, 114, 116]), .lit (.str [102, 97, 105, 108]), .lit (.str [115, 117, 99, 99, 101, 101, 100])])) [.ret (.call (.glob (.fn 70)) [.loc 0, .loc 1, .loc 2, .loc 4])] [], .ret (.call (.glob (.fn 71)) [.loc 6, .loc 7, .loc 1, .loc 2, .loc 3, .loc 4, .loc 5])]
noncomputable def b_led_in : List MS := [.asg (.loc 5) (.idx (.loc 0) (.lit (.int 0))), .ife (.cmp .eq (.loc 5) (.lit (.str [99, 97, 116]))) [.ret (.tup [.tup [.idx (.loc 0) (.lit (.int 1)), .tup [.idx (.loc 0) (.lit (.int 2)), .loc 1]], .loc 2, .loc 3])] [], .ife (.cmp .eq (.loc 5) (.lit (.str [97, 108, 116]))) [.expr (.bmeth (.loc 4) .append [.tup [.tup [.idx (.loc 0) (.lit (.int 2)), .loc 1], .loc 2, .loc 3]]), .ret (.tup [.tup [.idx (.loc 0) (.lit (.int 1)), .loc 1], .loc 2, .loc 3])] [], .ife (.cmp .eq (.loc 5) (.lit (.str [97, 114, 98, 110, 111]))) [.expr (.bmeth (.loc 4) .append [.tup [.tup [.idx (.loc 0) (.lit (.int 1)), .tup [.tup [.lit (.str [101, 110, 100, 32, 114, 111, 117, 110, 100]), .loc 0, .loc 2], .loc 1]], .loc 2, .loc 3]]), .ret (.tup [.loc 1, .loc 2, .loc 3])] [], .ret (.tup [.tup [.idx (.loc 0) (.lit (.int 1)), .tup [.tup [.bin .add (.lit (.str [101, 110, 100, 32])) (.loc 5), .idx (.loc 0) (.lit (.int 2)), .loc 2], .loc 1]], .loc 2, .loc 3])]
noncomputable def b_led_out : List MS := [.asg (.tup [.loc 7, .loc 8, .loc 9]) (.loc 0), .ife (.cmp .eq (.loc 7) (.lit (.str [101, 110, 100, 32, 108, 97, 116, 101, 114]))) [.ret (.tup [.loc 1, .loc 2, .bin .add (.loc 3) (.tup [.tup [.loc 8, .slice (.loc 4) (.loc 9) (.loc 2) (.lit .none)]])])] [], .ife (.cmp .eq (.loc 7) (.lit (.str [101, 110, 100, 32, 110, 111, 119]))) [.ret (.ife (.meth (.loc 6) 117 [.loc 8, .slice (.loc 4) (.loc 9) (.loc 2) (.lit .none)]) (.tup [.loc 1, .loc 2, .loc 3]) (.lit (.none)))] [], .ret (.ife (.cmp .eq (.loc 2) (.loc 9)) (.lit (.none)) (.tup [.tup [.loc 8, .loc 1], .loc 2, .loc 3]))]
noncomputable def b_steered : List MS := [.asg (.tup [.loc 4, .loc 5]) (.tup [.idx (.idx (.loc 0) (.lit (.int 0))) (.lit (.int 0)), .idx (.loc 0) (.lit (.int 1))]), .ife (.cmp .eq (.loc 4) (.lit (.str [97, 98, 111, 114, 116]))) [.ret (.glob (.str [108, 111, 115, 116]))] [], .ife (.cmp .eq (.loc 4) (.lit (.str [102, 97, 105, 108]))) [.ret (.lit (.none))] [], .expr (.bmeth (.loc 3) .append [.ife (.cmp .eq (.loc 4) (.lit (.str [102, 101, 110, 99, 101]))) (.lit (.none)) (.tup [.loc 0, .loc 1, .loc 2])]), .ret (.tup [.loc 5, .loc 1, .loc 2])]
noncomputable def b_taken : List MS := [.asg (.loc 7) (.idx (.loc 0) (.lit (.int 0))), .ife (.cmp .eq (.loc 7) (.lit (.str [97, 114, 98]))) [.ife (.cmp .lt (.loc 2) (.prim .len [.loc 4])) [.expr (.bmeth (.loc 5) .append [.tup [.tup [.loc 0, .loc 1], .bin .add (.loc 2) (.lit (.int 1)), .loc 3]])] [], .ret (.tup [.loc 1, .loc 2, .loc 3])] [], .ife (.cmp .eq (.loc 7) (.lit (.str [98, 97, 108]))) [.asg (.loc 8) (.call (.glob (.fn 42)) [.loc 4, .loc 2]), .for (.one 9) (.slice (.loc 8) (.lit .none) (.lit (.int 0)) (.neg (.lit (.int 1)))) [.expr (.bmeth (.loc 5) .append [.tup [.loc 1, .loc 9, .loc 3]])], .ret (.ife (.cmp .gt (.prim .len [.loc 8]) (.lit (.int 0))) (.tup [.loc 1, .idx (.loc 8) (.lit (.int 0)), .loc 3]) (.lit (.none)))] [], .asg (.loc 10) (.call (.glob (.fn 27)) [.loc 0, .loc 6]), .ife (.cmp .is (.loc 10) (.lit (.none))) [.ret (.lit (.none))] [], .asg (.loc 9) (.call (.glob (.fn 44)) [.loc 10, .loc 4, .loc 2]), .ret (.ife (.cmp .is (.loc 9) (.lit (.none))) (.lit (.none)) (.tup [.loc 1, .loc 9, .loc 3]))]
noncomputable def fnsC : List FI := [⟨2, 5, b_row_of⟩,
  ⟨1, 1, b_is_plain_text⟩,
  ⟨1, 3, b_with_texts_joined⟩,
  ⟨1, 1, b_PatternCode_init⟩,
  ⟨2, 2, b_PatternCode_emit⟩,
  ⟨2, 5, b_PatternCode_put⟩,
  ⟨2, 3, b_PatternCode_begun⟩,
  ⟨2, 5, b_PatternCode_choice⟩,
  ⟨2, 4, b_PatternCode_repeat⟩,
  ⟨3, 4, b_PatternCode_bound⟩,
  ⟨1, 4, b_straightened⟩,
  ⟨1, 2, b_compile_pattern⟩,
  ⟨3, 3, b_SnobolError_init⟩,
  ⟨2, 2, b_Pattern_init⟩,
  ⟨2, 2, b_Delayed_init⟩,
  ⟨4, 4, b_NameRef_init⟩,
  ⟨1, 1, b_is_fail⟩,
  ⟨2, 2, b_fits⟩,
  ⟨2, 5, b_whole_of_text⟩,
  ⟨1, 3, b_text_of_whole⟩,
  ⟨2, 2, b_to_whole⟩,
  ⟨1, 1, b_to_text⟩,
  ⟨1, 2, b_need_text⟩,
  ⟨3, 4, b_plain_count⟩,
  ⟨2, 3, b_plain_signs⟩,
  ⟨1, 2, b_pattern_of⟩,
  ⟨1, 1, b_is_delayed⟩,
  ⟨2, 3, b_settled⟩,
  ⟨3, 4, b_chars_end⟩,
  ⟨3, 3, b_len_end⟩,
  ⟨2, 2, b_pos_end⟩,
  ⟨3, 3, b_rpos_end⟩,
  ⟨3, 3, b_tab_end⟩,
  ⟨3, 4, b_rtab_end⟩,
  ⟨1, 1, b_rem_end⟩,
  ⟨3, 3, b_any_at⟩,
  ⟨3, 3, b_notany_at⟩,
  ⟨4, 4, b_run_end⟩,
  ⟨3, 4, b_span_end⟩,
  ⟨3, 4, b_break_end⟩,
  ⟨2, 2, b_arb_ends⟩,
  ⟨2, 3, b_bal_end⟩,
  ⟨2, 4, b_bal_ends⟩,
  ⟨4, 4, b_one_end⟩,
  ⟨3, 3, b_plain_end⟩,
  ⟨4, 5, b_ends_of⟩,
  ⟨7, 7, b_Way_init⟩,
  ⟨2, 2, b_Way_copied⟩,
  ⟨3, 3, b_Match_init⟩,
  ⟨3, 5, b_Match_run⟩,
  ⟨1, 1, b_Match_way_back⟩,
  ⟨3, 4, b_Match_done⟩,
  ⟨3, 6, b_Match_met_once⟩,
  ⟨3, 6, b_Match_ended⟩,
  ⟨3, 4, b_Match_other⟩,
  ⟨3, 5, b_Match_met_often⟩,
  ⟨3, 4, b_Match_asked⟩,
  ⟨1, 3, b_named_rows⟩,
  ⟨4, 7, b_match_orders⟩,
  ⟨4, 4, b_match_compiled⟩,
  ⟨4, 4, b_PlainHost_init⟩,
  ⟨2, 2, b_PlainHost_value_of⟩,
  ⟨3, 3, b_PlainHost_assign⟩,
  ⟨1, 1, b_PlainHost_step⟩,
  ⟨4, 6, b_match_plain⟩,
  ⟨4, 5, b_match_at⟩,
  ⟨4, 9, b_tried⟩,
  ⟨6, 10, b_advanced⟩,
  ⟨5, 6, b_led_in⟩,
  ⟨7, 10, b_led_out⟩,
  ⟨4, 6, b_steered⟩,
  ⟨7, 11, b_taken⟩]
noncomputable def clsC : List CI := [⟨3, [(101, 4), (102, 5), (103, 6), (104, 7), (105, 8), (106, 9)]⟩, ⟨15, []⟩, ⟨46, [(107, 47)]⟩, ⟨48, [(108, 49), (109, 50), (110, 51), (111, 52), (112, 53), (113, 54), (114, 55), (115, 56)]⟩, ⟨60, [(116, 61), (117, 62), (118, 63)]⟩, ⟨0, []⟩, ⟨13, []⟩, ⟨14, []⟩, ⟨12, []⟩]
end Mine

namespace Mine
namespace L4
noncomputable def b_law_next : List MS := [.asg (.tup [.loc 2, .loc 3]) (.loc 0), .asg (.idx (.loc 0) (.lit (.int 1))) (.bin .add (.loc 3) (.lit (.int 1))), .ife (.cmp .lt (.loc 3) (.prim .len [.loc 2])) [.ret (.bin .mod (.prim .abs [.prim .int [.idx (.loc 2) (.loc 3)]]) (.loc 1))] [], .ret (.bin .mod (.bin .add (.bin .add (.bin .add (.bin .mul (.lit (.int 5)) (.loc 3)) (.bin .fdiv (.loc 3) (.lit (.int 2)))) (.lit (.int 8))) (.prim .len [.loc 2])) (.loc 1))]
noncomputable def b_law_pascal : List MS := [.asg (.loc 2) (.lst [.lit (.int 1)]), .for (.one 3) (.prim .range [.loc 0]) [.asg (.loc 2) (.bin .add (.bin .add (.lst [.lit (.int 1)]) (.comp (.bin .add (.idx (.loc 2) (.loc 4)) (.idx (.loc 2) (.bin .add (.loc 4) (.lit (.int 1))))) (.prim .range [.bin .sub (.prim .len [.loc 2]) (.lit (.int 1))]) (.one 4) 1 [])) (.lst [.lit (.int 1)]))], .ret (.idx (.loc 2) (.loc 1))]
noncomputable def b_law_cuts : List MS := [.asg (.tup [.loc 2, .loc 3]) (.tup [.bin .mul (.lst [.lit (.str [])]) (.loc 1), .lst []]), .for (.many [4, 5]) (.loc 0) [.ife (.cmp .eq (.loc 4) (.lit (.str [69, 78, 68]))) [.expr (.bmeth (.loc 3) .append [.prim .list [.loc 2]])] [.asg (.idx (.loc 2) (.prim .int [.loc 4])) (.loc 5)]], .ret (.loc 3)]
noncomputable def b_law : List MS := [.asg (.loc 1) (.lst [.slice (.loc 0) (.lit .none) (.lit (.int 10)) (.lit .none), .lit (.int 0)]), .asg (.tup [.loc 2, .loc 3]) (.tup [.bin .add (.lit (.int 1)) (.call (.glob (.fn 72)) [.loc 1, .lit (.int 3)]), .call (.glob (.fn 72)) [.loc 1, .lit (.int 5)]]), .asg (.loc 4) (.bmeth (.lit (.str [])) .join [.comp (.idx (.lit (.str [97, 98])) (.call (.glob (.fn 72)) [.loc 1, .lit (.int 2)])) (.prim .range [.loc 3]) (.one 12) 1 []]), .asg (.loc 5) (.tup [.lit (.str [99, 97, 116]), .tup [.lit (.str [114, 112, 111, 115]), .lit (.int 0)], .tup [.lit (.str [99, 97, 116]), .tup [.lit (.str [99, 117, 114, 115, 111, 114]), .new 1 [.lit (.str [118, 97, 114]), .lit (.none), .lit (.str [69, 78, 68])]], .tup [.lit (.str [102, 97, 105, 108])]]]), .for (.one 6) (.prim .range [.bin .sub (.loc 2) (.lit (.int 1)), .bin .sub (.lit (.int 0)) (.lit (.int 1)), .bin .sub (.lit (.int 0)) (.lit (.int 1))]) [.asg (.loc 5) (.tup [.lit (.str [99, 97, 116]), .tup [.lit (.str [110, 111, 119]), .tup [.lit (.str [97, 114, 98])], .new 1 [.lit (.str [118, 97, 114]), .lit (.none), .prim .str [.loc 6]]], .loc 5])], .asg (.tup [.loc 7, .loc 8]) (.tup [.new 4 [.dict [], .lit (.int 99999), .lst []], .cmp .eq (.call (.glob (.fn 72)) [.loc 1, .lit (.int 2)]) (.lit (.int 1))]), .asg (.loc 9) (.ife (.loc 8) (.call (.glob (.fn 64)) [.loc 5, .loc 4, .lit (.bool true), .loc 7]) (.call (.glob (.fn 59)) [.loc 5, .loc 4, .lit (.bool true), .loc 7])), .asg (.loc 10) (.call (.glob (.fn 74)) [.attr (.loc 7) 14, .loc 2]), .ife (.or [.cmp .isnot (.loc 9) (.lit (.none)), .cmp .ne (.prim .len [.loc 10]) (.call (.glob (.fn 73)) [.bin .sub (.bin .add (.loc 3) (.loc 2)) (.lit (.int 1)), .bin .sub (.loc 2) (.lit (.int 1))])]) [.ret (.lit (.bool false))] [], .asg (.loc 11) (.comp (.comp (.prim .len [.loc 13]) (.loc 12) (.one 13) 1 []) (.loc 10) (.one 12) 1 []), .for (.one 6) (.prim .range [.bin .sub (.prim .len [.loc 10]) (.lit (.int 1))]) [.ife (.not (.cmp .lt (.idx (.loc 11) (.loc 6)) (.idx (.loc 11) (.bin .add (.loc 6) (.lit (.int 1)))))) [.ret (.lit (.bool false))] []], .ret (.cmp .eq (.comp (.loc 12) (.loc 10) (.one 12) 1 [.cmp .ne (.bmeth (.lit (.str [])) .join [.loc 12]) (.loc 4)]) (.lst []))]
noncomputable def fnsL : List FI := [⟨2, 4, b_law_next⟩,
  ⟨2, 4, b_law_pascal⟩,
  ⟨2, 6, b_law_cuts⟩,
  ⟨1, 12, b_law⟩]
noncomputable def fns : List FI := fnsC ++ fnsL
noncomputable def pg : Pg := ⟨fns, clsC⟩
noncomputable def gl : List (Str × GV) := [(Str.ofString "row_of", .fn 0), (Str.ofString "is_plain_text", .fn 1), (Str.ofString "with_texts_joined", .fn 2), (Str.ofString "straightened", .fn 10), (Str.ofString "compile_pattern", .fn 11), (Str.ofString "is_fail", .fn 16), (Str.ofString "fits", .fn 17), (Str.ofString "whole_of_text", .fn 18), (Str.ofString "text_of_whole", .fn 19), (Str.ofString "to_whole", .fn 20), (Str.ofString "to_text", .fn 21), (Str.ofString "need_text", .fn 22), (Str.ofString "plain_count", .fn 23), (Str.ofString "plain_signs", .fn 24), (Str.ofString "pattern_of", .fn 25), (Str.ofString "is_delayed", .fn 26), (Str.ofString "settled", .fn 27), (Str.ofString "chars_end", .fn 28), (Str.ofString "len_end", .fn 29), (Str.ofString "pos_end", .fn 30), (Str.ofString "rpos_end", .fn 31), (Str.ofString "tab_end", .fn 32), (Str.ofString "rtab_end", .fn 33), (Str.ofString "rem_end", .fn 34), (Str.ofString "any_at", .fn 35), (Str.ofString "notany_at", .fn 36), (Str.ofString "run_end", .fn 37), (Str.ofString "span_end", .fn 38), (Str.ofString "break_end", .fn 39), (Str.ofString "arb_ends", .fn 40), (Str.ofString "bal_end", .fn 41), (Str.ofString "bal_ends", .fn 42), (Str.ofString "one_end", .fn 43), (Str.ofString "plain_end", .fn 44), (Str.ofString "ends_of", .fn 45), (Str.ofString "named_rows", .fn 57), (Str.ofString "match_orders", .fn 58), (Str.ofString "match_compiled", .fn 59), (Str.ofString "match_plain", .fn 64), (Str.ofString "match_at", .fn 65), (Str.ofString "tried", .fn 66), (Str.ofString "advanced", .fn 67), (Str.ofString "led_in", .fn 68), (Str.ofString "led_out", .fn 69), (Str.ofString "steered", .fn 70), (Str.ofString "taken", .fn 71), (Str.ofString "_law_next", .fn 72), (Str.ofString "_law_pascal", .fn 73), (Str.ofString "_law_cuts", .fn 74), (Str.ofString "law", .fn 75), (Str.ofString "ONE", .val (.str [111, 110, 101])), (Str.ofString "WAYS", .val (.str [119, 97, 121, 115])), (Str.ofString "SPLIT", .val (.str [115, 112, 108, 105, 116])), (Str.ofString "JUMP", .val (.str [106, 117, 109, 112])), (Str.ofString "MARK", .val (.str [109, 97, 114, 107])), (Str.ofString "NAME", .val (.str [110, 97, 109, 101])), (Str.ofString "SET", .val (.str [115, 101, 116])), (Str.ofString "GAIN", .val (.str [103, 97, 105, 110])), (Str.ofString "PLACE", .val (.str [112, 108, 97, 99, 101])), (Str.ofString "ASK", .val (.str [97, 115, 107])), (Str.ofString "FENCE", .val (.str [102, 101, 110, 99, 101])), (Str.ofString "FAIL", .val (.str [102, 97, 105, 108])), (Str.ofString "ABORT", .val (.str [97, 98, 111, 114, 116])), (Str.ofString "SUCCEED", .val (.str [115, 117, 99, 99, 101, 101, 100])), (Str.ofString "DONE", .val (.str [100, 111, 110, 101])), (Str.ofString "PUT", .val (.str [112, 117, 116])), (Str.ofString "EMIT", .val (.str [101, 109, 105, 116])), (Str.ofString "OPEN", .val (.str [111, 112, 101, 110])), (Str.ofString "SHUT", .val (.str [115, 104, 117, 116])), (Str.ofString "MEET", .val (.str [109, 101, 101, 116])), (Str.ofString "SINGLE", .val (.tup [.str [99, 104, 97, 114, 115], .str [108, 101, 110], .str [112, 111, 115], .str [114, 112, 111, 115], .str [116, 97, 98], .str [114, 116, 97, 98], .str [97, 110, 121], .str [110, 111, 116, 97, 110, 121], .str [115, 112, 97, 110], .str [98, 114, 101, 97, 107], .str [114, 101, 109]])), (Str.ofString "ALONE", .val (.tup [.str [102, 101, 110, 99, 101], .str [102, 97, 105, 108], .str [97, 98, 111, 114, 116], .str [115, 117, 99, 99, 101, 101, 100]])), (Str.ofString "COUNTED", .val (.tup [.str [108, 101, 110], .str [112, 111, 115], .str [114, 112, 111, 115], .str [116, 97, 98], .str [114, 116, 97, 98]])), (Str.ofString "SIGNED", .val (.tup [.str [97, 110, 121], .str [110, 111, 116, 97, 110, 121], .str [115, 112, 97, 110], .str [98, 114, 101, 97, 107]])), (Str.ofString "WIDTH_OF_COUNT", .val (.int 64)), (Str.ofString "OPENING", .val (.str [40])), (Str.ofString "CLOSING", .val (.str [41])), (Str.ofString "MET", .val (.int 0)), (Str.ofString "FAILED", .val (.int 1)), (Str.ofString "OVER", .val (.int 2)), (Str.ofString "LOST", .val (.str [108, 111, 115, 116])), (Str.ofString "PatternCode", .cls 0), (Str.ofString "NameRef", .cls 1), (Str.ofString "Way", .cls 2), (Str.ofString "Match", .cls 3), (Str.ofString "PlainHost", .cls 4), (Str.ofString "Failure", .cls 5), (Str.ofString "Pattern", .cls 6), (Str.ofString "Delayed", .cls 7), (Str.ofString "SnobolError", .cls 8), (Str.ofString "abs", .pr .abs), (Str.ofString "chr", .pr .chr), (Str.ofString "int", .pr .int), (Str.ofString "len", .pr .len), (Str.ofString "list", .pr .list), (Str.ofString "min", .pr .min), (Str.ofString "ord", .pr .ord), (Str.ofString "range", .pr .range), (Str.ofString "str", .pr .str), (Str.ofString "isinstance", .isi), (Str.ofString "tuple", .typ .tuple)]
noncomputable def fa : List Nat := [23, 30, 37, 51, 58, 65, 70, 77, 84, 91, 105, 112, 129, 163, 184, 205, 219, 226, 233, 240, 247, 254, 261, 271, 278, 285, 292, 299, 306, 313, 320, 327, 334, 341, 348, 355, 362, 369, 376, 383, 390, 397, 404, 411, 418, 425, 439, 446, 467, 474, 481, 488, 495, 502, 509, 516, 523, 537, 544, 551, 565, 572, 579, 586, 600, 607, 614, 621, 628, 635, 642, 649, 656, 661, 668, 673]
noncomputable def lookG (x : Str) : List (Str × GV) → Option GV
  | [] => none
  | (y, g) :: r => if x == y then some g else lookG x r
noncomputable def G (x : Str) : Option GV := lookG x gl
end L4
end Mine

namespace Mine

/-! The same machine, laid shallow: one function a node. -/
noncomputable abbrev XE := Lo → Hp → Option (V × Hp)
noncomputable abbrev XL := Lo → Hp → Option (List V × Hp)
noncomputable abbrev XD := Lo → Hp → Option (List (List Nat × V) × Hp)
noncomputable abbrev XC := Lo → Hp → Option (Bool × Hp)
noncomputable abbrev XT := V → Lo → Hp → Option (Lo × Hp)
noncomputable abbrev XTs := List V → Lo → Hp → Option (Lo × Hp)
noncomputable abbrev XS := Lo → Hp → SR

noncomputable def xBad : XE := fun _ _ => none
noncomputable def xsBad : XS := fun _ _ => none
noncomputable def xLit (v : V) : XE := fun _ H => some (v, H)
noncomputable def xLoc (i : Nat) : XE := fun l H => match l[i]? with | some (some v) => some (v, H) | _ => none
noncomputable def xNil : XL := fun _ H => some ([], H)
noncomputable def xCons (e : XE) (r : XL) : XL := fun l H => bnd (e l H) fun v H => bnd (r l H) fun vs H => some (v :: vs, H)
noncomputable def xTup (es : XL) : XE := fun l H => bnd (es l H) fun vs H => some (.tup vs, H)
noncomputable def xLst (es : XL) : XE := fun l H => bnd (es l H) fun vs H => some (.loc H.length, H ++ [.list vs])
noncomputable def xDNil : XD := fun _ H => some ([], H)
noncomputable def xDict (es : XD) : XE := fun l H => bnd (es l H) fun es H => some (.loc H.length, H ++ [.dict es])
noncomputable def xAttr (e : XE) (a : Nat) : XE := fun l H => bnd (e l H) fun o H => (match getA H o a with | some v => some (v, H) | none => none)
noncomputable def xIdx (e i : XE) : XE := fun l H => bnd (e l H) fun o H => bnd (i l H) fun i H => (match idxV H o i with | some v => some (v, H) | none => none)
noncomputable def xSlice (e lo hi st : XE) : XE := fun l H => bnd (e l H) fun o H => bnd (lo l H) fun lo H => bnd (hi l H) fun hi H => bnd (st l H) fun st H => sliceV o lo hi st H
noncomputable def xBin (op : BOp) (a b : XE) : XE := fun l H => bnd (a l H) fun a H => bnd (b l H) fun b H => binV op a b H
noncomputable def xNeg (a : XE) : XE := fun l H => bnd (a l H) fun a H => (match a with | .int i => some (.int (-i), H) | _ => none)
noncomputable def xNot (a : XE) : XE := fun l H => bnd (a l H) fun a H => (match a with | .bool b => some (.bool (!b), H) | _ => none)
noncomputable def xCmp (op : COp) (a b : XE) : XE := fun l H => bnd (a l H) fun a H => bnd (b l H) fun b H => (match cmpV H op a b with | some r => some (.bool r, H) | none => none)
noncomputable def xT : XE := fun _ H => some (.bool true, H)
noncomputable def xF : XE := fun _ H => some (.bool false, H)
noncomputable def xAnd (e r : XE) : XE := fun l H => bnd (e l H) fun v H => (match v with | .bool true => r l H | .bool false => some (.bool false, H) | _ => none)
noncomputable def xOr (e r : XE) : XE := fun l H => bnd (e l H) fun v H => (match v with | .bool false => r l H | .bool true => some (.bool true, H) | _ => none)
noncomputable def xCT : XC := fun _ H => some (true, H)
noncomputable def xCAnd (e : XE) (r : XC) : XC := fun l H => bnd (e l H) fun v H => (match v with | .bool true => r l H | .bool false => some (false, H) | _ => none)
noncomputable def xIfe (t a b : XE) : XE := fun l H => bnd (t l H) fun t H => (match t with | .bool true => a l H | .bool false => b l H | _ => none)
noncomputable def xCall (call : CallT) (f : XE) (es : XL) : XE := fun l H => bnd (f l H) fun f H => bnd (es l H) fun vs H => (match f with | .fn k => call k vs H | _ => none)
noncomputable def xNew (P : Pg) (call : CallT) (c : Nat) (es : XL) : XE := fun l H => bnd (es l H) fun vs H => (match P.cls[c]? with
    | some ci => bnd (call ci.init (.loc H.length :: vs) (H ++ [.inst c []])) fun r H' => (match r with | .none => some (.loc H.length, H') | _ => none)
    | none => none)
noncomputable def xMeth (P : Pg) (call : CallT) (o : XE) (m : Nat) (es : XL) : XE := fun l H => bnd (o l H) fun o H => (match o with
    | .loc n => (match H[n]? with
      | some (.inst c _) => (match P.cls[c]? with
        | some ci => (match lookN m ci.meths with
          | some k => bnd (es l H) fun vs H => call k (o :: vs) H
          | none => none)
        | none => none)
      | _ => none)
    | _ => none)
noncomputable def xBm (o : XE) (m : BM) (es : XL) : XE := fun l H => bnd (o l H) fun o H => if bmK m o H then bnd (es l H) fun vs H => bmV m o vs H else none
noncomputable def xPrim (p : Pr) (es : XL) : XE := fun l H => bnd (es l H) fun vs H => primV p vs H
noncomputable def xIsin (e : XE) (k : IK) : XE := fun l H => bnd (e l H) fun v H => (match isV v k with | some b => some (.bool b, H) | none => none)
noncomputable def xComp (elt src : XE) (t : CT) (k : Nat) (cs : XC) : XE := fun l H => bnd (src l H) fun s H => (match iterV H s with
    | some it => bnd (compN cs elt t (l ++ List.replicate k none) 1048576 it [] H) fun vs H =>
        if vs.length ≤ lim then some (.loc H.length, H ++ [.list vs]) else none
    | none => none)
noncomputable def xTLoc (i : Nat) : XT := fun v l H => some (l.set i (some v), H)
noncomputable def xTAttr (o : XE) (a : Nat) : XT := fun v l H => bnd (o l H) fun o H => (match setA H o a v with | some H => some (l, H) | none => none)
noncomputable def xTIdx (o i : XE) : XT := fun v l H => bnd (o l H) fun o H => bnd (i l H) fun i H => (match setI H o i v with | some H => some (l, H) | none => none)
noncomputable def xTTup (ts : XTs) : XT := fun v l H => (match unpk H v with | some vs => ts vs l H | none => none)
noncomputable def xTNil : XTs := fun vs l H => match vs with | [] => some (l, H) | _ :: _ => none
noncomputable def xTCons (t : XT) (r : XTs) : XTs := fun vs l H => match vs with | [] => none | v :: vs => bndS (t v l H) fun l H => r vs l H
noncomputable def xsExpr (e : XE) : XS := fun l H => bnd (e l H) fun _ H => some (.next, l, H)
noncomputable def xsRet (e : XE) : XS := fun l H => bnd (e l H) fun v H => some (.ret v, l, H)
noncomputable def xsAsg (t : XT) (e : XE) : XS := fun l H => bnd (e l H) fun v H => bndS (t v l H) fun l H => some (.next, l, H)
noncomputable def xsAuga (o : XE) (a : Nat) (op : BOp) (e : XE) : XS := fun l H => bnd (o l H) fun o H => (match getA H o a with
    | some x => bnd (e l H) fun b H => (match augV op x b with | some r => (match setA H o a r with | some H => some (.next, l, H) | none => none) | none => none)
    | none => none)
noncomputable def xsIfe (t : XE) (b o : XS) : XS := fun l H => bnd (t l H) fun v H => (match v with | .bool true => b l H | .bool false => o l H | _ => none)
noncomputable def xsWhl (t : XE) (b : XS) : XS := fun l H => whlN t b 1048576 l H
noncomputable def xsFor (t : CT) (e : XE) (b : XS) : XS := fun l H => bnd (e l H) fun v H => (match iterV H v with
    | some it => forN t b 1048576 it l H
    | none => none)
noncomputable def xsBrk : XS := fun l H => some (.brk, l, H)
noncomputable def xsCont : XS := fun l H => some (.cont, l, H)
noncomputable def xsNil : XS := fun l H => some (.next, l, H)
noncomputable def xsSeq (s r : XS) : XS := fun l H => match s l H with
    | some (.next, l, H) => r l H
    | x => x

section
variable (P : Pg) (call : CallT)
theorem evE_bad : evE P call .bad = xBad := by rfl
theorem exS_bad : exS P call .bad = xsBad := by rfl
theorem evE_lit (v : V) : evE P call (.lit v) = xLit v := by rfl
theorem evE_glob (v : V) : evE P call (.glob v) = xLit v := by rfl
theorem evE_loc (i : Nat) : evE P call (.loc i) = xLoc i := by rfl
theorem evE_tup (es) : evE P call (.tup es) = xTup (evL P call es) := by rfl
theorem evE_lst (es) : evE P call (.lst es) = xLst (evL P call es) := by rfl
theorem evE_dict (es) : evE P call (.dict es) = xDict (evD P call es) := by rfl
theorem evE_attr (e a) : evE P call (.attr e a) = xAttr (evE P call e) a := by rfl
theorem evE_idx (e i) : evE P call (.idx e i) = xIdx (evE P call e) (evE P call i) := by rfl
theorem evE_slice (e lo hi st) : evE P call (.slice e lo hi st) = xSlice (evE P call e) (evE P call lo) (evE P call hi) (evE P call st) := by rfl
theorem evE_bin (op a b) : evE P call (.bin op a b) = xBin op (evE P call a) (evE P call b) := by rfl
theorem evE_neg (a) : evE P call (.neg a) = xNeg (evE P call a) := by rfl
theorem evE_not (a) : evE P call (.not a) = xNot (evE P call a) := by rfl
theorem evE_cmp (op a b) : evE P call (.cmp op a b) = xCmp op (evE P call a) (evE P call b) := by rfl
theorem evE_and (es) : evE P call (.and es) = evAnd P call es := by rfl
theorem evE_or (es) : evE P call (.or es) = evOr P call es := by rfl
theorem evE_ife (t a b) : evE P call (.ife t a b) = xIfe (evE P call t) (evE P call a) (evE P call b) := by rfl
theorem evE_call (f es) : evE P call (.call f es) = xCall call (evE P call f) (evL P call es) := by rfl
theorem evE_new (c es) : evE P call (.new c es) = xNew P call c (evL P call es) := by rfl
theorem evE_meth (o m es) : evE P call (.meth o m es) = xMeth P call (evE P call o) m (evL P call es) := by rfl
theorem evE_bmeth (o m es) : evE P call (.bmeth o m es) = xBm (evE P call o) m (evL P call es) := by rfl
theorem evE_prim (p es) : evE P call (.prim p es) = xPrim p (evL P call es) := by rfl
theorem evE_isin (e k) : evE P call (.isin e k) = xIsin (evE P call e) k := by rfl
theorem evE_comp (elt src t k cs) : evE P call (.comp elt src t k cs) = xComp (evE P call elt) (evE P call src) t k (evC P call cs) := by rfl
theorem evL_nil : evL P call [] = xNil := by rfl
theorem evL_cons (e r) : evL P call (e :: r) = xCons (evE P call e) (evL P call r) := by rfl
theorem evD_nil : evD P call [] = xDNil := by rfl
theorem evAnd_nil : evAnd P call [] = xT := by rfl
theorem evAnd_cons (e r) : evAnd P call (e :: r) = xAnd (evE P call e) (evAnd P call r) := by rfl
theorem evOr_nil : evOr P call [] = xF := by rfl
theorem evOr_cons (e r) : evOr P call (e :: r) = xOr (evE P call e) (evOr P call r) := by rfl
theorem evC_nil : evC P call [] = xCT := by rfl
theorem evC_cons (e r) : evC P call (e :: r) = xCAnd (evE P call e) (evC P call r) := by rfl
theorem asgT_loc (ev) (i) : asgT ev (.loc i) = xTLoc i := by rfl
theorem asgT_attr (ev) (o a) : asgT ev (.attr o a) = xTAttr (ev o) a := by rfl
theorem asgT_idx (ev) (o i) : asgT ev (.idx o i) = xTIdx (ev o) (ev i) := by rfl
theorem asgT_tup (ev) (ts) : asgT ev (.tup ts) = xTTup (asgTs ev ts) := by rfl
theorem asgTs_nil (ev) : asgTs ev [] = xTNil := by funext vs l H; cases vs <;> simp [asgTs, xTNil]
theorem asgTs_cons (ev) (t r) : asgTs ev (t :: r) = xTCons (asgT ev t) (asgTs ev r) := by funext vs l H; cases vs <;> simp [asgTs, xTCons]
theorem exS_expr (e) : exS P call (.expr e) = xsExpr (evE P call e) := by rfl
theorem exS_ret (e) : exS P call (.ret e) = xsRet (evE P call e) := by rfl
theorem exS_asg (t e) : exS P call (.asg t e) = xsAsg (asgT (evE P call) t) (evE P call e) := by rfl
theorem exS_auga (o a op e) : exS P call (.auga o a op e) = xsAuga (evE P call o) a op (evE P call e) := by rfl
theorem exS_ife (t b o) : exS P call (.ife t b o) = xsIfe (evE P call t) (exB P call b) (exB P call o) := by rfl
theorem exS_whl (t b) : exS P call (.whl t b) = xsWhl (evE P call t) (exB P call b) := by rfl
theorem exS_for (t e b) : exS P call (.for t e b) = xsFor t (evE P call e) (exB P call b) := by rfl
theorem exS_brk : exS P call .brk = xsBrk := by rfl
theorem exS_cont : exS P call .cont = xsCont := by rfl
theorem exB_nil : exB P call [] = xsNil := by rfl
theorem exB_cons (s r) : exB P call (s :: r) = xsSeq (exS P call s) (exB P call r) := by rfl
end
structure XF where
  np : Nat
  ns : Nat
  body : CallT → XS
noncomputable def runX (F : XF) (call : CallT) (vs : List V) (H : Hp) : Option (V × Hp) :=
  if vs.length = F.np then (match F.body call (vs.map some ++ List.replicate (F.ns - F.np) none) H with
      | some (.ret v, _, H) => some (v, H)
      | some (.next, _, H) => some (.none, H)
      | _ => none) else none
noncomputable def callX (tbl : List XF) : Nat → CallT
  | 0, _, _, _ => none
  | d + 1, f, vs, H => match tbl[f]? with
    | some F => runX F (callX tbl d) vs H
    | none => none
theorem callX_eq {P : Pg} {tbl : List XF} (h : ∀ call, P.fns.map (fun fi => (fi.np, fi.ns, exB P call fi.body)) = tbl.map fun F => (F.np, F.ns, F.body call)) : ∀ d, callF P d = callX tbl d := by
  intro d
  induction d with
  | zero => funext f vs H; rfl
  | succ d ih =>
    funext f vs H
    rw [callF, callX, ← ih]
    have := congrArg (fun l => l[f]?) (h (callF P d))
    simp only [List.getElem?_map] at this
    cases h1 : P.fns[f]? with
    | none => rw [h1] at this; cases h2 : tbl[f]? with
      | none => rfl
      | some F => rw [h2] at this; cases this
    | some fi => rw [h1] at this; cases h2 : tbl[f]? with
      | none => rw [h2] at this; cases this
      | some F =>
        rw [h2] at this
        simp only [Option.map_some, Option.some.injEq, Prod.mk.injEq] at this
        obtain ⟨e1, e2, e3⟩ := this
        show _ = runX F (callF P d) vs H
        unfold runX
        rw [← e1, ← e2, ← e3]
        all_goals rfl
end Mine

namespace Mine

/-! Rules of the shallow machine: one a node, for walks with small proofs. -/
section
variable {l l1 l2 : Lo} {H H1 H2 H3 H4 : Hp} {v u o i a b : V} {vs : List V} {e f c t x : XE} {es : XL} {P : Pg} {call : CallT} {r : Option (V × Hp)}
theorem bnd_eq {α β : Type} {m : Option (α × Hp)} {a : α} {H : Hp} {g : α → Hp → Option β} (h : m = some (a, H)) : bnd m g = g a H := by rw [h]; rfl
theorem r_loc {i : Nat} (h : l[i]? = some (some v)) : xLoc i l H = some (v, H) := by unfold xLoc; rw [h]
theorem r_cons {r : XL} (h1 : e l H = some (v, H1)) (h2 : r l H1 = some (vs, H2)) : xCons e r l H = some (v :: vs, H2) := (bnd_eq h1).trans (bnd_eq h2)
theorem r_tup (h1 : es l H = some (vs, H1)) : xTup es l H = some (.tup vs, H1) := bnd_eq h1
theorem r_lst (h1 : es l H = some (vs, H1)) : xLst es l H = some (.loc H1.length, H1 ++ [.list vs]) := bnd_eq h1
theorem r_dict0 : xDict xDNil l H = some (.loc H.length, H ++ [.dict []]) := rfl
theorem r_attr {a : Nat} (h1 : e l H = some (o, H1)) (h2 : getA H1 o a = some v) : xAttr e a l H = some (v, H1) := (bnd_eq h1).trans (by rw [h2])
theorem r_idx (h1 : e l H = some (o, H1)) (h2 : f l H1 = some (i, H2)) (h3 : idxV H2 o i = some v) : xIdx e f l H = some (v, H2) := (bnd_eq h1).trans ((bnd_eq h2).trans (by rw [h3]))
theorem r_slice {w z : V} {lo hi st : XE} (h1 : e l H = some (o, H1)) (h2 : lo l H1 = some (u, H2)) (h3 : hi l H2 = some (w, H3)) (h4 : st l H3 = some (z, H4)) (h5 : sliceV o u w z H4 = r) : xSlice e lo hi st l H = r := (bnd_eq h1).trans ((bnd_eq h2).trans ((bnd_eq h3).trans ((bnd_eq h4).trans h5)))
theorem r_bin {op : BOp} (h1 : e l H = some (a, H1)) (h2 : f l H1 = some (b, H2)) (h3 : binV op a b H2 = r) : xBin op e f l H = r := (bnd_eq h1).trans ((bnd_eq h2).trans h3)
theorem r_neg {i : Int} (h1 : e l H = some (.int i, H1)) : xNeg e l H = some (.int (-i), H1) := bnd_eq h1
theorem r_not {q : Bool} (h1 : e l H = some (.bool q, H1)) : xNot e l H = some (.bool (!q), H1) := bnd_eq h1
theorem r_cmp {op : COp} {q : Bool} (h1 : e l H = some (a, H1)) (h2 : f l H1 = some (b, H2)) (h3 : cmpV H2 op a b = some q) : xCmp op e f l H = some (.bool q, H2) := (bnd_eq h1).trans ((bnd_eq h2).trans (by rw [h3]))
theorem r_and (h1 : e l H = some (.bool true, H1)) (h2 : f l H1 = r) : xAnd e f l H = r := (bnd_eq h1).trans h2
theorem r_and_f (h1 : e l H = some (.bool false, H1)) : xAnd e f l H = some (.bool false, H1) := bnd_eq h1
theorem r_or (h1 : e l H = some (.bool false, H1)) (h2 : f l H1 = r) : xOr e f l H = r := (bnd_eq h1).trans h2
theorem r_or_t (h1 : e l H = some (.bool true, H1)) : xOr e f l H = some (.bool true, H1) := bnd_eq h1
theorem r_ife_t (h1 : t l H = some (.bool true, H1)) (h2 : e l H1 = r) : xIfe t e f l H = r := (bnd_eq h1).trans h2
theorem r_ife_f (h1 : t l H = some (.bool false, H1)) (h2 : f l H1 = r) : xIfe t e f l H = r := (bnd_eq h1).trans h2
theorem r_call {k : Nat} (h1 : e l H = some (.fn k, H1)) (h2 : es l H1 = some (vs, H2)) (h3 : call k vs H2 = r) : xCall call e es l H = r := (bnd_eq h1).trans ((bnd_eq h2).trans h3)
theorem r_new {c : Nat} {ci : CI} (h1 : es l H = some (vs, H1)) (h2 : P.cls[c]? = some ci) (h3 : call ci.init (.loc H1.length :: vs) (H1 ++ [.inst c []]) = some (.none, H2)) : xNew P call c es l H = some (.loc H1.length, H2) :=
  (bnd_eq h1).trans (by rw [h2]; exact (bnd_eq h3))
theorem r_meth {n c m k : Nat} {fs : List (Nat × V)} {ci : CI} (h1 : e l H = some (.loc n, H1)) (h2 : H1[n]? = some (.inst c fs)) (h3 : P.cls[c]? = some ci) (h4 : lookN m ci.meths = some k) (h5 : es l H1 = some (vs, H2)) (h6 : call k (.loc n :: vs) H2 = r) : xMeth P call e m es l H = r := by
  refine (bnd_eq h1).trans ?_
  simp only [h2, h3, h4]
  exact (bnd_eq h5).trans h6
theorem r_bm {m : BM} (h1 : e l H = some (o, H1)) (h2 : bmK m o H1 = true) (h3 : es l H1 = some (vs, H2)) (h4 : bmV m o vs H2 = r) : xBm e m es l H = r := (bnd_eq h1).trans (by rw [if_pos h2]; exact (bnd_eq h3).trans h4)
theorem r_prim {p : Pr} (h1 : es l H = some (vs, H1)) (h2 : primV p vs H1 = r) : xPrim p es l H = r := (bnd_eq h1).trans h2
theorem r_isin {k : IK} {q : Bool} (h1 : e l H = some (v, H1)) (h2 : isV v k = some q) : xIsin e k l H = some (.bool q, H1) := (bnd_eq h1).trans (by rw [h2])
theorem r_comp {ct : CT} {k : Nat} {cs : XC} {it : It} (h1 : e l H = some (v, H1)) (h2 : iterV H1 v = some it) (h3 : compN cs x ct (l ++ List.replicate k none) 1048576 it [] H1 = some (vs, H2)) (h4 : vs.length ≤ lim) : xComp x e ct k cs l H = some (.loc H2.length, H2 ++ [.list vs]) :=
  (bnd_eq h1).trans (by rw [h2]; exact (bnd_eq h3).trans (if_pos h4))
theorem t_loc0 {i : Nat} : xTLoc i v l H = some (l.set i (some v), H) := rfl
theorem t_attr0 {a : Nat} (h1 : e l H = some (o, H1)) (h2 : setA H1 o a v = some H2) : xTAttr e a v l H = some (l, H2) := (bnd_eq h1).trans (by rw [h2])
theorem t_idx0 (h1 : e l H = some (o, H1)) (h2 : f l H1 = some (i, H2)) (h3 : setI H2 o i v = some H3) : xTIdx e f v l H = some (l, H3) := (bnd_eq h1).trans ((bnd_eq h2).trans (by rw [h3]))
theorem t_tup0 {ts : XTs} {q : Option (Lo × Hp)} (h1 : unpk H v = some vs) (h2 : ts vs l H = q) : xTTup ts v l H = q := by unfold xTTup; rw [h1]; exact h2
theorem t_cons0 {tt : XT} {rr : XTs} {q : Option (Lo × Hp)} (h1 : tt v l H = some (l1, H1)) (h2 : rr vs l1 H1 = q) : xTCons tt rr (v :: vs) l H = q := by unfold xTCons; show bndS _ _ = _; rw [h1]; exact h2
theorem t_nil0 : xTNil [] l H = some (l, H) := rfl
theorem s_expr0 (h1 : e l H = some (v, H1)) : xsExpr e l H = some (.next, l, H1) := bnd_eq h1
theorem s_ret0 (h1 : e l H = some (v, H1)) : xsRet e l H = some (.ret v, l, H1) := bnd_eq h1
theorem s_asg0 {tt : XT} (h1 : e l H = some (v, H1)) (h2 : tt v l H1 = some (l2, H2)) : xsAsg tt e l H = some (.next, l2, H2) := (bnd_eq h1).trans (by rw [h2]; rfl)
theorem s_auga0 {k : Nat} {op : BOp} (h1 : e l H = some (o, H1)) (h2 : getA H1 o k = some a) (h3 : f l H1 = some (b, H2)) (h4 : augV op a b = some v) (h5 : setA H2 o k v = some H3) : xsAuga e k op f l H = some (.next, l, H3) :=
  (bnd_eq h1).trans (by rw [h2]; exact (bnd_eq h3).trans (by rw [h4]; dsimp only; rw [h5]))
theorem s_if_t {s1 s2 : XS} {q : SR} (h1 : t l H = some (.bool true, H1)) (h2 : s1 l H1 = q) : xsIfe t s1 s2 l H = q := (bnd_eq h1).trans h2
theorem s_if_f {s1 s2 : XS} {q : SR} (h1 : t l H = some (.bool false, H1)) (h2 : s2 l H1 = q) : xsIfe t s1 s2 l H = q := (bnd_eq h1).trans h2
theorem s_seq {s1 s2 : XS} {q : SR} (h1 : s1 l H = some (.next, l1, H1)) (h2 : s2 l1 H1 = q) : xsSeq s1 s2 l H = q := by unfold xsSeq; rw [h1]; exact h2
theorem s_stop {s1 s2 : XS} (h1 : s1 l H = some (.ret v, l1, H1)) : xsSeq s1 s2 l H = some (.ret v, l1, H1) := by unfold xsSeq; rw [h1]
theorem s_stop_b {s1 s2 : XS} (h1 : s1 l H = some (.brk, l1, H1)) : xsSeq s1 s2 l H = some (.brk, l1, H1) := by unfold xsSeq; rw [h1]
theorem s_stop_c {s1 s2 : XS} (h1 : s1 l H = some (.cont, l1, H1)) : xsSeq s1 s2 l H = some (.cont, l1, H1) := by unfold xsSeq; rw [h1]
theorem s_nil0 : xsNil l H = some (.next, l, H) := rfl
theorem s_for0 {ct : CT} {s1 : XS} {it : It} {q : SR} (h1 : e l H = some (v, H1)) (h2 : iterV H1 v = some it) (h3 : forN ct s1 1048576 it l H1 = q) : xsFor ct e s1 l H = q := (bnd_eq h1).trans (by rw [h2]; exact h3)
theorem run_ret {np ns : Nat} {body : CallT → XS} (h0 : vs.length = np) (h1 : body call (vs.map some ++ List.replicate (ns - np) none) H = some (.ret v, l1, H1)) : runX ⟨np, ns, body⟩ call vs H = some (v, H1) := by
  unfold runX; rw [if_pos h0]; dsimp only; rw [h1]
theorem run_next {np ns : Nat} {body : CallT → XS} (h0 : vs.length = np) (h1 : body call (vs.map some ++ List.replicate (ns - np) none) H = some (.next, l1, H1)) : runX ⟨np, ns, body⟩ call vs H = some (.none, H1) := by
  unfold runX; rw [if_pos h0]; dsimp only; rw [h1]
theorem call_at {tbl : List XF} {d k : Nat} {F : XF} (h : tbl[k]? = some F) (h1 : runX F (callX tbl d) vs H = r) : callX tbl (d + 1) k vs H = r := by rw [callX, h]; exact h1
/- looks into the heap -/
theorem g_inst {n c k : Nat} {fs : List (Nat × V)} (h : H[n]? = some (.inst c fs)) (h2 : lookN k fs = some v) : getA H (.loc n) k = some v := by
  show atI H n _ = _; unfold atI; rw [h]; exact h2
theorem g_setA {n c k : Nat} {fs : List (Nat × V)} (h : H[n]? = some (.inst c fs)) : setA H (.loc n) k v = some (H.set n (.inst c (putN k v fs))) := by
  show atI H n _ = _; unfold atI; rw [h]
theorem atL_at {β : Type} {n : Nat} {ls : List V} {g : List V → Option β} (h : H[n]? = some (.list ls)) : atL H n g = g ls := by unfold atL; rw [h]
theorem atD_at {β : Type} {n : Nat} {ls : List (List Nat × V)} {g : List (List Nat × V) → Option β} (h : H[n]? = some (.dict ls)) : atD H n g = g ls := by unfold atD; rw [h]
theorem gd_at {β : Type} {c : Prop} [Decidable c] {x : β} (h : c) : gd c x = some x := if_pos h
theorem g_idxL {n : Nat} {ls : List V} {k : Int} (h : H[n]? = some (.list ls)) (h2 : idxL ls k = some v) : idxV H (.loc n) (.int k) = some v := (atL_at h).trans h2
theorem g_unpk {n : Nat} {ls : List V} (h : H[n]? = some (.list ls)) : unpk H (.loc n) = some ls := by unfold unpk; dsimp only; rw [h]
theorem g_setI {n : Nat} {ls : List V} {k : Int} (h : H[n]? = some (.list ls)) (h2 : 0 ≤ k ∧ k.toNat < ls.length) : setI H (.loc n) (.int k) v = some (H.set n (.list (ls.set k.toNat v))) := (atL_at h).trans (gd_at h2)
theorem g_len {n : Nat} {ls : List V} (h : H[n]? = some (.list ls)) : primV .len [.loc n] H = some (.int ls.length, H) := by
  show (lenV (.loc n) H).map _ = _
  rw [show lenV (.loc n) H = some ls.length from atL_at h]; rfl
theorem g_append {n : Nat} {ls : List V} (h : H[n]? = some (.list ls)) (h2 : ls.length < lim) : bmV .append (.loc n) [v] H = some (.none, H.set n (.list (ls ++ [v]))) := (atL_at h).trans (gd_at h2)
theorem g_kindL {n : Nat} {ls : List V} {m : BM} (h : H[n]? = some (.list ls)) (hm : (match m with | .append => true | .pop => true | .extend => true | .reverse => true | _ => false) = true) : bmK m (.loc n) H = true := by
  unfold bmK; simp only [h]; exact hm
theorem g_idx0 {ls : List V} {k : Nat} {j : Int} (hj : j = (k : Int)) (h : ls[k]? = some v) : idxL ls j = some v := by subst hj; unfold idxL; rw [if_pos (Int.natCast_nonneg k), Int.toNat_natCast]; exact h
theorem r_lit : xLit v l H = some (v, H) := rfl
theorem r_nil : xNil l H = some ([], H) := rfl
theorem c_lt_t {i j : Int} (h : i < j) : cmpV H .lt (.int i) (.int j) = some true := by show some (decide _) = _; rw [decide_eq_true h]
theorem c_lt_f {i j : Int} (h : ¬ i < j) : cmpV H .lt (.int i) (.int j) = some false := by show some (decide _) = _; rw [decide_eq_false h]
theorem c_gt_t {i j : Int} (h : j < i) : cmpV H .gt (.int i) (.int j) = some true := by show some (decide _) = _; rw [decide_eq_true h]
theorem c_gt_f {i j : Int} (h : ¬ j < i) : cmpV H .gt (.int i) (.int j) = some false := by show some (decide _) = _; rw [decide_eq_false h]
theorem c_le_t {i j : Int} (h : i ≤ j) : cmpV H .le (.int i) (.int j) = some true := by show some (decide _) = _; rw [decide_eq_true h]
theorem c_le_f {i j : Int} (h : ¬ i ≤ j) : cmpV H .le (.int i) (.int j) = some false := by show some (decide _) = _; rw [decide_eq_false h]
theorem c_eq_t {i j : Int} (h : i = j) : cmpV H .eq (.int i) (.int j) = some true := by subst h; show some (i == i) = _; rw [beq_self_eq_true]
theorem c_eq_f {i j : Int} (h : i ≠ j) : cmpV H .eq (.int i) (.int j) = some false := by show some (i == j) = _; rw [beq_eq_false_iff_ne.mpr h]
theorem set_self {n : Nat} {x : O} (h : n < H.length) : (H.set n x)[n]? = some x := List.getElem?_set_self h
theorem set_off {n m : Nat} {x : O} {y : Option O} (h : n ≠ m) (h2 : H[m]? = y) : (H.set n x)[m]? = y := (List.getElem?_set_ne h).trans h2
theorem app_in {n : Nat} {x : O} {y : Hp} (h : H[n]? = some x) : (H ++ y)[n]? = some x := by
  rw [List.getElem?_append_left (List.getElem?_eq_some_iff.mp h).1]; exact h
theorem app_new {x : O} : (H ++ [x])[H.length]? = some x := by simp

/- loops -/
variable {cs : XC} {ct : CT} {it it' : It} {acc : List V} {n : Nat} {bd : XS}
theorem rc_t : xCT l H = some (true, H) := rfl
theorem rc_and {rs : XC} {q : Option (Bool × Hp)} (h1 : e l H = some (.bool true, H1)) (h2 : rs l H1 = q) : xCAnd e rs l H = q := (bnd_eq h1).trans h2
theorem rc_and_f {rs : XC} (h1 : e l H = some (.bool false, H1)) : xCAnd e rs l H = some (false, H1) := bnd_eq h1
theorem cn_end (h : nextI H it = some none) : compN cs x ct l (n + 1) it acc H = some (acc.reverse, H) := by rw [compN, h]
theorem cn_step {w : V} {q : Option (List V × Hp)} (h1 : nextI H it = some (some (v, it'))) (h2 : setCT ct v l = some l1) (h3 : cs l1 H = some (true, H1)) (h4 : x l1 H1 = some (w, H2)) (h5 : compN cs x ct l n it' (w :: acc) H2 = q) : compN cs x ct l (n + 1) it acc H = q := by
  rw [compN, h1]; dsimp only; rw [h2]; dsimp only; rw [bnd_eq h3, if_pos rfl, bnd_eq h4]; exact h5
theorem cn_skip {q : Option (List V × Hp)} (h1 : nextI H it = some (some (v, it'))) (h2 : setCT ct v l = some l1) (h3 : cs l1 H = some (false, H1)) (h5 : compN cs x ct l n it' acc H1 = q) : compN cs x ct l (n + 1) it acc H = q := by
  rw [compN, h1]; dsimp only; rw [h2]; dsimp only; rw [bnd_eq h3]; exact h5
theorem fn_end (h : nextI H it = some none) : forN ct bd (n + 1) it l H = some (.next, l, H) := by rw [forN, h]
theorem fn_next {q : SR} (h1 : nextI H it = some (some (v, it'))) (h2 : setCT ct v l = some l1) (h3 : bd l1 H = some (.next, l2, H2)) (h4 : forN ct bd n it' l2 H2 = q) : forN ct bd (n + 1) it l H = q := by
  rw [forN, h1]; dsimp only; rw [h2]; dsimp only; rw [h3]; exact h4
theorem fn_cont {q : SR} (h1 : nextI H it = some (some (v, it'))) (h2 : setCT ct v l = some l1) (h3 : bd l1 H = some (.cont, l2, H2)) (h4 : forN ct bd n it' l2 H2 = q) : forN ct bd (n + 1) it l H = q := by
  rw [forN, h1]; dsimp only; rw [h2]; dsimp only; rw [h3]; exact h4
theorem fn_ret (h1 : nextI H it = some (some (v, it'))) (h2 : setCT ct v l = some l1) (h3 : bd l1 H = some (.ret u, l2, H2)) : forN ct bd (n + 1) it l H = some (.ret u, l2, H2) := by
  rw [forN, h1]; dsimp only; rw [h2]; dsimp only; rw [h3]
theorem wn_end (h1 : e l H = some (.bool false, H1)) : whlN e bd (n + 1) l H = some (.next, l, H1) := by rw [whlN, bnd_eq h1]
theorem wn_next {q : SR} (h1 : e l H = some (.bool true, H1)) (h2 : bd l H1 = some (.next, l2, H2)) (h3 : whlN e bd n l2 H2 = q) : whlN e bd (n + 1) l H = q := by
  rw [whlN, bnd_eq h1]; dsimp only; rw [h2]; exact h3
theorem wn_brk (h1 : e l H = some (.bool true, H1)) (h2 : bd l H1 = some (.brk, l2, H2)) : whlN e bd (n + 1) l H = some (.next, l2, H2) := by
  rw [whlN, bnd_eq h1]; dsimp only; rw [h2]
theorem wn_ret (h1 : e l H = some (.bool true, H1)) (h2 : bd l H1 = some (.ret u, l2, H2)) : whlN e bd (n + 1) l H = some (.ret u, l2, H2) := by
  rw [whlN, bnd_eq h1]; dsimp only; rw [h2]
theorem n_lst {m j : Nat} {ls : List V} (h : H[m]? = some (.list ls)) (h2 : ls[j]? = some v) : nextI H (.lst m j) = some (some (v, .lst m (j + 1))) := by simp only [nextI, h, h2]
theorem n_lst0 {m j : Nat} {ls : List V} (h : H[m]? = some (.list ls)) (h2 : ls[j]? = none) : nextI H (.lst m j) = some none := by simp only [nextI, h, h2]
theorem i_lst {m : Nat} {ls : List V} (h : H[m]? = some (.list ls)) : iterV H (.loc m) = some (.lst m 0) := by simp only [iterV, h]
theorem i_rng {p q k : Int} (h1 : p.natAbs < 1048576) (h2 : q.natAbs < 1048576) (h3 : k = 1 ∨ k = -1) : iterV H (.rng p q k) = some (.rng p k (rngLen p q k)) := if_pos ⟨h1, h2, h3⟩
theorem rng_up {p q : Int} {m : Nat} (h : q = p + m) : rngLen p q 1 = m := by
  subst h
  unfold rngLen
  simp only [show (0 : Int) < 1 by decide, if_true, Int.ediv_one]
  split <;> omega
theorem g_join {m : Nat} {ls : List V} {ss : List (List Nat)} (h : H[m]? = some (.list ls)) (h2 : strsOf ls = some ss) (h3 : (catL ss).length ≤ lim) : bmV .join (.str []) [.loc m] H = some (.str (catL ss), H) := by
  show (joinV H m).map _ = _
  have : joinV H m = some (.str (catL ss)) := (atL_at h).trans (by unfold strsOf'; rw [h2]; exact gd_at h3)
  rw [this]; rfl
theorem p_range1 {a : Int} (h : a.natAbs < 1048576) : primV .range [.int a] H = some (.rng 0 a 1, H) := by
  show (gd (a.natAbs < 1048576) (V.rng 0 a 1)).map _ = _
  rw [gd_at h]; rfl
theorem p_range2 {a b : Int} (h : a.natAbs < 1048576 ∧ b.natAbs < 1048576) : primV .range [.int a, .int b] H = some (.rng a b 1, H) := by
  show (gd (a.natAbs < 1048576 ∧ b.natAbs < 1048576) (V.rng a b 1)).map _ = _
  rw [gd_at h]; rfl
theorem p_range3 {a b c : Int} (h : a.natAbs < 1048576 ∧ b.natAbs < 1048576 ∧ (c = 1 ∨ c = -1)) : primV .range [.int a, .int b, .int c] H = some (.rng a b c, H) := by
  show (gd (a.natAbs < 1048576 ∧ b.natAbs < 1048576 ∧ (c = 1 ∨ c = -1)) (V.rng a b c)).map _ = _
  rw [gd_at h]; rfl
end
end Mine

namespace Mine
noncomputable def xb_row_of (P : Pg) (call : CallT) : XS := (xsSeq (xsAsg (xTTup (xTCons (xTLoc 2) (xTCons (xTLoc 3) xTNil))) (xTup (xCons (xLst xNil) (xCons (xLst (xCons (xLoc 0) xNil)) xNil)))) (xsSeq (xsWhl (xCmp .gt (xPrim .len (xCons (xLoc 3) xNil)) (xLit (.int 0))) (xsSeq (xsAsg (xTLoc 4) (xBm (xLoc 3) .pop xNil)) (xsSeq (xsIfe (xCmp .eq (xIdx (xLoc 4) (xLit (.int 0))) (xLoc 1)) (xsSeq (xsExpr (xBm (xLoc 3) .extend (xCons (xLst (xCons (xIdx (xLoc 4) (xLit (.int 2))) (xCons (xIdx (xLoc 4) (xLit (.int 1))) xNil))) xNil))) xsNil) (xsSeq (xsExpr (xBm (xLoc 2) .append (xCons (xLoc 4) xNil))) xsNil)) xsNil))) (xsSeq (xsRet (xLoc 2)) xsNil)))
theorem xb_row_of_eq (P : Pg) (call : CallT) : exB P call b_row_of = xb_row_of P call := by delta b_row_of xb_row_of; simp only [evE_bad, exS_bad, evE_lit, evE_glob, evE_loc, evE_tup, evE_lst, evE_dict, evE_attr, evE_idx, evE_slice, evE_bin, evE_neg, evE_not, evE_cmp, evE_and, evE_or, evE_ife, evE_call, evE_new, evE_meth, evE_bmeth, evE_prim, evE_isin, evE_comp, evL_nil, evL_cons, evD_nil, evAnd_nil, evAnd_cons, evOr_nil, evOr_cons, evC_nil, evC_cons, asgT_loc, asgT_attr, asgT_idx, asgT_tup, asgTs_nil, asgTs_cons, exS_expr, exS_ret, exS_asg, exS_auga, exS_ife, exS_whl, exS_for, exS_brk, exS_cont, exB_nil, exB_cons]
noncomputable def xb_is_plain_text (P : Pg) (call : CallT) : XS := (xsSeq (xsRet (xAnd (xCmp .eq (xIdx (xLoc 0) (xLit (.int 0))) (xLit (.str [99, 104, 97, 114, 115]))) (xAnd (xIsin (xIdx (xLoc 0) (xLit (.int 1))) .str) xT))) xsNil)
theorem xb_is_plain_text_eq (P : Pg) (call : CallT) : exB P call b_is_plain_text = xb_is_plain_text P call := by kernel_rfl
noncomputable def xb_with_texts_joined (P : Pg) (call : CallT) : XS := (xsSeq (xsAsg (xTLoc 1) (xLst xNil)) (xsSeq (xsFor (.one 2) (xLoc 0) (xsSeq (xsIfe (xCall call (xLit (.fn 1)) (xCons (xLoc 2) xNil)) (xsSeq (xsIfe (xCmp .eq (xIdx (xLoc 2) (xLit (.int 1))) (xLit (.str []))) (xsSeq xsCont xsNil) xsNil) (xsSeq (xsIfe (xAnd (xCmp .gt (xPrim .len (xCons (xLoc 1) xNil)) (xLit (.int 0))) (xAnd (xCall call (xLit (.fn 1)) (xCons (xIdx (xLoc 1) (xBin .sub (xPrim .len (xCons (xLoc 1) xNil)) (xLit (.int 1)))) xNil)) xT)) (xsSeq (xsAsg (xTLoc 2) (xTup (xCons (xLit (.str [99, 104, 97, 114, 115])) (xCons (xBin .add (xIdx (xBm (xLoc 1) .pop xNil) (xLit (.int 1))) (xIdx (xLoc 2) (xLit (.int 1)))) xNil)))) xsNil) xsNil) xsNil)) xsNil) (xsSeq (xsExpr (xBm (xLoc 1) .append (xCons (xLoc 2) xNil))) xsNil))) (xsSeq (xsRet (xLoc 1)) xsNil)))
theorem xb_with_texts_joined_eq (P : Pg) (call : CallT) : exB P call b_with_texts_joined = xb_with_texts_joined P call := by kernel_rfl
noncomputable def xb_PatternCode_init (P : Pg) (call : CallT) : XS := (xsSeq (xsAsg (xTAttr (xLoc 0) 0) (xLst xNil)) xsNil)
theorem xb_PatternCode_init_eq (P : Pg) (call : CallT) : exB P call b_PatternCode_init = xb_PatternCode_init P call := by kernel_rfl
noncomputable def xb_PatternCode_emit (P : Pg) (call : CallT) : XS := (xsSeq (xsExpr (xBm (xAttr (xLoc 0) 0) .append (xCons (xLoc 1) xNil))) (xsSeq (xsRet (xBin .sub (xPrim .len (xCons (xAttr (xLoc 0) 0) xNil)) (xLit (.int 1)))) xsNil))
theorem xb_PatternCode_emit_eq (P : Pg) (call : CallT) : exB P call b_PatternCode_emit = xb_PatternCode_emit P call := by kernel_rfl
noncomputable def xb_PatternCode_put (P : Pg) (call : CallT) : XS := (xsSeq (xsAsg (xTLoc 2) (xLst (xCons (xTup (xCons (xLit (.str [112, 117, 116])) (xCons (xLoc 1) xNil))) xNil))) (xsSeq (xsWhl (xCmp .gt (xPrim .len (xCons (xLoc 2) xNil)) (xLit (.int 0))) (xsSeq (xsAsg (xTTup (xTCons (xTLoc 3) (xTCons (xTLoc 4) xTNil))) (xBm (xLoc 2) .pop xNil)) (xsSeq (xsIfe (xCmp .eq (xLoc 3) (xLit (.str [112, 117, 116]))) (xsSeq (xsExpr (xBm (xLoc 2) .extend (xCons (xSlice (xMeth P call (xLoc 0) 103 (xCons (xLoc 4) xNil)) (xLit .none) (xLit .none) (xNeg (xLit (.int 1)))) xNil))) xsNil) (xsSeq (xsIfe (xCmp .eq (xLoc 3) (xLit (.str [101, 109, 105, 116]))) (xsSeq (xsExpr (xMeth P call (xLoc 0) 101 (xCons (xLoc 4) xNil))) xsNil) (xsSeq (xsExpr (xMeth P call (xLoc 0) 106 (xCons (xLoc 3) (xCons (xLoc 4) xNil)))) xsNil)) xsNil)) xsNil))) xsNil))
theorem xb_PatternCode_put_eq (P : Pg) (call : CallT) : exB P call b_PatternCode_put = xb_PatternCode_put P call := by delta b_PatternCode_put xb_PatternCode_put; simp only [evE_bad, exS_bad, evE_lit, evE_glob, evE_loc, evE_tup, evE_lst, evE_dict, evE_attr, evE_idx, evE_slice, evE_bin, evE_neg, evE_not, evE_cmp, evE_and, evE_or, evE_ife, evE_call, evE_new, evE_meth, evE_bmeth, evE_prim, evE_isin, evE_comp, evL_nil, evL_cons, evD_nil, evAnd_nil, evAnd_cons, evOr_nil, evOr_cons, evC_nil, evC_cons, asgT_loc, asgT_attr, asgT_idx, asgT_tup, asgTs_nil, asgTs_cons, exS_expr, exS_ret, exS_asg, exS_auga, exS_ife, exS_whl, exS_for, exS_brk, exS_cont, exB_nil, exB_cons]
noncomputable def xb_PatternCode_begun (P : Pg) (call : CallT) : XS := (xsSeq (xsAsg (xTLoc 2) (xIdx (xLoc 1) (xLit (.int 0)))) (xsSeq (xsIfe (xCmp .eq (xLoc 2) (xLit (.str [99, 97, 116]))) (xsSeq (xsRet (xComp (xTup (xCons (xLit (.str [112, 117, 116])) (xCons (xLoc 3) xNil))) (xCall call (xLit (.fn 2)) (xCons (xCall call (xLit (.fn 0)) (xCons (xLoc 1) (xCons (xLit (.str [99, 97, 116])) xNil))) xNil)) (.one 3) 1 xCT)) xsNil) xsNil) (xsSeq (xsIfe (xCmp .eq (xLoc 2) (xLit (.str [97, 108, 116]))) (xsSeq (xsRet (xMeth P call (xLoc 0) 104 (xCons (xCall call (xLit (.fn 0)) (xCons (xLoc 1) (xCons (xLit (.str [97, 108, 116])) xNil))) xNil))) xsNil) xsNil) (xsSeq (xsIfe (xCmp .eq (xLoc 2) (xLit (.str [97, 114, 98, 110, 111]))) (xsSeq (xsRet (xMeth P call (xLoc 0) 105 (xCons (xIdx (xLoc 1) (xLit (.int 1))) xNil))) xsNil) xsNil) (xsSeq (xsIfe (xOr (xCmp .eq (xLoc 2) (xLit (.str [108, 97, 116, 101, 114]))) (xOr (xCmp .eq (xLoc 2) (xLit (.str [110, 111, 119]))) xF)) (xsSeq (xsExpr (xMeth P call (xLoc 0) 101 (xCons (xTup (xCons (xLit (.str [109, 97, 114, 107])) xNil)) xNil))) (xsSeq (xsRet (xLst (xCons (xTup (xCons (xLit (.str [112, 117, 116])) (xCons (xIdx (xLoc 1) (xLit (.int 1))) xNil))) (xCons (xTup (xCons (xLit (.str [101, 109, 105, 116])) (xCons (xTup (xCons (xIfe (xCmp .eq (xLoc 2) (xLit (.str [108, 97, 116, 101, 114]))) (xLit (.str [110, 97, 109, 101])) (xLit (.str [115, 101, 116]))) (xCons (xIdx (xLoc 1) (xLit (.int 2))) xNil))) xNil))) xNil)))) xsNil)) xsNil) (xsSeq (xsIfe (xCmp .isin (xLoc 2) (xLit (.tup [(.str [99, 104, 97, 114, 115]), (.str [108, 101, 110]), (.str [112, 111, 115]), (.str [114, 112, 111, 115]), (.str [116, 97, 98]), (.str [114, 116, 97, 98]), (.str [97, 110, 121]), (.str [110, 111, 116, 97, 110, 121]), (.str [115, 112, 97, 110]), (.str [98, 114, 101, 97, 107]), (.str [114, 101, 109])]))) (xsSeq (xsExpr (xMeth P call (xLoc 0) 101 (xCons (xTup (xCons (xLit (.str [111, 110, 101])) (xCons (xLoc 2) (xCons (xIfe (xCmp .gt (xPrim .len (xCons (xLoc 1) xNil)) (xLit (.int 1))) (xIdx (xLoc 1) (xLit (.int 1))) (xLit .none)) xNil)))) xNil))) xsNil) (xsSeq (xsIfe (xOr (xCmp .eq (xLoc 2) (xLit (.str [97, 114, 98]))) (xOr (xCmp .eq (xLoc 2) (xLit (.str [98, 97, 108]))) xF)) (xsSeq (xsExpr (xMeth P call (xLoc 0) 101 (xCons (xTup (xCons (xLit (.str [119, 97, 121, 115])) (xCons (xLoc 2) xNil))) xNil))) xsNil) (xsSeq (xsExpr (xMeth P call (xLoc 0) 101 (xCons (xIfe (xCmp .isin (xLoc 2) (xLit (.tup [(.str [102, 101, 110, 99, 101]), (.str [102, 97, 105, 108]), (.str [97, 98, 111, 114, 116]), (.str [115, 117, 99, 99, 101, 101, 100])]))) (xTup (xCons (xLoc 2) xNil)) (xTup (xCons (xIfe (xCmp .eq (xLoc 2) (xLit (.str [99, 117, 114, 115, 111, 114]))) (xLit (.str [112, 108, 97, 99, 101])) (xLit (.str [97, 115, 107]))) (xCons (xIdx (xLoc 1) (xLit (.int 1))) xNil)))) xNil))) xsNil)) xsNil)) (xsSeq (xsRet (xLst xNil)) xsNil)))))))
theorem xb_PatternCode_begun_eq (P : Pg) (call : CallT) : exB P call b_PatternCode_begun = xb_PatternCode_begun P call := by kernel_rfl
noncomputable def xb_PatternCode_choice (P : Pg) (call : CallT) : XS := (xsSeq (xsAsg (xTTup (xTCons (xTLoc 2) (xTCons (xTLoc 3) xTNil))) (xTup (xCons (xLst xNil) (xCons (xLst (xCons (xNeg (xLit (.int 1))) (xCons (xLst xNil) xNil))) xNil)))) (xsSeq (xsFor (.one 4) (xSlice (xLoc 1) (xLit .none) (xBin .sub (xPrim .len (xCons (xLoc 1) xNil)) (xLit (.int 1))) (xLit .none)) (xsSeq (xsExpr (xBm (xLoc 2) .extend (xCons (xLst (xCons (xTup (xCons (xLit (.str [111, 112, 101, 110])) (xCons (xLoc 3) xNil))) (xCons (xTup (xCons (xLit (.str [112, 117, 116])) (xCons (xLoc 4) xNil))) (xCons (xTup (xCons (xLit (.str [115, 104, 117, 116])) (xCons (xLoc 3) xNil))) xNil)))) xNil))) xsNil)) (xsSeq (xsRet (xBin .add (xLoc 2) (xLst (xCons (xTup (xCons (xLit (.str [112, 117, 116])) (xCons (xIdx (xLoc 1) (xBin .sub (xPrim .len (xCons (xLoc 1) xNil)) (xLit (.int 1)))) xNil))) (xCons (xTup (xCons (xLit (.str [109, 101, 101, 116])) (xCons (xLoc 3) xNil))) xNil))))) xsNil)))
theorem xb_PatternCode_choice_eq (P : Pg) (call : CallT) : exB P call b_PatternCode_choice = xb_PatternCode_choice P call := by kernel_rfl
noncomputable def xb_PatternCode_repeat (P : Pg) (call : CallT) : XS := (xsSeq (xsAsg (xTLoc 2) (xMeth P call (xLoc 0) 101 (xCons (xLit .none) xNil))) (xsSeq (xsAsg (xTLoc 3) (xMeth P call (xLoc 0) 101 (xCons (xLit .none) xNil))) (xsSeq (xsAsg (xTIdx (xAttr (xLoc 0) 0) (xLoc 2)) (xTup (xCons (xLit (.str [115, 112, 108, 105, 116])) (xCons (xPrim .len (xCons (xAttr (xLoc 0) 0) xNil)) xNil)))) (xsSeq (xsExpr (xMeth P call (xLoc 0) 101 (xCons (xTup (xCons (xLit (.str [109, 97, 114, 107])) xNil)) xNil))) (xsSeq (xsRet (xLst (xCons (xTup (xCons (xLit (.str [112, 117, 116])) (xCons (xLoc 1) xNil))) (xCons (xTup (xCons (xLit (.str [101, 109, 105, 116])) (xCons (xTup (xCons (xLit (.str [103, 97, 105, 110])) xNil)) xNil))) (xCons (xTup (xCons (xLit (.str [101, 109, 105, 116])) (xCons (xTup (xCons (xLit (.str [106, 117, 109, 112])) (xCons (xLoc 2) xNil))) xNil))) (xCons (xTup (xCons (xLit (.str [109, 101, 101, 116])) (xCons (xLst (xCons (xLoc 2) (xCons (xLst (xCons (xLoc 3) xNil)) xNil))) xNil))) xNil)))))) xsNil)))))
theorem xb_PatternCode_repeat_eq (P : Pg) (call : CallT) : exB P call b_PatternCode_repeat = xb_PatternCode_repeat P call := by kernel_rfl
noncomputable def xb_PatternCode_bound (P : Pg) (call : CallT) : XS := (xsSeq (xsIfe (xCmp .eq (xLoc 1) (xLit (.str [111, 112, 101, 110]))) (xsSeq (xsAsg (xTIdx (xLoc 2) (xLit (.int 0))) (xMeth P call (xLoc 0) 101 (xCons (xLit .none) xNil))) xsNil) (xsSeq (xsIfe (xCmp .eq (xLoc 1) (xLit (.str [115, 104, 117, 116]))) (xsSeq (xsExpr (xBm (xIdx (xLoc 2) (xLit (.int 1))) .append (xCons (xMeth P call (xLoc 0) 101 (xCons (xLit .none) xNil)) xNil))) (xsSeq (xsAsg (xTIdx (xAttr (xLoc 0) 0) (xIdx (xLoc 2) (xLit (.int 0)))) (xTup (xCons (xLit (.str [115, 112, 108, 105, 116])) (xCons (xPrim .len (xCons (xAttr (xLoc 0) 0) xNil)) xNil)))) xsNil)) (xsSeq (xsFor (.one 3) (xIdx (xLoc 2) (xLit (.int 1))) (xsSeq (xsAsg (xTIdx (xAttr (xLoc 0) 0) (xLoc 3)) (xTup (xCons (xLit (.str [106, 117, 109, 112])) (xCons (xPrim .len (xCons (xAttr (xLoc 0) 0) xNil)) xNil)))) xsNil)) xsNil)) xsNil)) xsNil)
theorem xb_PatternCode_bound_eq (P : Pg) (call : CallT) : exB P call b_PatternCode_bound = xb_PatternCode_bound P call := by kernel_rfl
noncomputable def xb_straightened (P : Pg) (call : CallT) : XS := (xsSeq (xsAsg (xTLoc 1) (xLst xNil)) (xsSeq (xsFor (.one 2) (xLoc 0) (xsSeq (xsIfe (xCmp .isin (xIdx (xLoc 2) (xLit (.int 0))) (xTup (xCons (xLit (.str [106, 117, 109, 112])) (xCons (xLit (.str [115, 112, 108, 105, 116])) xNil)))) (xsSeq (xsAsg (xTLoc 3) (xIdx (xLoc 2) (xLit (.int 1)))) (xsSeq (xsWhl (xCmp .eq (xIdx (xIdx (xLoc 0) (xLoc 3)) (xLit (.int 0))) (xLit (.str [106, 117, 109, 112]))) (xsSeq (xsAsg (xTLoc 3) (xIdx (xIdx (xLoc 0) (xLoc 3)) (xLit (.int 1)))) xsNil)) (xsSeq (xsAsg (xTLoc 2) (xTup (xCons (xIdx (xLoc 2) (xLit (.int 0))) (xCons (xLoc 3) xNil)))) xsNil))) xsNil) (xsSeq (xsExpr (xBm (xLoc 1) .append (xCons (xLoc 2) xNil))) xsNil))) (xsSeq (xsRet (xLoc 1)) xsNil)))
theorem xb_straightened_eq (P : Pg) (call : CallT) : exB P call b_straightened = xb_straightened P call := by kernel_rfl
noncomputable def xb_compile_pattern (P : Pg) (call : CallT) : XS := (xsSeq (xsAsg (xTLoc 1) (xNew P call 0 xNil)) (xsSeq (xsExpr (xMeth P call (xLoc 1) 102 (xCons (xLoc 0) xNil))) (xsSeq (xsExpr (xMeth P call (xLoc 1) 101 (xCons (xTup (xCons (xLit (.str [100, 111, 110, 101])) xNil)) xNil))) (xsSeq (xsRet (xCall call (xLit (.fn 10)) (xCons (xAttr (xLoc 1) 0) xNil))) xsNil))))
theorem xb_compile_pattern_eq (P : Pg) (call : CallT) : exB P call b_compile_pattern = xb_compile_pattern P call := by kernel_rfl
noncomputable def xb_SnobolError_init (P : Pg) (call : CallT) : XS := (xsSeq xsBad xsNil)
theorem xb_SnobolError_init_eq (P : Pg) (call : CallT) : exB P call b_SnobolError_init = xb_SnobolError_init P call := by kernel_rfl
noncomputable def xb_Pattern_init (P : Pg) (call : CallT) : XS := (xsSeq xsBad xsNil)
theorem xb_Pattern_init_eq (P : Pg) (call : CallT) : exB P call b_Pattern_init = xb_Pattern_init P call := by kernel_rfl
noncomputable def xb_Delayed_init (P : Pg) (call : CallT) : XS := (xsSeq xsBad xsNil)
theorem xb_Delayed_init_eq (P : Pg) (call : CallT) : exB P call b_Delayed_init = xb_Delayed_init P call := by kernel_rfl
noncomputable def xb_NameRef_init (P : Pg) (call : CallT) : XS := (xsSeq (xsAsg (xTAttr (xLoc 0) 15) (xLoc 1)) (xsSeq (xsAsg (xTAttr (xLoc 0) 16) (xLoc 2)) (xsSeq (xsAsg (xTAttr (xLoc 0) 17) (xLoc 3)) xsNil)))
theorem xb_NameRef_init_eq (P : Pg) (call : CallT) : exB P call b_NameRef_init = xb_NameRef_init P call := by kernel_rfl
noncomputable def xb_is_fail (P : Pg) (call : CallT) : XS := (xsSeq xsBad xsNil)
theorem xb_is_fail_eq (P : Pg) (call : CallT) : exB P call b_is_fail = xb_is_fail P call := by kernel_rfl
noncomputable def xb_fits (P : Pg) (call : CallT) : XS := (xsSeq xsBad xsNil)
theorem xb_fits_eq (P : Pg) (call : CallT) : exB P call b_fits = xb_fits P call := by kernel_rfl
noncomputable def xb_whole_of_text (P : Pg) (call : CallT) : XS := (xsSeq xsBad xsNil)
theorem xb_whole_of_text_eq (P : Pg) (call : CallT) : exB P call b_whole_of_text = xb_whole_of_text P call := by kernel_rfl
noncomputable def xb_text_of_whole (P : Pg) (call : CallT) : XS := (xsSeq xsBad xsNil)
theorem xb_text_of_whole_eq (P : Pg) (call : CallT) : exB P call b_text_of_whole = xb_text_of_whole P call := by delta b_text_of_whole xb_text_of_whole; simp only [evE_bad, exS_bad, evE_lit, evE_glob, evE_loc, evE_tup, evE_lst, evE_dict, evE_attr, evE_idx, evE_slice, evE_bin, evE_neg, evE_not, evE_cmp, evE_and, evE_or, evE_ife, evE_call, evE_new, evE_meth, evE_bmeth, evE_prim, evE_isin, evE_comp, evL_nil, evL_cons, evD_nil, evAnd_nil, evAnd_cons, evOr_nil, evOr_cons, evC_nil, evC_cons, asgT_loc, asgT_attr, asgT_idx, asgT_tup, asgTs_nil, asgTs_cons, exS_expr, exS_ret, exS_asg, exS_auga, exS_ife, exS_whl, exS_for, exS_brk, exS_cont, exB_nil, exB_cons]
noncomputable def xb_to_whole (P : Pg) (call : CallT) : XS := (xsSeq xsBad xsNil)
theorem xb_to_whole_eq (P : Pg) (call : CallT) : exB P call b_to_whole = xb_to_whole P call := by kernel_rfl
noncomputable def xb_to_text (P : Pg) (call : CallT) : XS := (xsSeq xsBad xsNil)
theorem xb_to_text_eq (P : Pg) (call : CallT) : exB P call b_to_text = xb_to_text P call := by kernel_rfl
noncomputable def xb_need_text (P : Pg) (call : CallT) : XS := (xsSeq xsBad xsNil)
theorem xb_need_text_eq (P : Pg) (call : CallT) : exB P call b_need_text = xb_need_text P call := by kernel_rfl
noncomputable def xb_plain_count (P : Pg) (call : CallT) : XS := (xsSeq xsBad xsNil)
theorem xb_plain_count_eq (P : Pg) (call : CallT) : exB P call b_plain_count = xb_plain_count P call := by kernel_rfl
noncomputable def xb_plain_signs (P : Pg) (call : CallT) : XS := (xsSeq xsBad xsNil)
theorem xb_plain_signs_eq (P : Pg) (call : CallT) : exB P call b_plain_signs = xb_plain_signs P call := by kernel_rfl
noncomputable def xb_pattern_of (P : Pg) (call : CallT) : XS := (xsSeq xsBad xsNil)
theorem xb_pattern_of_eq (P : Pg) (call : CallT) : exB P call b_pattern_of = xb_pattern_of P call := by kernel_rfl
noncomputable def xb_is_delayed (P : Pg) (call : CallT) : XS := (xsSeq (xsRet (xIsin (xLoc 0) .tuple)) xsNil)
theorem xb_is_delayed_eq (P : Pg) (call : CallT) : exB P call b_is_delayed = xb_is_delayed P call := by kernel_rfl
noncomputable def xb_settled (P : Pg) (call : CallT) : XS := (xsSeq (xsIfe (xOr (xAnd (xCmp .notin (xIdx (xLoc 0) (xLit (.int 0))) (xLit (.tup [(.str [108, 101, 110]), (.str [112, 111, 115]), (.str [114, 112, 111, 115]), (.str [116, 97, 98]), (.str [114, 116, 97, 98])]))) (xAnd (xCmp .notin (xIdx (xLoc 0) (xLit (.int 0))) (xLit (.tup [(.str [97, 110, 121]), (.str [110, 111, 116, 97, 110, 121]), (.str [115, 112, 97, 110]), (.str [98, 114, 101, 97, 107])]))) xT)) (xOr (xNot (xCall call (xLit (.fn 26)) (xCons (xIdx (xLoc 0) (xLit (.int 1))) xNil))) xF)) (xsSeq (xsRet (xLoc 0)) xsNil) xsNil) (xsSeq (xsAsg (xTLoc 2) (xMeth P call (xLoc 1) 116 (xCons (xIdx (xIdx (xLoc 0) (xLit (.int 1))) (xLit (.int 1))) xNil))) (xsSeq (xsIfe (xCall call (xLit (.fn 16)) (xCons (xLoc 2) xNil)) (xsSeq (xsRet (xLit .none)) xsNil) xsNil) (xsSeq (xsIfe (xCmp .isin (xIdx (xLoc 0) (xLit (.int 0))) (xLit (.tup [(.str [108, 101, 110]), (.str [112, 111, 115]), (.str [114, 112, 111, 115]), (.str [116, 97, 98]), (.str [114, 116, 97, 98])]))) (xsSeq (xsRet (xTup (xCons (xIdx (xLoc 0) (xLit (.int 0))) (xCons (xCall call (xLit (.fn 23)) (xCons (xLoc 2) (xCons (xIdx (xLoc 0) (xLit (.int 0))) (xCons (xAttr (xLoc 1) 12) xNil)))) xNil)))) xsNil) xsNil) (xsSeq (xsRet (xTup (xCons (xIdx (xLoc 0) (xLit (.int 0))) (xCons (xCall call (xLit (.fn 24)) (xCons (xLoc 2) (xCons (xIdx (xLoc 0) (xLit (.int 0))) xNil))) xNil)))) xsNil)))))
theorem xb_settled_eq (P : Pg) (call : CallT) : exB P call b_settled = xb_settled P call := by kernel_rfl
noncomputable def xb_chars_end (P : Pg) (call : CallT) : XS := (xsSeq xsBad xsNil)
theorem xb_chars_end_eq (P : Pg) (call : CallT) : exB P call b_chars_end = xb_chars_end P call := by kernel_rfl
noncomputable def xb_len_end (P : Pg) (call : CallT) : XS := (xsSeq xsBad xsNil)
theorem xb_len_end_eq (P : Pg) (call : CallT) : exB P call b_len_end = xb_len_end P call := by kernel_rfl
noncomputable def xb_pos_end (P : Pg) (call : CallT) : XS := (xsSeq xsBad xsNil)
theorem xb_pos_end_eq (P : Pg) (call : CallT) : exB P call b_pos_end = xb_pos_end P call := by kernel_rfl
noncomputable def xb_rpos_end (P : Pg) (call : CallT) : XS := (xsSeq (xsRet (xIfe (xCmp .eq (xBin .sub (xPrim .len (xCons (xLoc 0) xNil)) (xLoc 1)) (xLoc 2)) (xLoc 1) (xLit .none))) xsNil)
theorem xb_rpos_end_eq (P : Pg) (call : CallT) : exB P call b_rpos_end = xb_rpos_end P call := by kernel_rfl
noncomputable def xb_tab_end (P : Pg) (call : CallT) : XS := (xsSeq xsBad xsNil)
theorem xb_tab_end_eq (P : Pg) (call : CallT) : exB P call b_tab_end = xb_tab_end P call := by kernel_rfl
noncomputable def xb_rtab_end (P : Pg) (call : CallT) : XS := (xsSeq xsBad xsNil)
theorem xb_rtab_end_eq (P : Pg) (call : CallT) : exB P call b_rtab_end = xb_rtab_end P call := by kernel_rfl
noncomputable def xb_rem_end (P : Pg) (call : CallT) : XS := (xsSeq xsBad xsNil)
theorem xb_rem_end_eq (P : Pg) (call : CallT) : exB P call b_rem_end = xb_rem_end P call := by kernel_rfl
noncomputable def xb_any_at (P : Pg) (call : CallT) : XS := (xsSeq xsBad xsNil)
theorem xb_any_at_eq (P : Pg) (call : CallT) : exB P call b_any_at = xb_any_at P call := by kernel_rfl
noncomputable def xb_notany_at (P : Pg) (call : CallT) : XS := (xsSeq xsBad xsNil)
theorem xb_notany_at_eq (P : Pg) (call : CallT) : exB P call b_notany_at = xb_notany_at P call := by kernel_rfl
noncomputable def xb_run_end (P : Pg) (call : CallT) : XS := (xsSeq xsBad xsNil)
theorem xb_run_end_eq (P : Pg) (call : CallT) : exB P call b_run_end = xb_run_end P call := by kernel_rfl
noncomputable def xb_span_end (P : Pg) (call : CallT) : XS := (xsSeq xsBad xsNil)
theorem xb_span_end_eq (P : Pg) (call : CallT) : exB P call b_span_end = xb_span_end P call := by kernel_rfl
noncomputable def xb_break_end (P : Pg) (call : CallT) : XS := (xsSeq xsBad xsNil)
theorem xb_break_end_eq (P : Pg) (call : CallT) : exB P call b_break_end = xb_break_end P call := by kernel_rfl
noncomputable def xb_arb_ends (P : Pg) (call : CallT) : XS := (xsSeq (xsRet (xPrim .list (xCons (xPrim .range (xCons (xLoc 1) (xCons (xBin .add (xPrim .len (xCons (xLoc 0) xNil)) (xLit (.int 1))) xNil))) xNil))) xsNil)
theorem xb_arb_ends_eq (P : Pg) (call : CallT) : exB P call b_arb_ends = xb_arb_ends P call := by kernel_rfl
noncomputable def xb_bal_end (P : Pg) (call : CallT) : XS := (xsSeq xsBad xsNil)
theorem xb_bal_end_eq (P : Pg) (call : CallT) : exB P call b_bal_end = xb_bal_end P call := by kernel_rfl
noncomputable def xb_bal_ends (P : Pg) (call : CallT) : XS := (xsSeq xsBad xsNil)
theorem xb_bal_ends_eq (P : Pg) (call : CallT) : exB P call b_bal_ends = xb_bal_ends P call := by delta b_bal_ends xb_bal_ends; simp only [evE_bad, exS_bad, evE_lit, evE_glob, evE_loc, evE_tup, evE_lst, evE_dict, evE_attr, evE_idx, evE_slice, evE_bin, evE_neg, evE_not, evE_cmp, evE_and, evE_or, evE_ife, evE_call, evE_new, evE_meth, evE_bmeth, evE_prim, evE_isin, evE_comp, evL_nil, evL_cons, evD_nil, evAnd_nil, evAnd_cons, evOr_nil, evOr_cons, evC_nil, evC_cons, asgT_loc, asgT_attr, asgT_idx, asgT_tup, asgTs_nil, asgTs_cons, exS_expr, exS_ret, exS_asg, exS_auga, exS_ife, exS_whl, exS_for, exS_brk, exS_cont, exB_nil, exB_cons]
noncomputable def xb_one_end (P : Pg) (call : CallT) : XS := (xsSeq (xsIfe (xCmp .eq (xLoc 0) (xLit (.str [99, 104, 97, 114, 115]))) (xsSeq (xsRet (xCall call (xLit (.fn 28)) (xCons (xLoc 1) (xCons (xLoc 2) (xCons (xLoc 3) xNil))))) xsNil) xsNil) (xsSeq (xsIfe (xCmp .eq (xLoc 0) (xLit (.str [108, 101, 110]))) (xsSeq (xsRet (xCall call (xLit (.fn 29)) (xCons (xLoc 1) (xCons (xLoc 2) (xCons (xLoc 3) xNil))))) xsNil) xsNil) (xsSeq (xsIfe (xCmp .eq (xLoc 0) (xLit (.str [112, 111, 115]))) (xsSeq (xsRet (xCall call (xLit (.fn 30)) (xCons (xLoc 2) (xCons (xLoc 3) xNil)))) xsNil) xsNil) (xsSeq (xsIfe (xCmp .eq (xLoc 0) (xLit (.str [114, 112, 111, 115]))) (xsSeq (xsRet (xCall call (xLit (.fn 31)) (xCons (xLoc 1) (xCons (xLoc 2) (xCons (xLoc 3) xNil))))) xsNil) xsNil) (xsSeq (xsIfe (xCmp .eq (xLoc 0) (xLit (.str [116, 97, 98]))) (xsSeq (xsRet (xCall call (xLit (.fn 32)) (xCons (xLoc 1) (xCons (xLoc 2) (xCons (xLoc 3) xNil))))) xsNil) xsNil) (xsSeq (xsIfe (xCmp .eq (xLoc 0) (xLit (.str [114, 116, 97, 98]))) (xsSeq (xsRet (xCall call (xLit (.fn 33)) (xCons (xLoc 1) (xCons (xLoc 2) (xCons (xLoc 3) xNil))))) xsNil) xsNil) (xsSeq (xsIfe (xCmp .eq (xLoc 0) (xLit (.str [97, 110, 121]))) (xsSeq (xsRet (xCall call (xLit (.fn 35)) (xCons (xLoc 1) (xCons (xLoc 2) (xCons (xLoc 3) xNil))))) xsNil) xsNil) (xsSeq (xsIfe (xCmp .eq (xLoc 0) (xLit (.str [110, 111, 116, 97, 110, 121]))) (xsSeq (xsRet (xCall call (xLit (.fn 36)) (xCons (xLoc 1) (xCons (xLoc 2) (xCons (xLoc 3) xNil))))) xsNil) xsNil) (xsSeq (xsIfe (xCmp .eq (xLoc 0) (xLit (.str [115, 112, 97, 110]))) (xsSeq (xsRet (xCall call (xLit (.fn 38)) (xCons (xLoc 1) (xCons (xLoc 2) (xCons (xLoc 3) xNil))))) xsNil) xsNil) (xsSeq (xsRet (xCall call (xLit (.fn 39)) (xCons (xLoc 1) (xCons (xLoc 2) (xCons (xLoc 3) xNil))))) xsNil))))))))))
theorem xb_one_end_eq (P : Pg) (call : CallT) : exB P call b_one_end = xb_one_end P call := by kernel_rfl
noncomputable def xb_plain_end (P : Pg) (call : CallT) : XS := (xsSeq (xsRet (xIfe (xCmp .eq (xIdx (xLoc 0) (xLit (.int 0))) (xLit (.str [114, 101, 109]))) (xCall call (xLit (.fn 34)) (xCons (xLoc 1) xNil)) (xCall call (xLit (.fn 43)) (xCons (xIdx (xLoc 0) (xLit (.int 0))) (xCons (xLoc 1) (xCons (xLoc 2) (xCons (xIdx (xLoc 0) (xLit (.int 1))) xNil))))))) xsNil)
theorem xb_plain_end_eq (P : Pg) (call : CallT) : exB P call b_plain_end = xb_plain_end P call := by kernel_rfl
noncomputable def xb_ends_of (P : Pg) (call : CallT) : XS := (xsSeq (xsIfe (xCmp .eq (xLoc 0) (xLit (.str [97, 114, 98]))) (xsSeq (xsRet (xCall call (xLit (.fn 40)) (xCons (xLoc 1) (xCons (xLoc 2) xNil)))) xsNil) xsNil) (xsSeq (xsIfe (xCmp .eq (xLoc 0) (xLit (.str [98, 97, 108]))) (xsSeq (xsRet (xCall call (xLit (.fn 42)) (xCons (xLoc 1) (xCons (xLoc 2) xNil)))) xsNil) xsNil) (xsSeq (xsIfe (xCmp .eq (xLoc 0) (xLit (.str [114, 101, 109]))) (xsSeq (xsRet (xLst (xCons (xCall call (xLit (.fn 34)) (xCons (xLoc 1) xNil)) xNil))) xsNil) xsNil) (xsSeq (xsAsg (xTLoc 4) (xCall call (xLit (.fn 43)) (xCons (xLoc 0) (xCons (xLoc 1) (xCons (xLoc 2) (xCons (xLoc 3) xNil)))))) (xsSeq (xsRet (xIfe (xCmp .is (xLoc 4) (xLit .none)) (xLst xNil) (xLst (xCons (xLoc 4) xNil)))) xsNil)))))
theorem xb_ends_of_eq (P : Pg) (call : CallT) : exB P call b_ends_of = xb_ends_of P call := by kernel_rfl
noncomputable def xb_Way_init (P : Pg) (call : CallT) : XS := (xsSeq (xsAsg (xTAttr (xLoc 0) 0) (xLoc 1)) (xsSeq (xsAsg (xTAttr (xLoc 0) 1) (xLoc 2)) (xsSeq (xsAsg (xTAttr (xLoc 0) 2) (xLoc 3)) (xsSeq (xsAsg (xTAttr (xLoc 0) 3) (xLoc 4)) (xsSeq (xsAsg (xTAttr (xLoc 0) 4) (xLoc 5)) (xsSeq (xsAsg (xTAttr (xLoc 0) 5) (xLoc 6)) xsNil))))))
theorem xb_Way_init_eq (P : Pg) (call : CallT) : exB P call b_Way_init = xb_Way_init P call := by kernel_rfl
noncomputable def xb_Way_copied (P : Pg) (call : CallT) : XS := (xsSeq (xsRet (xNew P call 2 (xCons (xAttr (xLoc 0) 0) (xCons (xLoc 1) (xCons (xAttr (xLoc 0) 2) (xCons (xAttr (xLoc 0) 3) (xCons (xAttr (xLoc 0) 4) (xCons (xAttr (xLoc 0) 5) xNil)))))))) xsNil)
theorem xb_Way_copied_eq (P : Pg) (call : CallT) : exB P call b_Way_copied = xb_Way_copied P call := by kernel_rfl
noncomputable def xb_Match_init (P : Pg) (call : CallT) : XS := (xsSeq (xsAsg (xTAttr (xLoc 0) 6) (xLoc 1)) (xsSeq (xsAsg (xTAttr (xLoc 0) 7) (xLoc 2)) (xsSeq (xsAsg (xTAttr (xLoc 0) 8) (xLst xNil)) xsNil)))
theorem xb_Match_init_eq (P : Pg) (call : CallT) : exB P call b_Match_init = xb_Match_init P call := by kernel_rfl
noncomputable def xb_Match_run (P : Pg) (call : CallT) : XS := (xsSeq (xsAsg (xTLoc 3) (xNew P call 2 (xCons (xLoc 1) (xCons (xLit (.int 0)) (xCons (xLoc 2) (xCons (xLit .none) (xCons (xLit .none) (xCons (xLit .none) xNil)))))))) (xsSeq (xsWhl (xCmp .isnot (xLoc 3) (xLit .none)) (xsSeq (xsExpr (xMeth P call (xAttr (xLoc 0) 7) 118 xNil)) (xsSeq (xsAsg (xTLoc 4) (xIdx (xAttr (xLoc 3) 0) (xAttr (xLoc 3) 1))) (xsSeq (xsIfe (xAnd (xCmp .eq (xIdx (xLoc 4) (xLit (.int 0))) (xLit (.str [100, 111, 110, 101]))) (xAnd (xCmp .is (xAttr (xLoc 3) 5) (xLit .none)) xT)) (xsSeq (xsRet (xTup (xCons (xLit (.int 0)) (xCons (xLoc 3) xNil)))) xsNil) xsNil) (xsSeq (xsIfe (xCmp .eq (xIdx (xLoc 4) (xLit (.int 0))) (xLit (.str [97, 98, 111, 114, 116]))) (xsSeq (xsRet (xTup (xCons (xLit (.int 2)) (xCons (xLit .none) xNil)))) xsNil) xsNil) (xsSeq (xsIfe (xNot (xMeth P call (xLoc 0) 110 (xCons (xLoc 4) (xCons (xLoc 3) xNil)))) (xsSeq (xsAsg (xTLoc 3) (xMeth P call (xLoc 0) 109 xNil)) (xsSeq (xsIfe (xAnd (xCmp .isnot (xLoc 3) (xLit .none)) (xAnd (xCmp .is (xAttr (xLoc 3) 0) (xLit .none)) xT)) (xsSeq (xsRet (xTup (xCons (xLit (.int 2)) (xCons (xLit .none) xNil)))) xsNil) xsNil) xsNil)) xsNil) xsNil)))))) (xsSeq (xsRet (xTup (xCons (xLit (.int 1)) (xCons (xLit .none) xNil)))) xsNil)))
theorem xb_Match_run_eq (P : Pg) (call : CallT) : exB P call b_Match_run = xb_Match_run P call := by kernel_rfl
noncomputable def xb_Match_way_back (P : Pg) (call : CallT) : XS := (xsSeq (xsRet (xIfe (xCmp .gt (xPrim .len (xCons (xAttr (xLoc 0) 8) xNil)) (xLit (.int 0))) (xBm (xAttr (xLoc 0) 8) .pop xNil) (xLit .none))) xsNil)
theorem xb_Match_way_back_eq (P : Pg) (call : CallT) : exB P call b_Match_way_back = xb_Match_way_back P call := by kernel_rfl
noncomputable def xb_Match_done (P : Pg) (call : CallT) : XS := (xsSeq (xsAsg (xTLoc 3) (xIdx (xLoc 1) (xLit (.int 0)))) (xsSeq (xsIfe (xCmp .eq (xLoc 3) (xLit (.str [111, 110, 101]))) (xsSeq (xsRet (xMeth P call (xLoc 0) 111 (xCons (xLoc 1) (xCons (xLoc 2) xNil)))) xsNil) xsNil) (xsSeq (xsIfe (xCmp .eq (xLoc 3) (xLit (.str [115, 112, 108, 105, 116]))) (xsSeq (xsExpr (xBm (xAttr (xLoc 0) 8) .append (xCons (xMeth P call (xLoc 2) 107 (xCons (xIdx (xLoc 1) (xLit (.int 1))) xNil)) xNil))) xsNil) (xsSeq (xsIfe (xCmp .eq (xLoc 3) (xLit (.str [106, 117, 109, 112]))) (xsSeq (xsAsg (xTAttr (xLoc 2) 1) (xIdx (xLoc 1) (xLit (.int 1)))) (xsSeq (xsRet (xLit (.bool true))) xsNil)) (xsSeq (xsIfe (xCmp .eq (xLoc 3) (xLit (.str [109, 97, 114, 107]))) (xsSeq (xsAsg (xTAttr (xLoc 2) 4) (xTup (xCons (xAttr (xLoc 2) 4) (xCons (xAttr (xLoc 2) 2) xNil)))) xsNil) (xsSeq (xsIfe (xCmp .isin (xLoc 3) (xTup (xCons (xLit (.str [110, 97, 109, 101])) (xCons (xLit (.str [115, 101, 116])) (xCons (xLit (.str [103, 97, 105, 110])) xNil))))) (xsSeq (xsIfe (xNot (xMeth P call (xLoc 0) 112 (xCons (xLoc 1) (xCons (xLoc 2) xNil)))) (xsSeq (xsRet (xLit (.bool false))) xsNil) xsNil) xsNil) (xsSeq (xsIfe (xCmp .eq (xLoc 3) (xLit (.str [112, 108, 97, 99, 101]))) (xsSeq (xsIfe (xNot (xMeth P call (xAttr (xLoc 0) 7) 117 (xCons (xIdx (xLoc 1) (xLit (.int 1))) (xCons (xAttr (xLoc 2) 2) xNil)))) (xsSeq (xsRet (xLit (.bool false))) xsNil) xsNil) xsNil) (xsSeq (xsRet (xMeth P call (xLoc 0) 113 (xCons (xLoc 1) (xCons (xLoc 2) xNil)))) xsNil)) xsNil)) xsNil)) xsNil)) xsNil)) (xsSeq (xsAuga (xLoc 2) 1 .add (xLit (.int 1))) (xsSeq (xsRet (xLit (.bool true))) xsNil)))))
theorem xb_Match_done_eq (P : Pg) (call : CallT) : exB P call b_Match_done = xb_Match_done P call := by kernel_rfl
noncomputable def xb_Match_met_once (P : Pg) (call : CallT) : XS := (xsSeq (xsAsg (xTLoc 3) (xIdx (xLoc 1) (xLit (.int 2)))) (xsSeq (xsIfe (xIsin (xLoc 3) .tuple) (xsSeq (xsAsg (xTLoc 4) (xCall call (xLit (.fn 27)) (xCons (xTup (xCons (xIdx (xLoc 1) (xLit (.int 1))) (xCons (xLoc 3) xNil))) (xCons (xAttr (xLoc 0) 7) xNil)))) (xsSeq (xsIfe (xCmp .is (xLoc 4) (xLit .none)) (xsSeq (xsRet (xLit (.bool false))) xsNil) xsNil) (xsSeq (xsAsg (xTLoc 3) (xIdx (xLoc 4) (xLit (.int 1)))) xsNil))) xsNil) (xsSeq (xsAsg (xTLoc 5) (xCall call (xLit (.fn 44)) (xCons (xTup (xCons (xIdx (xLoc 1) (xLit (.int 1))) (xCons (xLoc 3) xNil))) (xCons (xAttr (xLoc 0) 6) (xCons (xAttr (xLoc 2) 2) xNil))))) (xsSeq (xsIfe (xCmp .is (xLoc 5) (xLit .none)) (xsSeq (xsRet (xLit (.bool false))) xsNil) xsNil) (xsSeq (xsAsg (xTAttr (xLoc 2) 2) (xLoc 5)) (xsSeq (xsAuga (xLoc 2) 1 .add (xLit (.int 1))) (xsSeq (xsRet (xLit (.bool true))) xsNil)))))))
theorem xb_Match_met_once_eq (P : Pg) (call : CallT) : exB P call b_Match_met_once = xb_Match_met_once P call := by kernel_rfl
noncomputable def xb_Match_ended (P : Pg) (call : CallT) : XS := (xsSeq (xsAsg (xTTup (xTCons (xTLoc 3) (xTCons (xTLoc 4) xTNil))) (xAttr (xLoc 2) 4)) (xsSeq (xsAsg (xTAttr (xLoc 2) 4) (xLoc 3)) (xsSeq (xsAsg (xTLoc 5) (xSlice (xAttr (xLoc 0) 6) (xLoc 4) (xAttr (xLoc 2) 2) (xLit .none))) (xsSeq (xsIfe (xCmp .eq (xIdx (xLoc 1) (xLit (.int 0))) (xLit (.str [103, 97, 105, 110]))) (xsSeq (xsRet (xCmp .gt (xAttr (xLoc 2) 2) (xLoc 4))) xsNil) xsNil) (xsSeq (xsIfe (xCmp .eq (xIdx (xLoc 1) (xLit (.int 0))) (xLit (.str [115, 101, 116]))) (xsSeq (xsRet (xMeth P call (xAttr (xLoc 0) 7) 117 (xCons (xIdx (xLoc 1) (xLit (.int 1))) (xCons (xLoc 5) xNil)))) xsNil) xsNil) (xsSeq (xsAsg (xTAttr (xLoc 2) 3) (xTup (xCons (xAttr (xLoc 2) 3) (xCons (xTup (xCons (xIdx (xLoc 1) (xLit (.int 1))) (xCons (xLoc 5) xNil))) xNil)))) (xsSeq (xsRet (xLit (.bool true))) xsNil)))))))
theorem xb_Match_ended_eq (P : Pg) (call : CallT) : exB P call b_Match_ended = xb_Match_ended P call := by delta b_Match_ended xb_Match_ended; simp only [evE_bad, exS_bad, evE_lit, evE_glob, evE_loc, evE_tup, evE_lst, evE_dict, evE_attr, evE_idx, evE_slice, evE_bin, evE_neg, evE_not, evE_cmp, evE_and, evE_or, evE_ife, evE_call, evE_new, evE_meth, evE_bmeth, evE_prim, evE_isin, evE_comp, evL_nil, evL_cons, evD_nil, evAnd_nil, evAnd_cons, evOr_nil, evOr_cons, evC_nil, evC_cons, asgT_loc, asgT_attr, asgT_idx, asgT_tup, asgTs_nil, asgTs_cons, exS_expr, exS_ret, exS_asg, exS_auga, exS_ife, exS_whl, exS_for, exS_brk, exS_cont, exB_nil, exB_cons]
noncomputable def xb_Match_other (P : Pg) (call : CallT) : XS := (xsSeq (xsAsg (xTLoc 3) (xIdx (xLoc 1) (xLit (.int 0)))) (xsSeq (xsIfe (xCmp .eq (xLoc 3) (xLit (.str [102, 97, 105, 108]))) (xsSeq (xsRet (xLit (.bool false))) xsNil) xsNil) (xsSeq (xsIfe (xCmp .eq (xLoc 3) (xLit (.str [119, 97, 121, 115]))) (xsSeq (xsRet (xMeth P call (xLoc 0) 114 (xCons (xLoc 2) (xCons (xCall call (xLit (.fn 45)) (xCons (xIdx (xLoc 1) (xLit (.int 1))) (xCons (xAttr (xLoc 0) 6) (xCons (xAttr (xLoc 2) 2) (xCons (xLit .none) xNil))))) xNil)))) xsNil) xsNil) (xsSeq (xsIfe (xCmp .eq (xLoc 3) (xLit (.str [97, 115, 107]))) (xsSeq (xsRet (xMeth P call (xLoc 0) 115 (xCons (xIdx (xLoc 1) (xLit (.int 1))) (xCons (xLoc 2) xNil)))) xsNil) xsNil) (xsSeq (xsIfe (xCmp .eq (xLoc 3) (xLit (.str [100, 111, 110, 101]))) (xsSeq (xsAsg (xTTup (xTCons (xTAttr (xLoc 2) 5) (xTCons (xTTup (xTCons (xTAttr (xLoc 2) 0) (xTCons (xTAttr (xLoc 2) 1) xTNil))) xTNil))) (xAttr (xLoc 2) 5)) (xsSeq (xsRet (xLit (.bool true))) xsNil)) xsNil) (xsSeq (xsIfe (xCmp .eq (xLoc 3) (xLit (.str [102, 101, 110, 99, 101]))) (xsSeq (xsExpr (xBm (xAttr (xLoc 0) 8) .append (xCons (xNew P call 2 (xCons (xLit .none) (xCons (xLit (.int 0)) (xCons (xLit (.int 0)) (xCons (xLit .none) (xCons (xLit .none) (xCons (xLit .none) xNil))))))) xNil))) xsNil) (xsSeq (xsIfe (xCmp .eq (xLoc 3) (xLit (.str [115, 117, 99, 99, 101, 101, 100]))) (xsSeq (xsExpr (xBm (xAttr (xLoc 0) 8) .append (xCons (xMeth P call (xLoc 2) 107 (xCons (xAttr (xLoc 2) 1) xNil)) xNil))) xsNil) xsNil) xsNil)) (xsSeq (xsAuga (xLoc 2) 1 .add (xLit (.int 1))) (xsSeq (xsRet (xLit (.bool true))) xsNil))))))))
theorem xb_Match_other_eq (P : Pg) (call : CallT) : exB P call b_Match_other = xb_Match_other P call := by delta b_Match_other xb_Match_other; simp only [evE_bad, exS_bad, evE_lit, evE_glob, evE_loc, evE_tup, evE_lst, evE_dict, evE_attr, evE_idx, evE_slice, evE_bin, evE_neg, evE_not, evE_cmp, evE_and, evE_or, evE_ife, evE_call, evE_new, evE_meth, evE_bmeth, evE_prim, evE_isin, evE_comp, evL_nil, evL_cons, evD_nil, evAnd_nil, evAnd_cons, evOr_nil, evOr_cons, evC_nil, evC_cons, asgT_loc, asgT_attr, asgT_idx, asgT_tup, asgTs_nil, asgTs_cons, exS_expr, exS_ret, exS_asg, exS_auga, exS_ife, exS_whl, exS_for, exS_brk, exS_cont, exB_nil, exB_cons]
noncomputable def xb_Match_met_often (P : Pg) (call : CallT) : XS := (xsSeq (xsIfe (xCmp .eq (xPrim .len (xCons (xLoc 2) xNil)) (xLit (.int 0))) (xsSeq (xsRet (xLit (.bool false))) xsNil) xsNil) (xsSeq (xsAuga (xLoc 1) 1 .add (xLit (.int 1))) (xsSeq (xsFor (.one 3) (xSlice (xLoc 2) (xLit .none) (xLit (.int 0)) (xNeg (xLit (.int 1)))) (xsSeq (xsAsg (xTLoc 4) (xMeth P call (xLoc 1) 107 (xCons (xAttr (xLoc 1) 1) xNil))) (xsSeq (xsAsg (xTAttr (xLoc 4) 2) (xLoc 3)) (xsSeq (xsExpr (xBm (xAttr (xLoc 0) 8) .append (xCons (xLoc 4) xNil))) xsNil)))) (xsSeq (xsAsg (xTAttr (xLoc 1) 2) (xIdx (xLoc 2) (xLit (.int 0)))) (xsSeq (xsRet (xLit (.bool true))) xsNil)))))
theorem xb_Match_met_often_eq (P : Pg) (call : CallT) : exB P call b_Match_met_often = xb_Match_met_often P call := by kernel_rfl
noncomputable def xb_Match_asked (P : Pg) (call : CallT) : XS := (xsSeq xsBad xsNil)
theorem xb_Match_asked_eq (P : Pg) (call : CallT) : exB P call b_Match_asked = xb_Match_asked P call := by delta b_Match_asked xb_Match_asked; simp only [evE_bad, exS_bad, evE_lit, evE_glob, evE_loc, evE_tup, evE_lst, evE_dict, evE_attr, evE_idx, evE_slice, evE_bin, evE_neg, evE_not, evE_cmp, evE_and, evE_or, evE_ife, evE_call, evE_new, evE_meth, evE_bmeth, evE_prim, evE_isin, evE_comp, evL_nil, evL_cons, evD_nil, evAnd_nil, evAnd_cons, evOr_nil, evOr_cons, evC_nil, evC_cons, asgT_loc, asgT_attr, asgT_idx, asgT_tup, asgTs_nil, asgTs_cons, exS_expr, exS_ret, exS_asg, exS_auga, exS_ife, exS_whl, exS_for, exS_brk, exS_cont, exB_nil, exB_cons]
noncomputable def xb_named_rows (P : Pg) (call : CallT) : XS := (xsSeq xsBad xsNil)
theorem xb_named_rows_eq (P : Pg) (call : CallT) : exB P call b_named_rows = xb_named_rows P call := by delta b_named_rows xb_named_rows; simp only [evE_bad, exS_bad, evE_lit, evE_glob, evE_loc, evE_tup, evE_lst, evE_dict, evE_attr, evE_idx, evE_slice, evE_bin, evE_neg, evE_not, evE_cmp, evE_and, evE_or, evE_ife, evE_call, evE_new, evE_meth, evE_bmeth, evE_prim, evE_isin, evE_comp, evL_nil, evL_cons, evD_nil, evAnd_nil, evAnd_cons, evOr_nil, evOr_cons, evC_nil, evC_cons, asgT_loc, asgT_attr, asgT_idx, asgT_tup, asgTs_nil, asgTs_cons, exS_expr, exS_ret, exS_asg, exS_auga, exS_ife, exS_whl, exS_for, exS_brk, exS_cont, exB_nil, exB_cons]
noncomputable def xb_match_orders (P : Pg) (call : CallT) : XS := (xsSeq (xsFor (.one 4) (xPrim .range (xCons (xIfe (xLoc 2) (xLit (.int 1)) (xBin .add (xPrim .len (xCons (xLoc 1) xNil)) (xLit (.int 1)))) xNil)) (xsSeq (xsAsg (xTTup (xTCons (xTLoc 5) (xTCons (xTLoc 6) xTNil))) (xMeth P call (xNew P call 3 (xCons (xLoc 1) (xCons (xLoc 3) xNil))) 108 (xCons (xLoc 0) (xCons (xLoc 4) xNil)))) (xsSeq (xsIfe (xCmp .eq (xLoc 5) (xLit (.int 0))) (xsSeq (xsRet (xTup (xCons (xLoc 4) (xCons (xAttr (xLoc 6) 2) (xCons (xCall call (xLit (.fn 57)) (xCons (xAttr (xLoc 6) 3) xNil)) xNil))))) xsNil) xsNil) (xsSeq (xsIfe (xCmp .eq (xLoc 5) (xLit (.int 2))) (xsSeq (xsRet (xLit .none)) xsNil) xsNil) xsNil)))) (xsSeq (xsRet (xLit .none)) xsNil))
theorem xb_match_orders_eq (P : Pg) (call : CallT) : exB P call b_match_orders = xb_match_orders P call := by delta b_match_orders xb_match_orders; simp only [evE_bad, exS_bad, evE_lit, evE_glob, evE_loc, evE_tup, evE_lst, evE_dict, evE_attr, evE_idx, evE_slice, evE_bin, evE_neg, evE_not, evE_cmp, evE_and, evE_or, evE_ife, evE_call, evE_new, evE_meth, evE_bmeth, evE_prim, evE_isin, evE_comp, evL_nil, evL_cons, evD_nil, evAnd_nil, evAnd_cons, evOr_nil, evOr_cons, evC_nil, evC_cons, asgT_loc, asgT_attr, asgT_idx, asgT_tup, asgTs_nil, asgTs_cons, exS_expr, exS_ret, exS_asg, exS_auga, exS_ife, exS_whl, exS_for, exS_brk, exS_cont, exB_nil, exB_cons]
noncomputable def xb_match_compiled (P : Pg) (call : CallT) : XS := (xsSeq (xsRet (xCall call (xLit (.fn 58)) (xCons (xCall call (xLit (.fn 11)) (xCons (xLoc 0) xNil)) (xCons (xLoc 1) (xCons (xLoc 2) (xCons (xLoc 3) xNil)))))) xsNil)
theorem xb_match_compiled_eq (P : Pg) (call : CallT) : exB P call b_match_compiled = xb_match_compiled P call := by kernel_rfl
noncomputable def xb_PlainHost_init (P : Pg) (call : CallT) : XS := (xsSeq (xsAsg (xTAttr (xLoc 0) 9) (xLoc 1)) (xsSeq (xsAsg (xTAttr (xLoc 0) 10) (xLoc 2)) (xsSeq (xsAsg (xTAttr (xLoc 0) 11) (xLoc 3)) (xsSeq (xsAsg (xTAttr (xLoc 0) 12) (xLit (.int 64))) (xsSeq (xsAsg (xTAttr (xLoc 0) 13) (xLit (.int 0))) (xsSeq (xsAsg (xTAttr (xLoc 0) 14) (xLst xNil)) xsNil))))))
theorem xb_PlainHost_init_eq (P : Pg) (call : CallT) : exB P call b_PlainHost_init = xb_PlainHost_init P call := by kernel_rfl
noncomputable def xb_PlainHost_value_of (P : Pg) (call : CallT) : XS := (xsSeq xsBad xsNil)
theorem xb_PlainHost_value_of_eq (P : Pg) (call : CallT) : exB P call b_PlainHost_value_of = xb_PlainHost_value_of P call := by kernel_rfl
noncomputable def xb_PlainHost_assign (P : Pg) (call : CallT) : XS := (xsSeq (xsIfe (xCmp .isin (xAttr (xLoc 1) 17) (xAttr (xLoc 0) 11)) (xsSeq (xsRet (xLit (.bool false))) xsNil) xsNil) (xsSeq (xsAsg (xTIdx (xAttr (xLoc 0) 9) (xAttr (xLoc 1) 17)) (xLoc 2)) (xsSeq (xsExpr (xBm (xAttr (xLoc 0) 14) .append (xCons (xTup (xCons (xAttr (xLoc 1) 17) (xCons (xLoc 2) xNil))) xNil))) (xsSeq (xsRet (xLit (.bool true))) xsNil))))
theorem xb_PlainHost_assign_eq (P : Pg) (call : CallT) : exB P call b_PlainHost_assign = xb_PlainHost_assign P call := by kernel_rfl
noncomputable def xb_PlainHost_step (P : Pg) (call : CallT) : XS := (xsSeq (xsAuga (xLoc 0) 13 .add (xLit (.int 1))) (xsSeq (xsIfe (xCmp .gt (xAttr (xLoc 0) 13) (xAttr (xLoc 0) 10)) (xsSeq xsBad xsNil) xsNil) xsNil))
theorem xb_PlainHost_step_eq (P : Pg) (call : CallT) : exB P call b_PlainHost_step = xb_PlainHost_step P call := by kernel_rfl
noncomputable def xb_match_plain (P : Pg) (call : CallT) : XS := (xsSeq (xsFor (.one 4) (xPrim .range (xCons (xIfe (xLoc 2) (xLit (.int 1)) (xBin .add (xPrim .len (xCons (xLoc 1) xNil)) (xLit (.int 1)))) xNil)) (xsSeq (xsAsg (xTLoc 5) (xCall call (xLit (.fn 65)) (xCons (xLoc 0) (xCons (xLoc 1) (xCons (xLoc 4) (xCons (xLoc 3) xNil)))))) (xsSeq (xsIfe (xCmp .isnot (xLoc 5) (xLit .none)) (xsSeq (xsRet (xIfe (xCmp .eq (xLoc 5) (xLit (.str [108, 111, 115, 116]))) (xLit .none) (xLoc 5))) xsNil) xsNil) xsNil))) (xsSeq (xsRet (xLit .none)) xsNil))
theorem xb_match_plain_eq (P : Pg) (call : CallT) : exB P call b_match_plain = xb_match_plain P call := by kernel_rfl
noncomputable def xb_match_at (P : Pg) (call : CallT) : XS := (xsSeq (xsAsg (xTLoc 4) (xCall call (xLit (.fn 66)) (xCons (xLoc 0) (xCons (xLoc 1) (xCons (xLoc 2) (xCons (xLoc 3) xNil)))))) (xsSeq (xsRet (xIfe (xOr (xCmp .is (xLoc 4) (xLit .none)) (xOr (xCmp .eq (xLoc 4) (xLit (.str [108, 111, 115, 116]))) xF)) (xLoc 4) (xTup (xCons (xLoc 2) (xCons (xIdx (xLoc 4) (xLit (.int 0))) (xCons (xIdx (xLoc 4) (xLit (.int 1))) xNil)))))) xsNil))
theorem xb_match_at_eq (P : Pg) (call : CallT) : exB P call b_match_at = xb_match_at P call := by kernel_rfl
noncomputable def xb_tried (P : Pg) (call : CallT) : XS := (xsSeq (xsAsg (xTLoc 4) (xLst (xCons (xTup (xCons (xTup (xCons (xLoc 0) (xCons (xLit .none) xNil))) (xCons (xLoc 2) (xCons (xTup xNil) xNil)))) xNil))) (xsSeq (xsWhl (xCmp .gt (xPrim .len (xCons (xLoc 4) xNil)) (xLit (.int 0))) (xsSeq (xsAsg (xTLoc 5) (xBm (xLoc 4) .pop xNil)) (xsSeq (xsIfe (xCmp .is (xLoc 5) (xLit .none)) (xsSeq (xsRet (xLit (.str [108, 111, 115, 116]))) xsNil) xsNil) (xsSeq (xsAsg (xTTup (xTCons (xTLoc 6) (xTCons (xTLoc 7) (xTCons (xTLoc 8) xTNil)))) (xLoc 5)) (xsSeq (xsWhl (xCmp .isnot (xLoc 6) (xLit .none)) (xsSeq (xsExpr (xMeth P call (xLoc 3) 118 xNil)) (xsSeq (xsAsg (xTLoc 5) (xCall call (xLit (.fn 67)) (xCons (xLoc 6) (xCons (xLoc 7) (xCons (xLoc 8) (xCons (xLoc 1) (xCons (xLoc 4) (xCons (xLoc 3) xNil)))))))) (xsSeq (xsIfe (xCmp .is (xLoc 5) (xLit .none)) (xsSeq xsBrk xsNil) xsNil) (xsSeq (xsIfe (xCmp .eq (xLoc 5) (xLit (.str [108, 111, 115, 116]))) (xsSeq (xsRet (xLit (.str [108, 111, 115, 116]))) xsNil) xsNil) (xsSeq (xsAsg (xTTup (xTCons (xTLoc 6) (xTCons (xTLoc 7) (xTCons (xTLoc 8) xTNil)))) (xLoc 5)) xsNil)))))) (xsSeq (xsIfe (xCmp .is (xLoc 6) (xLit .none)) (xsSeq (xsRet (xTup (xCons (xLoc 7) (xCons (xPrim .list (xCons (xLoc 8) xNil)) xNil)))) xsNil) xsNil) xsNil)))))) (xsSeq (xsRet (xLit .none)) xsNil)))
theorem xb_tried_eq (P : Pg) (call : CallT) : exB P call b_tried = xb_tried P call := by delta b_tried xb_tried; simp only [evE_bad, exS_bad, evE_lit, evE_glob, evE_loc, evE_tup, evE_lst, evE_dict, evE_attr, evE_idx, evE_slice, evE_bin, evE_neg, evE_not, evE_cmp, evE_and, evE_or, evE_ife, evE_call, evE_new, evE_meth, evE_bmeth, evE_prim, evE_isin, evE_comp, evL_nil, evL_cons, evD_nil, evAnd_nil, evAnd_cons, evOr_nil, evOr_cons, evC_nil, evC_cons, asgT_loc, asgT_attr, asgT_idx, asgT_tup, asgTs_nil, asgTs_cons, exS_expr, exS_ret, exS_asg, exS_auga, exS_ife, exS_whl, exS_for, exS_brk, exS_cont, exB_nil, exB_cons]
noncomputable def xb_advanced (P : Pg) (call : CallT) : XS := (xsSeq (xsAsg (xTTup (xTCons (xTLoc 6) (xTCons (xTLoc 7) xTNil))) (xLoc 0)) (xsSeq (xsAsg (xTLoc 8) (xIdx (xLoc 6) (xLit (.int 0)))) (xsSeq (xsIfe (xCmp .isin (xLoc 8) (xTup (xCons (xLit (.str [99, 97, 116])) (xCons (xLit (.str [97, 108, 116])) (xCons (xLit (.str [97, 114, 98, 110, 111])) (xCons (xLit (.str [108, 97, 116, 101, 114])) (xCons (xLit (.str [110, 111, 119])) xNil))))))) (xsSeq (xsRet (xCall call (xLit (.fn 68)) (xCons (xLoc 6) (xCons (xLoc 7) (xCons (xLoc 1) (xCons (xLoc 2) (xCons (xLoc 4) xNil))))))) xsNil) xsNil) (xsSeq (xsIfe (xCmp .eq (xSlice (xLoc 8) (xLit .none) (xLit (.int 4)) (xLit .none)) (xLit (.str [101, 110, 100, 32]))) (xsSeq (xsRet (xCall call (xLit (.fn 69)) (xCons (xLoc 6) (xCons (xLoc 7) (xCons (xLoc 1) (xCons (xLoc 2) (xCons (xLoc 3) (xCons (xLoc 4) (xCons (xLoc 5) xNil))))))))) xsNil) xsNil) (xsSeq (xsIfe (xCmp .eq (xLoc 8) (xLit (.str [99, 117, 114, 115, 111, 114]))) (xsSeq (xsRet (xIfe (xMeth P call (xLoc 5) 117 (xCons (xIdx (xLoc 6) (xLit (.int 1))) (xCons (xLoc 1) xNil))) (xTup (xCons (xLoc 7) (xCons (xLoc 1) (xCons (xLoc 2) xNil)))) (xLit .none))) xsNil) xsNil) (xsSeq (xsIfe (xCmp .eq (xLoc 8) (xLit (.str [100, 101, 108, 97, 121]))) (xsSeq (xsAsg (xTLoc 9) (xMeth P call (xLoc 5) 116 (xCons (xIdx (xLoc 6) (xLit (.int 1))) xNil))) (xsSeq (xsRet (xIfe (xCall call (xLit (.fn 16)) (xCons (xLoc 9) xNil)) (xLit .none) (xTup (xCons (xTup (xCons (xCall call (xLit (.fn 25)) (xCons (xLoc 9) xNil)) (xCons (xLoc 7) xNil))) (xCons (xLoc 1) (xCons (xLoc 2) xNil)))))) xsNil)) xsNil) (xsSeq (xsIfe (xCmp .isin (xLoc 8) (xTup (xCons (xLit (.str [102, 101, 110, 99, 101])) (xCons (xLit (.str [97, 98, 111, 114, 116])) (xCons (xLit (.str [102, 97, 105, 108])) (xCons (xLit (.str [115, 117, 99, 99, 101, 101, 100])) xNil)))))) (xsSeq (xsRet (xCall call (xLit (.fn 70)) (xCons (xLoc 0) (xCons (xLoc 1) (xCons (xLoc 2) (xCons (xLoc 4) xNil)))))) xsNil) xsNil) (xsSeq (xsRet (xCall call (xLit (.fn 71)) (xCons (xLoc 6) (xCons (xLoc 7) (xCons (xLoc 1) (xCons (xLoc 2) (xCons (xLoc 3) (xCons (xLoc 4) (xCons (xLoc 5) xNil))))))))) xsNil))))))))
theorem xb_advanced_eq (P : Pg) (call : CallT) : exB P call b_advanced = xb_advanced P call := by delta b_advanced xb_advanced; simp only [evE_bad, exS_bad, evE_lit, evE_glob, evE_loc, evE_tup, evE_lst, evE_dict, evE_attr, evE_idx, evE_slice, evE_bin, evE_neg, evE_not, evE_cmp, evE_and, evE_or, evE_ife, evE_call, evE_new, evE_meth, evE_bmeth, evE_prim, evE_isin, evE_comp, evL_nil, evL_cons, evD_nil, evAnd_nil, evAnd_cons, evOr_nil, evOr_cons, evC_nil, evC_cons, asgT_loc, asgT_attr, asgT_idx, asgT_tup, asgTs_nil, asgTs_cons, exS_expr, exS_ret, exS_asg, exS_auga, exS_ife, exS_whl, exS_for, exS_brk, exS_cont, exB_nil, exB_cons]
noncomputable def xb_led_in (P : Pg) (call : CallT) : XS := (xsSeq (xsAsg (xTLoc 5) (xIdx (xLoc 0) (xLit (.int 0)))) (xsSeq (xsIfe (xCmp .eq (xLoc 5) (xLit (.str [99, 97, 116]))) (xsSeq (xsRet (xTup (xCons (xTup (xCons (xIdx (xLoc 0) (xLit (.int 1))) (xCons (xTup (xCons (xIdx (xLoc 0) (xLit (.int 2))) (xCons (xLoc 1) xNil))) xNil))) (xCons (xLoc 2) (xCons (xLoc 3) xNil))))) xsNil) xsNil) (xsSeq (xsIfe (xCmp .eq (xLoc 5) (xLit (.str [97, 108, 116]))) (xsSeq (xsExpr (xBm (xLoc 4) .append (xCons (xTup (xCons (xTup (xCons (xIdx (xLoc 0) (xLit (.int 2))) (xCons (xLoc 1) xNil))) (xCons (xLoc 2) (xCons (xLoc 3) xNil)))) xNil))) (xsSeq (xsRet (xTup (xCons (xTup (xCons (xIdx (xLoc 0) (xLit (.int 1))) (xCons (xLoc 1) xNil))) (xCons (xLoc 2) (xCons (xLoc 3) xNil))))) xsNil)) xsNil) (xsSeq (xsIfe (xCmp .eq (xLoc 5) (xLit (.str [97, 114, 98, 110, 111]))) (xsSeq (xsExpr (xBm (xLoc 4) .append (xCons (xTup (xCons (xTup (xCons (xIdx (xLoc 0) (xLit (.int 1))) (xCons (xTup (xCons (xTup (xCons (xLit (.str [101, 110, 100, 32, 114, 111, 117, 110, 100])) (xCons (xLoc 0) (xCons (xLoc 2) xNil)))) (xCons (xLoc 1) xNil))) xNil))) (xCons (xLoc 2) (xCons (xLoc 3) xNil)))) xNil))) (xsSeq (xsRet (xTup (xCons (xLoc 1) (xCons (xLoc 2) (xCons (xLoc 3) xNil))))) xsNil)) xsNil) (xsSeq (xsRet (xTup (xCons (xTup (xCons (xIdx (xLoc 0) (xLit (.int 1))) (xCons (xTup (xCons (xTup (xCons (xBin .add (xLit (.str [101, 110, 100, 32])) (xLoc 5)) (xCons (xIdx (xLoc 0) (xLit (.int 2))) (xCons (xLoc 2) xNil)))) (xCons (xLoc 1) xNil))) xNil))) (xCons (xLoc 2) (xCons (xLoc 3) xNil))))) xsNil)))))
theorem xb_led_in_eq (P : Pg) (call : CallT) : exB P call b_led_in = xb_led_in P call := by kernel_rfl
noncomputable def xb_led_out (P : Pg) (call : CallT) : XS := (xsSeq (xsAsg (xTTup (xTCons (xTLoc 7) (xTCons (xTLoc 8) (xTCons (xTLoc 9) xTNil)))) (xLoc 0)) (xsSeq (xsIfe (xCmp .eq (xLoc 7) (xLit (.str [101, 110, 100, 32, 108, 97, 116, 101, 114]))) (xsSeq (xsRet (xTup (xCons (xLoc 1) (xCons (xLoc 2) (xCons (xBin .add (xLoc 3) (xTup (xCons (xTup (xCons (xLoc 8) (xCons (xSlice (xLoc 4) (xLoc 9) (xLoc 2) (xLit .none)) xNil))) xNil))) xNil))))) xsNil) xsNil) (xsSeq (xsIfe (xCmp .eq (xLoc 7) (xLit (.str [101, 110, 100, 32, 110, 111, 119]))) (xsSeq (xsRet (xIfe (xMeth P call (xLoc 6) 117 (xCons (xLoc 8) (xCons (xSlice (xLoc 4) (xLoc 9) (xLoc 2) (xLit .none)) xNil))) (xTup (xCons (xLoc 1) (xCons (xLoc 2) (xCons (xLoc 3) xNil)))) (xLit .none))) xsNil) xsNil) (xsSeq (xsRet (xIfe (xCmp .eq (xLoc 2) (xLoc 9)) (xLit .none) (xTup (xCons (xTup (xCons (xLoc 8) (xCons (xLoc 1) xNil))) (xCons (xLoc 2) (xCons (xLoc 3) xNil)))))) xsNil))))
theorem xb_led_out_eq (P : Pg) (call : CallT) : exB P call b_led_out = xb_led_out P call := by delta b_led_out xb_led_out; simp only [evE_bad, exS_bad, evE_lit, evE_glob, evE_loc, evE_tup, evE_lst, evE_dict, evE_attr, evE_idx, evE_slice, evE_bin, evE_neg, evE_not, evE_cmp, evE_and, evE_or, evE_ife, evE_call, evE_new, evE_meth, evE_bmeth, evE_prim, evE_isin, evE_comp, evL_nil, evL_cons, evD_nil, evAnd_nil, evAnd_cons, evOr_nil, evOr_cons, evC_nil, evC_cons, asgT_loc, asgT_attr, asgT_idx, asgT_tup, asgTs_nil, asgTs_cons, exS_expr, exS_ret, exS_asg, exS_auga, exS_ife, exS_whl, exS_for, exS_brk, exS_cont, exB_nil, exB_cons]
noncomputable def xb_steered (P : Pg) (call : CallT) : XS := (xsSeq (xsAsg (xTTup (xTCons (xTLoc 4) (xTCons (xTLoc 5) xTNil))) (xTup (xCons (xIdx (xIdx (xLoc 0) (xLit (.int 0))) (xLit (.int 0))) (xCons (xIdx (xLoc 0) (xLit (.int 1))) xNil)))) (xsSeq (xsIfe (xCmp .eq (xLoc 4) (xLit (.str [97, 98, 111, 114, 116]))) (xsSeq (xsRet (xLit (.str [108, 111, 115, 116]))) xsNil) xsNil) (xsSeq (xsIfe (xCmp .eq (xLoc 4) (xLit (.str [102, 97, 105, 108]))) (xsSeq (xsRet (xLit .none)) xsNil) xsNil) (xsSeq (xsExpr (xBm (xLoc 3) .append (xCons (xIfe (xCmp .eq (xLoc 4) (xLit (.str [102, 101, 110, 99, 101]))) (xLit .none) (xTup (xCons (xLoc 0) (xCons (xLoc 1) (xCons (xLoc 2) xNil))))) xNil))) (xsSeq (xsRet (xTup (xCons (xLoc 5) (xCons (xLoc 1) (xCons (xLoc 2) xNil))))) xsNil)))))
theorem xb_steered_eq (P : Pg) (call : CallT) : exB P call b_steered = xb_steered P call := by delta b_steered xb_steered; simp only [evE_bad, exS_bad, evE_lit, evE_glob, evE_loc, evE_tup, evE_lst, evE_dict, evE_attr, evE_idx, evE_slice, evE_bin, evE_neg, evE_not, evE_cmp, evE_and, evE_or, evE_ife, evE_call, evE_new, evE_meth, evE_bmeth, evE_prim, evE_isin, evE_comp, evL_nil, evL_cons, evD_nil, evAnd_nil, evAnd_cons, evOr_nil, evOr_cons, evC_nil, evC_cons, asgT_loc, asgT_attr, asgT_idx, asgT_tup, asgTs_nil, asgTs_cons, exS_expr, exS_ret, exS_asg, exS_auga, exS_ife, exS_whl, exS_for, exS_brk, exS_cont, exB_nil, exB_cons]
noncomputable def xb_taken (P : Pg) (call : CallT) : XS := (xsSeq (xsAsg (xTLoc 7) (xIdx (xLoc 0) (xLit (.int 0)))) (xsSeq (xsIfe (xCmp .eq (xLoc 7) (xLit (.str [97, 114, 98]))) (xsSeq (xsIfe (xCmp .lt (xLoc 2) (xPrim .len (xCons (xLoc 4) xNil))) (xsSeq (xsExpr (xBm (xLoc 5) .append (xCons (xTup (xCons (xTup (xCons (xLoc 0) (xCons (xLoc 1) xNil))) (xCons (xBin .add (xLoc 2) (xLit (.int 1))) (xCons (xLoc 3) xNil)))) xNil))) xsNil) xsNil) (xsSeq (xsRet (xTup (xCons (xLoc 1) (xCons (xLoc 2) (xCons (xLoc 3) xNil))))) xsNil)) xsNil) (xsSeq (xsIfe (xCmp .eq (xLoc 7) (xLit (.str [98, 97, 108]))) (xsSeq (xsAsg (xTLoc 8) (xCall call (xLit (.fn 42)) (xCons (xLoc 4) (xCons (xLoc 2) xNil)))) (xsSeq (xsFor (.one 9) (xSlice (xLoc 8) (xLit .none) (xLit (.int 0)) (xNeg (xLit (.int 1)))) (xsSeq (xsExpr (xBm (xLoc 5) .append (xCons (xTup (xCons (xLoc 1) (xCons (xLoc 9) (xCons (xLoc 3) xNil)))) xNil))) xsNil)) (xsSeq (xsRet (xIfe (xCmp .gt (xPrim .len (xCons (xLoc 8) xNil)) (xLit (.int 0))) (xTup (xCons (xLoc 1) (xCons (xIdx (xLoc 8) (xLit (.int 0))) (xCons (xLoc 3) xNil)))) (xLit .none))) xsNil))) xsNil) (xsSeq (xsAsg (xTLoc 10) (xCall call (xLit (.fn 27)) (xCons (xLoc 0) (xCons (xLoc 6) xNil)))) (xsSeq (xsIfe (xCmp .is (xLoc 10) (xLit .none)) (xsSeq (xsRet (xLit .none)) xsNil) xsNil) (xsSeq (xsAsg (xTLoc 9) (xCall call (xLit (.fn 44)) (xCons (xLoc 10) (xCons (xLoc 4) (xCons (xLoc 2) xNil))))) (xsSeq (xsRet (xIfe (xCmp .is (xLoc 9) (xLit .none)) (xLit .none) (xTup (xCons (xLoc 1) (xCons (xLoc 9) (xCons (xLoc 3) xNil)))))) xsNil)))))))
theorem xb_taken_eq (P : Pg) (call : CallT) : exB P call b_taken = xb_taken P call := by kernel_rfl
end Mine

namespace Mine
namespace L4
noncomputable def xb_law_next (P : Pg) (call : CallT) : XS := (xsSeq (xsAsg (xTTup (xTCons (xTLoc 2) (xTCons (xTLoc 3) xTNil))) (xLoc 0)) (xsSeq (xsAsg (xTIdx (xLoc 0) (xLit (.int 1))) (xBin .add (xLoc 3) (xLit (.int 1)))) (xsSeq (xsIfe (xCmp .lt (xLoc 3) (xPrim .len (xCons (xLoc 2) xNil))) (xsSeq (xsRet (xBin .mod (xPrim .abs (xCons (xPrim .int (xCons (xIdx (xLoc 2) (xLoc 3)) xNil)) xNil)) (xLoc 1))) xsNil) xsNil) (xsSeq (xsRet (xBin .mod (xBin .add (xBin .add (xBin .add (xBin .mul (xLit (.int 5)) (xLoc 3)) (xBin .fdiv (xLoc 3) (xLit (.int 2)))) (xLit (.int 8))) (xPrim .len (xCons (xLoc 2) xNil))) (xLoc 1))) xsNil))))
theorem xb_law_next_eq (P : Pg) (call : CallT) : exB P call b_law_next = xb_law_next P call := by delta b_law_next xb_law_next; simp only [evE_bad, exS_bad, evE_lit, evE_glob, evE_loc, evE_tup, evE_lst, evE_dict, evE_attr, evE_idx, evE_slice, evE_bin, evE_neg, evE_not, evE_cmp, evE_and, evE_or, evE_ife, evE_call, evE_new, evE_meth, evE_bmeth, evE_prim, evE_isin, evE_comp, evL_nil, evL_cons, evD_nil, evAnd_nil, evAnd_cons, evOr_nil, evOr_cons, evC_nil, evC_cons, asgT_loc, asgT_attr, asgT_idx, asgT_tup, asgTs_nil, asgTs_cons, exS_expr, exS_ret, exS_asg, exS_auga, exS_ife, exS_whl, exS_for, exS_brk, exS_cont, exB_nil, exB_cons]
noncomputable def xb_law_pascal (P : Pg) (call : CallT) : XS := (xsSeq (xsAsg (xTLoc 2) (xLst (xCons (xLit (.int 1)) xNil))) (xsSeq (xsFor (.one 3) (xPrim .range (xCons (xLoc 0) xNil)) (xsSeq (xsAsg (xTLoc 2) (xBin .add (xBin .add (xLst (xCons (xLit (.int 1)) xNil)) (xComp (xBin .add (xIdx (xLoc 2) (xLoc 4)) (xIdx (xLoc 2) (xBin .add (xLoc 4) (xLit (.int 1))))) (xPrim .range (xCons (xBin .sub (xPrim .len (xCons (xLoc 2) xNil)) (xLit (.int 1))) xNil)) (.one 4) 1 xCT)) (xLst (xCons (xLit (.int 1)) xNil)))) xsNil)) (xsSeq (xsRet (xIdx (xLoc 2) (xLoc 1))) xsNil)))
theorem xb_law_pascal_eq (P : Pg) (call : CallT) : exB P call b_law_pascal = xb_law_pascal P call := by kernel_rfl
noncomputable def xb_law_cuts (P : Pg) (call : CallT) : XS := (xsSeq (xsAsg (xTTup (xTCons (xTLoc 2) (xTCons (xTLoc 3) xTNil))) (xTup (xCons (xBin .mul (xLst (xCons (xLit (.str [])) xNil)) (xLoc 1)) (xCons (xLst xNil) xNil)))) (xsSeq (xsFor (.many [4, 5]) (xLoc 0) (xsSeq (xsIfe (xCmp .eq (xLoc 4) (xLit (.str [69, 78, 68]))) (xsSeq (xsExpr (xBm (xLoc 3) .append (xCons (xPrim .list (xCons (xLoc 2) xNil)) xNil))) xsNil) (xsSeq (xsAsg (xTIdx (xLoc 2) (xPrim .int (xCons (xLoc 4) xNil))) (xLoc 5)) xsNil)) xsNil)) (xsSeq (xsRet (xLoc 3)) xsNil)))
theorem xb_law_cuts_eq (P : Pg) (call : CallT) : exB P call b_law_cuts = xb_law_cuts P call := by delta b_law_cuts xb_law_cuts; simp only [evE_bad, exS_bad, evE_lit, evE_glob, evE_loc, evE_tup, evE_lst, evE_dict, evE_attr, evE_idx, evE_slice, evE_bin, evE_neg, evE_not, evE_cmp, evE_and, evE_or, evE_ife, evE_call, evE_new, evE_meth, evE_bmeth, evE_prim, evE_isin, evE_comp, evL_nil, evL_cons, evD_nil, evAnd_nil, evAnd_cons, evOr_nil, evOr_cons, evC_nil, evC_cons, asgT_loc, asgT_attr, asgT_idx, asgT_tup, asgTs_nil, asgTs_cons, exS_expr, exS_ret, exS_asg, exS_auga, exS_ife, exS_whl, exS_for, exS_brk, exS_cont, exB_nil, exB_cons]
noncomputable def xb_law (P : Pg) (call : CallT) : XS := (xsSeq (xsAsg (xTLoc 1) (xLst (xCons (xSlice (xLoc 0) (xLit .none) (xLit (.int 10)) (xLit .none)) (xCons (xLit (.int 0)) xNil)))) (xsSeq (xsAsg (xTTup (xTCons (xTLoc 2) (xTCons (xTLoc 3) xTNil))) (xTup (xCons (xBin .add (xLit (.int 1)) (xCall call (xLit (.fn 72)) (xCons (xLoc 1) (xCons (xLit (.int 3)) xNil)))) (xCons (xCall call (xLit (.fn 72)) (xCons (xLoc 1) (xCons (xLit (.int 5)) xNil))) xNil)))) (xsSeq (xsAsg (xTLoc 4) (xBm (xLit (.str [])) .join (xCons (xComp (xIdx (xLit (.str [97, 98])) (xCall call (xLit (.fn 72)) (xCons (xLoc 1) (xCons (xLit (.int 2)) xNil)))) (xPrim .range (xCons (xLoc 3) xNil)) (.one 12) 1 xCT) xNil))) (xsSeq (xsAsg (xTLoc 5) (xTup (xCons (xLit (.str [99, 97, 116])) (xCons (xTup (xCons (xLit (.str [114, 112, 111, 115])) (xCons (xLit (.int 0)) xNil))) (xCons (xTup (xCons (xLit (.str [99, 97, 116])) (xCons (xTup (xCons (xLit (.str [99, 117, 114, 115, 111, 114])) (xCons (xNew P call 1 (xCons (xLit (.str [118, 97, 114])) (xCons (xLit .none) (xCons (xLit (.str [69, 78, 68])) xNil)))) xNil))) (xCons (xTup (xCons (xLit (.str [102, 97, 105, 108])) xNil)) xNil)))) xNil))))) (xsSeq (xsFor (.one 6) (xPrim .range (xCons (xBin .sub (xLoc 2) (xLit (.int 1))) (xCons (xBin .sub (xLit (.int 0)) (xLit (.int 1))) (xCons (xBin .sub (xLit (.int 0)) (xLit (.int 1))) xNil)))) (xsSeq (xsAsg (xTLoc 5) (xTup (xCons (xLit (.str [99, 97, 116])) (xCons (xTup (xCons (xLit (.str [110, 111, 119])) (xCons (xTup (xCons (xLit (.str [97, 114, 98])) xNil)) (xCons (xNew P call 1 (xCons (xLit (.str [118, 97, 114])) (xCons (xLit .none) (xCons (xPrim .str (xCons (xLoc 6) xNil)) xNil)))) xNil)))) (xCons (xLoc 5) xNil))))) xsNil)) (xsSeq (xsAsg (xTTup (xTCons (xTLoc 7) (xTCons (xTLoc 8) xTNil))) (xTup (xCons (xNew P call 4 (xCons (xDict xDNil) (xCons (xLit (.int 99999)) (xCons (xLst xNil) xNil)))) (xCons (xCmp .eq (xCall call (xLit (.fn 72)) (xCons (xLoc 1) (xCons (xLit (.int 2)) xNil))) (xLit (.int 1))) xNil)))) (xsSeq (xsAsg (xTLoc 9) (xIfe (xLoc 8) (xCall call (xLit (.fn 64)) (xCons (xLoc 5) (xCons (xLoc 4) (xCons (xLit (.bool true)) (xCons (xLoc 7) xNil))))) (xCall call (xLit (.fn 59)) (xCons (xLoc 5) (xCons (xLoc 4) (xCons (xLit (.bool true)) (xCons (xLoc 7) xNil))))))) (xsSeq (xsAsg (xTLoc 10) (xCall call (xLit (.fn 74)) (xCons (xAttr (xLoc 7) 14) (xCons (xLoc 2) xNil)))) (xsSeq (xsIfe (xOr (xCmp .isnot (xLoc 9) (xLit .none)) (xOr (xCmp .ne (xPrim .len (xCons (xLoc 10) xNil)) (xCall call (xLit (.fn 73)) (xCons (xBin .sub (xBin .add (xLoc 3) (xLoc 2)) (xLit (.int 1))) (xCons (xBin .sub (xLoc 2) (xLit (.int 1))) xNil)))) xF)) (xsSeq (xsRet (xLit (.bool false))) xsNil) xsNil) (xsSeq (xsAsg (xTLoc 11) (xComp (xComp (xPrim .len (xCons (xLoc 13) xNil)) (xLoc 12) (.one 13) 1 xCT) (xLoc 10) (.one 12) 1 xCT)) (xsSeq (xsFor (.one 6) (xPrim .range (xCons (xBin .sub (xPrim .len (xCons (xLoc 10) xNil)) (xLit (.int 1))) xNil)) (xsSeq (xsIfe (xNot (xCmp .lt (xIdx (xLoc 11) (xLoc 6)) (xIdx (xLoc 11) (xBin .add (xLoc 6) (xLit (.int 1)))))) (xsSeq (xsRet (xLit (.bool false))) xsNil) xsNil) xsNil)) (xsSeq (xsRet (xCmp .eq (xComp (xLoc 12) (xLoc 10) (.one 12) 1 (xCAnd (xCmp .ne (xBm (xLit (.str [])) .join (xCons (xLoc 12) xNil)) (xLoc 4)) xCT)) (xLst xNil))) xsNil))))))))))))
theorem xb_law_eq (P : Pg) (call : CallT) : exB P call b_law = xb_law P call := by delta b_law xb_law; simp only [evE_bad, exS_bad, evE_lit, evE_glob, evE_loc, evE_tup, evE_lst, evE_dict, evE_attr, evE_idx, evE_slice, evE_bin, evE_neg, evE_not, evE_cmp, evE_and, evE_or, evE_ife, evE_call, evE_new, evE_meth, evE_bmeth, evE_prim, evE_isin, evE_comp, evL_nil, evL_cons, evD_nil, evAnd_nil, evAnd_cons, evOr_nil, evOr_cons, evC_nil, evC_cons, asgT_loc, asgT_attr, asgT_idx, asgT_tup, asgTs_nil, asgTs_cons, exS_expr, exS_ret, exS_asg, exS_auga, exS_ife, exS_whl, exS_for, exS_brk, exS_cont, exB_nil, exB_cons]
noncomputable def tbl : List XF := [⟨2, 5, xb_row_of pg⟩,
  ⟨1, 1, xb_is_plain_text pg⟩,
  ⟨1, 3, xb_with_texts_joined pg⟩,
  ⟨1, 1, xb_PatternCode_init pg⟩,
  ⟨2, 2, xb_PatternCode_emit pg⟩,
  ⟨2, 5, xb_PatternCode_put pg⟩,
  ⟨2, 3, xb_PatternCode_begun pg⟩,
  ⟨2, 5, xb_PatternCode_choice pg⟩,
  ⟨2, 4, xb_PatternCode_repeat pg⟩,
  ⟨3, 4, xb_PatternCode_bound pg⟩,
  ⟨1, 4, xb_straightened pg⟩,
  ⟨1, 2, xb_compile_pattern pg⟩,
  ⟨3, 3, xb_SnobolError_init pg⟩,
  ⟨2, 2, xb_Pattern_init pg⟩,
  ⟨2, 2, xb_Delayed_init pg⟩,
  ⟨4, 4, xb_NameRef_init pg⟩,
  ⟨1, 1, xb_is_fail pg⟩,
  ⟨2, 2, xb_fits pg⟩,
  ⟨2, 5, xb_whole_of_text pg⟩,
  ⟨1, 3, xb_text_of_whole pg⟩,
  ⟨2, 2, xb_to_whole pg⟩,
  ⟨1, 1, xb_to_text pg⟩,
  ⟨1, 2, xb_need_text pg⟩,
  ⟨3, 4, xb_plain_count pg⟩,
  ⟨2, 3, xb_plain_signs pg⟩,
  ⟨1, 2, xb_pattern_of pg⟩,
  ⟨1, 1, xb_is_delayed pg⟩,
  ⟨2, 3, xb_settled pg⟩,
  ⟨3, 4, xb_chars_end pg⟩,
  ⟨3, 3, xb_len_end pg⟩,
  ⟨2, 2, xb_pos_end pg⟩,
  ⟨3, 3, xb_rpos_end pg⟩,
  ⟨3, 3, xb_tab_end pg⟩,
  ⟨3, 4, xb_rtab_end pg⟩,
  ⟨1, 1, xb_rem_end pg⟩,
  ⟨3, 3, xb_any_at pg⟩,
  ⟨3, 3, xb_notany_at pg⟩,
  ⟨4, 4, xb_run_end pg⟩,
  ⟨3, 4, xb_span_end pg⟩,
  ⟨3, 4, xb_break_end pg⟩,
  ⟨2, 2, xb_arb_ends pg⟩,
  ⟨2, 3, xb_bal_end pg⟩,
  ⟨2, 4, xb_bal_ends pg⟩,
  ⟨4, 4, xb_one_end pg⟩,
  ⟨3, 3, xb_plain_end pg⟩,
  ⟨4, 5, xb_ends_of pg⟩,
  ⟨7, 7, xb_Way_init pg⟩,
  ⟨2, 2, xb_Way_copied pg⟩,
  ⟨3, 3, xb_Match_init pg⟩,
  ⟨3, 5, xb_Match_run pg⟩,
  ⟨1, 1, xb_Match_way_back pg⟩,
  ⟨3, 4, xb_Match_done pg⟩,
  ⟨3, 6, xb_Match_met_once pg⟩,
  ⟨3, 6, xb_Match_ended pg⟩,
  ⟨3, 4, xb_Match_other pg⟩,
  ⟨3, 5, xb_Match_met_often pg⟩,
  ⟨3, 4, xb_Match_asked pg⟩,
  ⟨1, 3, xb_named_rows pg⟩,
  ⟨4, 7, xb_match_orders pg⟩,
  ⟨4, 4, xb_match_compiled pg⟩,
  ⟨4, 4, xb_PlainHost_init pg⟩,
  ⟨2, 2, xb_PlainHost_value_of pg⟩,
  ⟨3, 3, xb_PlainHost_assign pg⟩,
  ⟨1, 1, xb_PlainHost_step pg⟩,
  ⟨4, 6, xb_match_plain pg⟩,
  ⟨4, 5, xb_match_at pg⟩,
  ⟨4, 9, xb_tried pg⟩,
  ⟨6, 10, xb_advanced pg⟩,
  ⟨5, 6, xb_led_in pg⟩,
  ⟨7, 10, xb_led_out pg⟩,
  ⟨4, 6, xb_steered pg⟩,
  ⟨7, 11, xb_taken pg⟩,
  ⟨2, 4, xb_law_next pg⟩,
  ⟨2, 4, xb_law_pascal pg⟩,
  ⟨2, 6, xb_law_cuts pg⟩,
  ⟨1, 12, xb_law pg⟩]
theorem tbl_eq (call : CallT) : pg.fns.map (fun fi => (fi.np, fi.ns, exB pg call fi.body)) = tbl.map fun F => (F.np, F.ns, F.body call) := by
  simp only [pg, fns, fnsC, fnsL, tbl, List.cons_append, List.nil_append, List.map_cons, List.map_nil, xb_row_of_eq, xb_is_plain_text_eq, xb_with_texts_joined_eq, xb_PatternCode_init_eq, xb_PatternCode_emit_eq, xb_PatternCode_put_eq, xb_PatternCode_begun_eq, xb_PatternCode_choice_eq, xb_PatternCode_repeat_eq, xb_PatternCode_bound_eq, xb_straightened_eq, xb_compile_pattern_eq, xb_SnobolError_init_eq, xb_Pattern_init_eq, xb_Delayed_init_eq, xb_NameRef_init_eq, xb_is_fail_eq, xb_fits_eq, xb_whole_of_text_eq, xb_text_of_whole_eq, xb_to_whole_eq, xb_to_text_eq, xb_need_text_eq, xb_plain_count_eq, xb_plain_signs_eq, xb_pattern_of_eq, xb_is_delayed_eq, xb_settled_eq, xb_chars_end_eq, xb_len_end_eq, xb_pos_end_eq, xb_rpos_end_eq, xb_tab_end_eq, xb_rtab_end_eq, xb_rem_end_eq, xb_any_at_eq, xb_notany_at_eq, xb_run_end_eq, xb_span_end_eq, xb_break_end_eq, xb_arb_ends_eq, xb_bal_end_eq, xb_bal_ends_eq, xb_one_end_eq, xb_plain_end_eq, xb_ends_of_eq, xb_Way_init_eq, xb_Way_copied_eq, xb_Match_init_eq, xb_Match_run_eq, xb_Match_way_back_eq, xb_Match_done_eq, xb_Match_met_once_eq, xb_Match_ended_eq, xb_Match_other_eq, xb_Match_met_often_eq, xb_Match_asked_eq, xb_named_rows_eq, xb_match_orders_eq, xb_match_compiled_eq, xb_PlainHost_init_eq, xb_PlainHost_value_of_eq, xb_PlainHost_assign_eq, xb_PlainHost_step_eq, xb_match_plain_eq, xb_match_at_eq, xb_tried_eq, xb_advanced_eq, xb_led_in_eq, xb_led_out_eq, xb_steered_eq, xb_taken_eq, xb_law_next_eq, xb_law_pascal_eq, xb_law_cuts_eq, xb_law_eq]
theorem fast (d : Nat) : callF pg d = callX tbl d := callX_eq tbl_eq d
end L4
end Mine

namespace Mine
namespace L4
theorem next_ok {d : Nat} {H : Hp} {cells : List V} {ns : List Int} {t m : Int} (h0 : H[0]? = some (.list cells)) (h1 : H[1]? = some (.list [.loc 0, .int t])) (hc : cells = ns.map .int) (hl : ns.length ≤ 10) (ht : 0 ≤ t ∧ t < 1000) (hm : 0 < m) :
    ∃ r, 0 ≤ r ∧ r < m ∧ callX tbl (d + 1) 72 [.loc 1, .int m] H = some (.int r, H.set 1 (.list [.loc 0, .int (t + 1)])) := by
  have h1l : 1 < H.length := (List.getElem?_eq_some_iff.mp h1).1
  have g0 : (H.set 1 (.list [.loc 0, .int (t + 1)]))[0]? = some (.list cells) := by rw [List.getElem?_set_ne (by decide)]; exact h0
  have hcl : cells.length = ns.length := by rw [hc, List.length_map]
  by_cases hlt : t < (ns.length : Int)
  · obtain ⟨n, hn⟩ : ∃ n, ns[t.toNat]? = some n := ⟨_, List.getElem?_eq_getElem (by omega)⟩
    refine ⟨(n.natAbs : Int) % m, Int.emod_nonneg _ (by omega), Int.emod_lt_of_pos _ hm, ?_⟩
    have hcn : idxL cells t = some (.int n) := g_idx0 (k := t.toNat) (by omega) (by rw [hc, List.getElem?_map, hn]; rfl)
    exact call_at rfl (run_ret rfl (s_seq (s_asg0 (r_loc rfl) (t_tup0 (g_unpk h1) (t_cons0 t_loc0 (t_cons0 t_loc0 t_nil0))))
      (s_seq (s_asg0 (r_bin (r_loc rfl) r_lit rfl) (t_idx0 (r_loc rfl) r_lit (g_setI h1 ⟨by decide, Nat.le_refl 2⟩)))
      (s_stop (s_if_t (r_cmp (r_loc rfl) (r_prim (r_cons (r_loc rfl) r_nil) (g_len g0)) (c_lt_t (by omega)))
        (s_stop (s_ret0 (r_bin (r_prim (r_cons (r_prim (r_cons (r_idx (r_loc rfl) (r_loc rfl) (g_idxL g0 hcn)) r_nil) rfl) r_nil) rfl) (r_loc rfl) (gd_at hm)))))))))
  · refine ⟨((5 * t + t / 2 + 8 + cells.length) % m), Int.emod_nonneg _ (by omega), Int.emod_lt_of_pos _ hm, ?_⟩
    have b1 : t.natAbs < 1152921504606846976 := by omega
    exact call_at rfl (run_ret rfl (s_seq (s_asg0 (r_loc rfl) (t_tup0 (g_unpk h1) (t_cons0 t_loc0 (t_cons0 t_loc0 t_nil0))))
      (s_seq (s_asg0 (r_bin (r_loc rfl) r_lit rfl) (t_idx0 (r_loc rfl) r_lit (g_setI h1 ⟨by decide, Nat.le_refl 2⟩)))
      (s_seq (s_if_f (r_cmp (r_loc rfl) (r_prim (r_cons (r_loc rfl) r_nil) (g_len g0)) (c_lt_f (by omega))) s_nil0)
        (s_stop (s_ret0 (r_bin (r_bin (r_bin (r_bin (r_bin r_lit (r_loc rfl) (gd_at ⟨by decide, b1⟩)) (r_bin (r_loc rfl) r_lit (gd_at ⟨by decide, b1, by decide⟩)) rfl) r_lit rfl) (r_prim (r_cons (r_loc rfl) r_nil) (g_len g0)) rfl) (r_loc rfl) (gd_at hm))))))))
end L4
end Mine

namespace Mine
namespace L4
noncomputable def y1 (P : Pg) (call : CallT) : XS := (xsAsg (xTLoc 1) (xLst (xCons (xSlice (xLoc 0) (xLit .none) (xLit (.int 10)) (xLit .none)) (xCons (xLit (.int 0)) xNil))))
noncomputable def y2 (P : Pg) (call : CallT) : XS := (xsAsg (xTTup (xTCons (xTLoc 2) (xTCons (xTLoc 3) xTNil))) (xTup (xCons (xBin .add (xLit (.int 1)) (xCall call (xLit (.fn 72)) (xCons (xLoc 1) (xCons (xLit (.int 3)) xNil)))) (xCons (xCall call (xLit (.fn 72)) (xCons (xLoc 1) (xCons (xLit (.int 5)) xNil))) xNil))))
noncomputable def y3 (P : Pg) (call : CallT) : XS := (xsAsg (xTLoc 4) (xBm (xLit (.str [])) .join (xCons (xComp (xIdx (xLit (.str [97, 98])) (xCall call (xLit (.fn 72)) (xCons (xLoc 1) (xCons (xLit (.int 2)) xNil)))) (xPrim .range (xCons (xLoc 3) xNil)) (.one 12) 1 xCT) xNil)))
noncomputable def y4 (P : Pg) (call : CallT) : XS := (xsAsg (xTLoc 5) (xTup (xCons (xLit (.str [99, 97, 116])) (xCons (xTup (xCons (xLit (.str [114, 112, 111, 115])) (xCons (xLit (.int 0)) xNil))) (xCons (xTup (xCons (xLit (.str [99, 97, 116])) (xCons (xTup (xCons (xLit (.str [99, 117, 114, 115, 111, 114])) (xCons (xNew P call 1 (xCons (xLit (.str [118, 97, 114])) (xCons (xLit .none) (xCons (xLit (.str [69, 78, 68])) xNil)))) xNil))) (xCons (xTup (xCons (xLit (.str [102, 97, 105, 108])) xNil)) xNil)))) xNil)))))
noncomputable def y5 (P : Pg) (call : CallT) : XS := (xsFor (.one 6) (xPrim .range (xCons (xBin .sub (xLoc 2) (xLit (.int 1))) (xCons (xBin .sub (xLit (.int 0)) (xLit (.int 1))) (xCons (xBin .sub (xLit (.int 0)) (xLit (.int 1))) xNil)))) (xsSeq (xsAsg (xTLoc 5) (xTup (xCons (xLit (.str [99, 97, 116])) (xCons (xTup (xCons (xLit (.str [110, 111, 119])) (xCons (xTup (xCons (xLit (.str [97, 114, 98])) xNil)) (xCons (xNew P call 1 (xCons (xLit (.str [118, 97, 114])) (xCons (xLit .none) (xCons (xPrim .str (xCons (xLoc 6) xNil)) xNil)))) xNil)))) (xCons (xLoc 5) xNil))))) xsNil))
noncomputable def y6 (P : Pg) (call : CallT) : XS := (xsAsg (xTTup (xTCons (xTLoc 7) (xTCons (xTLoc 8) xTNil))) (xTup (xCons (xNew P call 4 (xCons (xDict xDNil) (xCons (xLit (.int 99999)) (xCons (xLst xNil) xNil)))) (xCons (xCmp .eq (xCall call (xLit (.fn 72)) (xCons (xLoc 1) (xCons (xLit (.int 2)) xNil))) (xLit (.int 1))) xNil))))
noncomputable def y7 (P : Pg) (call : CallT) : XS := (xsAsg (xTLoc 9) (xIfe (xLoc 8) (xCall call (xLit (.fn 64)) (xCons (xLoc 5) (xCons (xLoc 4) (xCons (xLit (.bool true)) (xCons (xLoc 7) xNil))))) (xCall call (xLit (.fn 59)) (xCons (xLoc 5) (xCons (xLoc 4) (xCons (xLit (.bool true)) (xCons (xLoc 7) xNil)))))))
noncomputable def y8 (P : Pg) (call : CallT) : XS := (xsAsg (xTLoc 10) (xCall call (xLit (.fn 74)) (xCons (xAttr (xLoc 7) 14) (xCons (xLoc 2) xNil))))
noncomputable def y9 (P : Pg) (call : CallT) : XS := (xsIfe (xOr (xCmp .isnot (xLoc 9) (xLit .none)) (xOr (xCmp .ne (xPrim .len (xCons (xLoc 10) xNil)) (xCall call (xLit (.fn 73)) (xCons (xBin .sub (xBin .add (xLoc 3) (xLoc 2)) (xLit (.int 1))) (xCons (xBin .sub (xLoc 2) (xLit (.int 1))) xNil)))) xF)) (xsSeq (xsRet (xLit (.bool false))) xsNil) xsNil)
noncomputable def y10 (P : Pg) (call : CallT) : XS := (xsAsg (xTLoc 11) (xComp (xComp (xPrim .len (xCons (xLoc 13) xNil)) (xLoc 12) (.one 13) 1 xCT) (xLoc 10) (.one 12) 1 xCT))
noncomputable def y11 (P : Pg) (call : CallT) : XS := (xsFor (.one 6) (xPrim .range (xCons (xBin .sub (xPrim .len (xCons (xLoc 10) xNil)) (xLit (.int 1))) xNil)) (xsSeq (xsIfe (xNot (xCmp .lt (xIdx (xLoc 11) (xLoc 6)) (xIdx (xLoc 11) (xBin .add (xLoc 6) (xLit (.int 1)))))) (xsSeq (xsRet (xLit (.bool false))) xsNil) xsNil) xsNil))
noncomputable def y12 (P : Pg) (call : CallT) : XS := (xsRet (xCmp .eq (xComp (xLoc 12) (xLoc 10) (.one 12) 1 (xCAnd (xCmp .ne (xBm (xLit (.str [])) .join (xCons (xLoc 12) xNil)) (xLoc 4)) xCT)) (xLst xNil)))
theorem y_split (P : Pg) (call : CallT) : xb_law P call = (xsSeq (y1 P call) (xsSeq (y2 P call) (xsSeq (y3 P call) (xsSeq (y4 P call) (xsSeq (y5 P call) (xsSeq (y6 P call) (xsSeq (y7 P call) (xsSeq (y8 P call) (xsSeq (y9 P call) (xsSeq (y10 P call) (xsSeq (y11 P call) (xsSeq (y12 P call) xsNil)))))))))))) := rfl
theorem seq_next {s r : XS} {l l' : Lo} {H H' : Hp} (h : s l H = some (.next, l', H')) : xsSeq s r l H = r l' H' := by unfold xsSeq; rw [h]
theorem y1_ok (call : CallT) (L : List V) (r : List (Option V)) : y1 pg call (some (.ro L) :: r) [] = some (.next, (some (.ro L) :: r).set 1 (some (.loc 1)), [.list (L.take 10), .list [.loc 0, .int 0]]) :=
  s_asg0 (r_lst (r_cons (r_slice (r_loc rfl) r_lit r_lit r_lit rfl) (r_cons r_lit r_nil))) t_loc0
theorem y2_ok {d : Nat} {cells : List V} {ns : List Int} {v0 : Option V} {r : List (Option V)} (hc : cells = ns.map .int) (hl : ns.length ≤ 10) :
    ∃ a b : Int, (0 ≤ a ∧ a < 3) ∧ (0 ≤ b ∧ b < 5) ∧ y2 pg (callX tbl (d + 1)) (v0 :: some (.loc 1) :: r) [.list cells, .list [.loc 0, .int 0]] = some (.next, ((v0 :: some (.loc 1) :: r).set 2 (some (.int (1 + a)))).set 3 (some (.int b)), [.list cells, .list [.loc 0, .int 2]]) := by
  obtain ⟨a, a1, a2, ea⟩ := next_ok (d := d) (H := [.list cells, .list [.loc 0, .int 0]]) (cells := cells) (ns := ns) (t := 0) (m := 3) rfl rfl hc hl (by omega) (by omega)
  obtain ⟨b, b1, b2, eb⟩ := next_ok (d := d) (H := [.list cells, .list [.loc 0, .int (0 + 1)]]) (cells := cells) (ns := ns) (t := 0 + 1) (m := 5) rfl rfl hc hl (by omega) (by omega)
  exact ⟨a, b, ⟨a1, a2⟩, ⟨b1, b2⟩, s_asg0 (r_tup (r_cons (r_bin r_lit (r_call r_lit (r_cons (r_loc rfl) (r_cons r_lit r_nil)) ea) rfl) (r_cons (r_call r_lit (r_cons (r_loc rfl) (r_cons r_lit r_nil)) eb) r_nil))) (t_tup0 rfl (t_cons0 t_loc0 (t_cons0 t_loc0 t_nil0)))⟩
theorem set_same {H : Hp} {n : Nat} {x : O} (h : H[n]? = some x) : H.set n x = H := by
  apply List.ext_getElem?
  intro i
  by_cases hi : n = i
  · subst hi; rw [List.getElem?_set_self (List.getElem?_eq_some_iff.mp h).1, h]
  · rw [List.getElem?_set_ne hi]
theorem comp_ok {d : Nat} {cells : List V} {ns : List Int} (hc : cells = ns.map .int) (hl : ns.length ≤ 10) (l : Lo) (h1 : l[1]? = some (some (.loc 1))) : ∀ (k n : Nat) (x t : Int) (acc : List V) (H : Hp), k < n → 0 ≤ t → t + k < 1000 → H[0]? = some (.list cells) → H[1]? = some (.list [.loc 0, .int t]) →
    ∃ cs : List Nat, cs.length = k ∧ compN xCT (xIdx (xLit (.str [97, 98])) (xCall (callX tbl (d + 1)) (xLit (.fn 72)) (xCons (xLoc 1) (xCons (xLit (.int 2)) xNil)))) (.one 12) l n (.rng x 1 k) acc H = some (acc.reverse ++ cs.map (fun c => .str [c]), H.set 1 (.list [.loc 0, .int (t + k)])) := by
  intro k
  induction k with
  | zero =>
    intro n x t acc H hn h0 ht g0 g1
    obtain ⟨n, rfl⟩ : ∃ m, n = m + 1 := ⟨n - 1, by omega⟩
    refine ⟨[], rfl, (cn_end rfl).trans ?_⟩
    rw [set_same (by rw [g1]; simp), List.map_nil, List.append_nil]
  | succ k ih =>
    intro n x t acc H hn h0 ht g0 g1
    obtain ⟨n, rfl⟩ : ∃ m, n = m + 1 := ⟨n - 1, by omega⟩
    obtain ⟨a, a1, a2, ea⟩ := next_ok (d := d) (H := H) (cells := cells) (ns := ns) (t := t) (m := 2) g0 g1 hc hl ⟨h0, by omega⟩ (by omega)
    have h1l : 1 < H.length := (List.getElem?_eq_some_iff.mp g1).1
    have hx : idxV (H.set 1 (.list [.loc 0, .int (t + 1)])) (.str [97, 98]) (.int a) = some (.str [if a = 0 then 97 else 98]) := by
      have : a = 0 ∨ a = 1 := by omega
      rcases this with rfl | rfl <;> rfl
    obtain ⟨cs, hcs, e⟩ := ih n (x + 1) (t + 1) (.str [if a = 0 then 97 else 98] :: acc) (H.set 1 (.list [.loc 0, .int (t + 1)])) (by omega) (by omega) (by omega) (set_off (by decide) g0) (set_self h1l)
    refine ⟨(if a = 0 then 97 else 98) :: cs, by rw [List.length_cons, hcs], (cn_step rfl rfl rc_t (r_idx r_lit (r_call r_lit (r_cons (r_loc ?_) (r_cons r_lit r_nil)) ea) hx) e).trans ?_⟩
    · rw [List.getElem?_set_ne (by decide)]; exact h1
    · rw [List.set_set, show t + 1 + (k : Int) = t + ((k + 1 : Nat) : Int) by omega, List.reverse_cons, List.append_assoc]; rfl
end L4
end Mine

namespace Mine
namespace L4
theorem strs_one : ∀ cs : List Nat, strsOf (cs.map fun c => V.str [c]) = some (cs.map fun c => [c])
  | [] => rfl
  | c :: r => by rw [List.map_cons, strsOf, strs_one r]; rfl
theorem cat_one : ∀ cs : List Nat, catL (cs.map fun c => [c]) = cs
  | [] => rfl
  | c :: r => by rw [List.map_cons, catL, cat_one r]; rfl
theorem y3_ok {d : Nat} {cells : List V} {ns : List Int} {b : Int} (hc : cells = ns.map .int) (hl : ns.length ≤ 10) (l : Lo) (h1 : l[1]? = some (some (.loc 1))) (h3 : l[3]? = some (some (.int b))) (hb : 0 ≤ b ∧ b < 5) :
    ∃ cs : List Nat, cs.length = b.toNat ∧ y3 pg (callX tbl (d + 1)) l [.list cells, .list [.loc 0, .int 2]] = some (.next, l.set 4 (some (.str cs)), [.list cells, .list [.loc 0, .int (2 + b)], .list (cs.map fun c => .str [c])]) := by
  have h1' : (l ++ List.replicate 1 none)[1]? = some (some (.loc 1)) := by
    rw [List.getElem?_append_left (List.getElem?_eq_some_iff.mp h1).1]; exact h1
  obtain ⟨cs, hcs, e⟩ := comp_ok (d := d) hc hl (l ++ List.replicate 1 none) h1' b.toNat 1048576 0 2 [] [.list cells, .list [.loc 0, .int 2]] (by omega) (by omega) (by omega) rfl rfl
  have hbt : ((b.toNat : Nat) : Int) = b := by omega
  rw [hbt] at e
  refine ⟨cs, hcs, ?_⟩
  have hlen : (catL (cs.map fun c => [c])).length ≤ lim := by rw [cat_one, hcs]; unfold lim; omega
  have := g_join (m := 2) (H := [.list cells, .list [.loc 0, .int (2 + b)], .list (cs.map fun c => .str [c])]) rfl (strs_one cs) hlen
  rw [cat_one] at this
  refine s_asg0 (r_bm r_lit rfl (r_cons (v := .loc 2) (H1 := [.list cells, .list [.loc 0, .int (2 + b)], .list (cs.map fun c => .str [c])]) ?_ r_nil) this) t_loc0
  exact r_comp (r_prim (r_cons (r_loc h3) r_nil) (p_range1 (by omega))) (i_rng (by decide) (by omega) (.inl rfl)) ((rng_up (p := 0) (q := b) (m := b.toNat) (by omega)).symm ▸ e) (by rw [List.reverse_nil, List.nil_append, List.length_map, hcs]; unfold lim; omega)

noncomputable def xHost (P : Pg) (call : CallT) : XE := xNew P call 4 (xCons (xDict xDNil) (xCons (xLit (.int 99999)) (xCons (xLst xNil) xNil)))
theorem y6_ok {d : Nat} {cells : List V} {ns : List Int} {t : Int} {v : V} {H H6 : Hp} (hc : cells = ns.map .int) (hl : ns.length ≤ 10) (l : Lo) (h1 : l[1]? = some (some (.loc 1))) (ht : 0 ≤ t ∧ t < 1000) (e : xHost pg (callX tbl (d + 1)) l H = some (v, H6)) (g0 : H6[0]? = some (.list cells)) (g1 : H6[1]? = some (.list [.loc 0, .int t])) :
    ∃ b : Bool, y6 pg (callX tbl (d + 1)) l H = some (.next, (l.set 7 (some v)).set 8 (some (.bool b)), H6.set 1 (.list [.loc 0, .int (t + 1)])) := by
  obtain ⟨a, a1, a2, ea⟩ := next_ok (d := d) (H := H6) (cells := cells) (ns := ns) (t := t) (m := 2) g0 g1 hc hl ht (by omega)
  exact ⟨a == 1, s_asg0 (r_tup (r_cons e (r_cons (r_cmp (r_call r_lit (r_cons (r_loc h1) (r_cons r_lit r_nil)) ea) r_lit rfl) r_nil))) (t_tup0 rfl (t_cons0 t_loc0 (t_cons0 t_loc0 t_nil0)))⟩

noncomputable def strsAt (H : Hp) (v : V) : Option (List (List Nat)) := onN v fun k => atL H k strsOf
noncomputable def cutsAt (l : Lo) (H : Hp) : Option (List Nat × List (List (List Nat))) := match (l[4]? : Option (Option V)) with
  | some (some a) => (match (l[10]? : Option (Option V)) with
    | some (some b) => onS a fun s => onN b fun n => atL H n fun cs => (mapO (strsAt H) cs).map fun z => (s, z)
    | _ => none)
  | _ => none
noncomputable def ext (r : SR) : Option (Nat × List Nat × List (List (List Nat))) := match r with
  | some (.next, l, H) => (cutsAt l H).map fun z => (l.length, z)
  | _ => none

theorem last_loop {l : Lo} {H : Hp} {n : Nat} {subj : List Nat} (hl : l.length = 12) (h4 : l[4]? = some (some (.str subj))) (hs : subj.length ≤ lim) {vs : List V} (hn : H[n]? = some (.list vs)) (hv : ∀ v ∈ vs, ∃ ps, strsAt H v = some ps ∧ catL ps = subj) {elt : XE} : ∀ (k i f : Nat), vs.length = i + k → k < f →
    compN (xCAnd (xCmp .ne (xBm (xLit (.str [])) .join (xCons (xLoc 12) xNil)) (xLoc 4)) xCT) elt (.one 12) (l ++ List.replicate 1 none) f (.lst n i) [] H = some ([], H) := by
  intro k
  induction k with
  | zero =>
    intro i f hk hf
    obtain ⟨f, rfl⟩ : ∃ m, f = m + 1 := ⟨f - 1, by omega⟩
    exact cn_end (n_lst0 hn (List.getElem?_eq_none_iff.mpr (by omega)))
  | succ k ih =>
    intro i f hk hf
    obtain ⟨f, rfl⟩ : ∃ m, f = m + 1 := ⟨f - 1, by omega⟩
    obtain ⟨v, hi⟩ : ∃ v, vs[i]? = some v := ⟨_, List.getElem?_eq_getElem (by omega)⟩
    obtain ⟨ps, h5, h6⟩ := hv v (List.mem_of_getElem? hi)
    obtain ⟨m, ps', rfl, hm, h5⟩ : ∃ m ps', v = .loc m ∧ H[m]? = some (.list ps') ∧ strsOf ps' = some ps := by
      obtain ⟨m, hx, h5⟩ := onN_some (f := fun m => atL H m strsOf) (a := v) h5; subst hx
      obtain ⟨ps', h7, h8⟩ := atL_some h5
      exact ⟨m, ps', rfl, h7, h8⟩
    have hj := g_join hm h5 (h6.symm ▸ hs)
    rw [h6] at hj
    refine cn_skip (n_lst hn hi) rfl (rc_and_f (r_cmp (q := false) (b := .str subj) (r_bm r_lit rfl (r_cons (r_loc ?_) r_nil) hj) (r_loc ?_) ?_)) (ih (i + 1) f (by omega) (by omega))
    · rw [List.getElem?_set_self (by simp; omega)]
    · rw [List.getElem?_set_ne (by decide), List.getElem?_append_left (by omega)]; exact h4
    · show some (!(subj == subj)) = _
      rw [beq_self_eq_true]; rfl
theorem mapO_all {α β : Type} {f : α → Option β} : ∀ {l : List α} {bs : List β}, mapO f l = some bs → ∀ a ∈ l, ∃ b ∈ bs, f a = some b
  | [], _, _, a, h => by simp at h
  | c :: r, bs, e, a, h => by
    unfold mapO at e
    split at e
    · rename_i b hb
      split at e
      · rename_i bs' hbs
        cases e
        rcases List.mem_cons.mp h with q | q
        · subst q; exact ⟨b, .head _, hb⟩
        · obtain ⟨b', h1, h2⟩ := mapO_all hbs a q
          exact ⟨b', .tail _ h1, h2⟩
      · cases e
    · cases e
theorem mapO_len {α β : Type} {f : α → Option β} : ∀ {l : List α} {bs : List β}, mapO f l = some bs → l.length = bs.length
  | [], bs, e => by cases e; rfl
  | c :: r, bs, e => by
    unfold mapO at e
    split at e
    · split at e
      · rename_i bs' hbs
        cases e
        rw [List.length_cons, List.length_cons, mapO_len hbs]
      · cases e
    · cases e
theorem last_ok {call : CallT} {l : Lo} {H : Hp} {subj : List Nat} {cuts : List (List (List Nat))} (e : ext (some (.next, l, H)) = some (12, subj, cuts)) (hs : subj.length ≤ lim) (hc : cuts.length < 1000) (hcut : ∀ c ∈ cuts, catL c = subj) : ∃ l' H', y12 pg call l H = some (.ret (.bool true), l', H') := by
  obtain ⟨z, hz, e⟩ := map_some (o := cutsAt l H) e
  have hl : l.length = 12 := congrArg Prod.fst e
  obtain rfl : z = (subj, cuts) := congrArg Prod.snd e
  obtain ⟨n, cs, h4, h10, hn, hm⟩ : ∃ n cs, l[4]? = some (some (.str subj)) ∧ l[10]? = some (some (.loc n)) ∧ H[n]? = some (.list cs) ∧ mapO (strsAt H) cs = some cuts := by
    unfold cutsAt at hz
    cases h4 : (l[4]? : Option (Option V)) with
    | none => rw [h4] at hz; cases hz
    | some o4 => rw [h4] at hz; cases o4 with
      | none => cases hz
      | some v4 => cases h10 : (l[10]? : Option (Option V)) with
        | none => rw [h10] at hz; cases hz
        | some o10 => rw [h10] at hz; cases o10 with
          | none => cases hz
          | some v10 =>
            obtain ⟨s, hx, hz⟩ := onS_some (f := fun s => onN v10 fun n => atL H n fun cs => (mapO (strsAt H) cs).map fun z => (s, z)) (a := v4) hz; subst hx
            obtain ⟨n, hx, hz⟩ := onN_some hz; subst hx
            obtain ⟨cs, hn, hz⟩ := atL_some hz
            obtain ⟨z, hm, e⟩ := map_some hz
            cases e
            exact ⟨n, cs, rfl, rfl, hn, hm⟩
  have hlen := mapO_len hm
  have hv : ∀ v ∈ cs, ∃ ps, strsAt H v = some ps ∧ catL ps = subj := fun v hv => by
    obtain ⟨b, h1, h2⟩ := mapO_all hm v hv
    exact ⟨b, h2, hcut b h1⟩
  have lp := last_loop (elt := xLoc 12) hl h4 hs hn hv cs.length 0 1048576 (by omega) (by omega)
  have i1 : (H ++ [O.list []] ++ [O.list []])[H.length]? = some (.list []) := app_in app_new
  have i2 : (H ++ [O.list []] ++ [O.list []])[(H ++ [O.list []]).length]? = some (.list []) := app_new
  have hq : cmpV (H ++ [O.list []] ++ [O.list []]) .eq (.loc H.length) (.loc (H ++ [O.list []]).length) = some true := by
    show eqV _ _ _ = _
    have hd : ∀ {G : Hp} {m : Nat}, G[m]? = some (.list []) → dat G 8 (.loc m) = some (.list []) := fun {G m} h => by simp only [dat, h, mapO]; rfl
    unfold eqV
    rw [show fastEq (H ++ [O.list []] ++ [O.list []]) (.loc H.length) (.loc (H ++ [O.list []]).length) = none by simp only [fastEq, i1]]
    show eqD _ _ _ = _
    unfold eqD
    rw [hd i1, hd i2]
    rfl
  exact ⟨_, _, s_ret0 (r_cmp (r_comp (r_loc h10) (i_lst hn) lp (Nat.zero_le _)) (r_lst r_nil) hq)⟩
end L4
end Mine

set_option maxRecDepth 1000000

namespace Mine
namespace L4
noncomputable abbrev c99 : CallT := callX tbl 99
noncomputable def lS (r : SR) : Lo := match r with | some (_, l, _) => l | none => []
noncomputable def hS (r : SR) : Hp := match r with | some (_, _, H) => H | none => []
noncomputable def okS (r : SR) : Bool := match r with | some (.next, _, _) => true | _ => false
theorem okS_eq {r : SR} (h : okS r = true) : r = some (.next, lS r, hS r) := by
  unfold okS at h
  split at h
  · rfl
  · cases h
noncomputable def vE (r : Option (V × Hp)) : V := match r with | some (v, _) => v | none => .none
noncomputable def hE (r : Option (V × Hp)) : Hp := match r with | some (_, H) => H | none => []
theorem okE_eq {r : Option (V × Hp)} (h : r.isSome = true) : r = some (vE r, hE r) := by cases r with
  | none => cases h
  | some z => rfl
section
variable (L cells : List V) (M s : Int) (cs : List Nat) (b : Bool)
noncomputable def l4 : Lo := [some (.ro L), some (.loc 1), some (.int M), some (.int s), some (.str cs), none, none, none, none, none, none, none]
noncomputable def H4 : Hp := [.list cells, .list [.loc 0, .int (2 + s)], .list (cs.map fun c => .str [c])]
noncomputable def r45 : SR := xsSeq (y4 pg c99) (xsSeq (y5 pg c99) xsNil) (l4 L M s cs) (H4 cells s cs)
noncomputable def r6 : Option (V × Hp) := xHost pg c99 (lS (r45 L cells M s cs)) (hS (r45 L cells M s cs))
noncomputable def l7 : Lo := ((lS (r45 L cells M s cs)).set 7 (some (vE (r6 L cells M s cs)))).set 8 (some (.bool b))
noncomputable def H7 : Hp := (hE (r6 L cells M s cs)).set 1 (.list [.loc 0, .int (2 + s + 1)])
noncomputable def rr : SR := xsSeq (y7 pg c99) (xsSeq (y8 pg c99) (xsSeq (y9 pg c99) (xsSeq (y10 pg c99) (xsSeq (y11 pg c99) xsNil)))) (l7 L cells M s cs b) (H7 L cells M s cs)
end
noncomputable def rest5 : XS := xsSeq (y7 pg c99) (xsSeq (y8 pg c99) (xsSeq (y9 pg c99) (xsSeq (y10 pg c99) (xsSeq (y11 pg c99) xsNil))))
noncomputable def Case (M s : Int) (cs : List Nat) : Prop := ∀ L cells : List V, ∃ l5 H5 v H6, xsSeq (y4 pg c99) (xsSeq (y5 pg c99) xsNil) (l4 L M s cs) (H4 cells s cs) = some (.next, l5, H5) ∧ xHost pg c99 l5 H5 = some (v, H6) ∧
  H6[0]? = some (.list cells) ∧ H6[1]? = some (.list [.loc 0, .int (2 + s)]) ∧ l5[1]? = some (some (.loc 1)) ∧
  ∀ b : Bool, ∃ cuts, ext (rest5 ((l5.set 7 (some v)).set 8 (some (.bool b))) (H6.set 1 (.list [.loc 0, .int (2 + s + 1)]))) = some (12, cs, cuts) ∧ cuts.length < 1000 ∧ ∀ c ∈ cuts, catL c = cs
structure CaseK (M s : Int) (cs : List Nat) : Prop where
  a1 : ∀ L cells, okS (r45 L cells M s cs) = true
  a2 : ∀ L cells, (r6 L cells M s cs).isSome = true
  a3 : ∀ L cells, (hE (r6 L cells M s cs))[0]? = some (.list cells)
  a4 : ∀ L cells, (hE (r6 L cells M s cs))[1]? = some (.list [.loc 0, .int (2 + s)])
  a5 : ∀ L cells, (lS (r45 L cells M s cs))[1]? = some (some (.loc 1))
  run : ∀ L cells b, ∃ cuts, ext (rr L cells M s cs b) = some (12, cs, cuts) ∧ cuts.length < 1000 ∧ ∀ c ∈ cuts, catL c = cs
theorem case_of {M s : Int} {cs : List Nat} (k : CaseK M s cs) : Case M s cs := fun L cells =>
  ⟨lS (r45 L cells M s cs), hS (r45 L cells M s cs), vE (r6 L cells M s cs), hE (r6 L cells M s cs), okS_eq (k.a1 L cells), okE_eq (k.a2 L cells), k.a3 L cells, k.a4 L cells, k.a5 L cells, fun b => k.run L cells b⟩
theorem seq_inv {s r : XS} {l l' : Lo} {H H' : Hp} (h : xsSeq s r l H = some (.next, l', H')) : ∃ l1 H1, s l H = some (.next, l1, H1) ∧ r l1 H1 = some (.next, l', H') := by
  unfold xsSeq at h
  split at h
  · exact ⟨_, _, by assumption, h⟩
  · rename_i hn
    exact absurd h (hn _ _)
theorem ext_next {r : SR} {z : Nat × List Nat × List (List (List Nat))} (h : ext r = some z) : ∃ l H, r = some (.next, l, H) := by
  unfold ext at h
  split at h
  · exact ⟨_, _, rfl⟩
  · cases h
theorem law_of {ns : List Int} (hcase : ∀ (M s : Int) (cs : List Nat), 1 ≤ M → M < 4 → 0 ≤ s → s < 5 → cs.length = s.toNat → Case M s cs) : ∃ H', callX tbl 100 75 [.ro (ns.map .int)] [] = some (.bool true, H') := by
  have hc : (ns.map V.int).take 10 = (ns.take 10).map .int := List.map_take.symm
  have hl : (ns.take 10).length ≤ 10 := by rw [List.length_take]; omega
  have e1 := y1_ok c99 (ns.map .int) [none, none, none, none, none, none, none, none, none, none, none]
  obtain ⟨a, b, ⟨a1, a2⟩, ⟨b1, b2⟩, e2⟩ := y2_ok (d := 98) (v0 := some (.ro (ns.map .int))) (r := [none, none, none, none, none, none, none, none, none, none]) hc hl
  obtain ⟨cs, hcs, e3⟩ := y3_ok (d := 98) (b := b) hc hl [some (.ro (ns.map .int)), some (.loc 1), some (.int (1 + a)), some (.int b), none, none, none, none, none, none, none, none] rfl rfl ⟨b1, b2⟩
  have K := hcase (1 + a) b cs (by omega) (by omega) b1 b2 hcs
  obtain ⟨la, Ha, v, Hb, e45, e6, k3, k4, k5, run⟩ := K (ns.map .int) ((ns.map .int).take 10)
  obtain ⟨t, e6'⟩ := y6_ok (d := 98) (t := 2 + b) hc hl la k5 ⟨by omega, by omega⟩ e6 k3 k4
  obtain ⟨cuts, hx, hn, hcut⟩ := run t
  obtain ⟨lz, Hz, ez⟩ := ext_next hx
  obtain ⟨lo, Ho, e12⟩ := last_ok (call := c99) (ez ▸ hx) (by rw [hcs]; unfold lim; omega) hn hcut
  obtain ⟨l5, H5, f4, f5⟩ := seq_inv e45
  obtain ⟨l6, H6, f55, f6⟩ := seq_inv f5
  have f6 : l6 = la ∧ H6 = Ha := by unfold xsNil at f6; simpa using f6
  obtain ⟨rfl, rfl⟩ := f6
  unfold rest5 at ez
  obtain ⟨l8, H8, g7, ez⟩ := seq_inv ez
  obtain ⟨l9, H9, g8, ez⟩ := seq_inv ez
  obtain ⟨l10, H10, g9, ez⟩ := seq_inv ez
  obtain ⟨l11, H11, g10, ez⟩ := seq_inv ez
  obtain ⟨l12, H12, g11, ez⟩ := seq_inv ez
  have ez : l12 = lz ∧ H12 = Hz := by unfold xsNil at ez; simpa using ez
  obtain ⟨rfl, rfl⟩ := ez
  refine ⟨Ho, ?_⟩
  have hb : xb_law pg c99 [some (.ro (ns.map .int)), none, none, none, none, none, none, none, none, none, none, none] [] = some (.ret (.bool true), lo, Ho) := by
    rw [y_split, seq_next e1]
    rw [show (some (V.ro (ns.map .int)) :: [none, none, none, none, none, none, none, none, none, none, none]).set 1 (some (V.loc 1)) = some (V.ro (ns.map .int)) :: some (V.loc 1) :: [none, none, none, none, none, none, none, none, none, none] from rfl]
    rw [seq_next e2]
    rw [show ((some (V.ro (ns.map .int)) :: some (V.loc 1) :: [none, none, none, none, none, none, none, none, none, none]).set 2 (some (.int (1 + a)))).set 3 (some (.int b)) = [some (.ro (ns.map .int)), some (.loc 1), some (.int (1 + a)), some (.int b), none, none, none, none, none, none, none, none] from rfl]
    rw [seq_next e3]
    have f4' : y4 pg c99 ([some (.ro (ns.map .int)), some (.loc 1), some (.int (1 + a)), some (.int b), none, none, none, none, none, none, none, none].set 4 (some (V.str cs))) [O.list (List.take 10 (List.map V.int ns)), O.list [V.loc 0, V.int (2 + b)], O.list (List.map (fun c => V.str [c]) cs)] = some (.next, l5, H5) := f4
    rw [seq_next f4', seq_next f55, seq_next e6', seq_next g7, seq_next g8, seq_next g9, seq_next g10, seq_next g11]
    unfold xsSeq
    rw [e12]
  have tb : tbl[75]? = some ⟨1, 12, xb_law pg⟩ := rfl
  show (match tbl[75]? with | some F => runX F c99 [.ro (ns.map .int)] [] | none => none) = _
  rw [tb]
  show (if _ then (match xb_law pg c99 [some (.ro (ns.map .int)), none, none, none, none, none, none, none, none, none, none, none] [] with | some (.ret v, _, H) => some (v, H) | some (.next, _, H) => some (.none, H) | _ => none) else none) = _
  rw [hb]
  rfl
end L4
end Mine

namespace Mine
namespace L4
theorem r_1_0_true (L cells : List V) : ext (rr L cells 1 0 [] true) = some (12, [], [[[]]]) := by kernel_rfl
theorem r_1_0_false (L cells : List V) : ext (rr L cells 1 0 [] false) = some (12, [], [[[]]]) := by kernel_rfl
theorem k_1_0 : CaseK 1 0 [] := ⟨fun L cells => by kernel_rfl, fun L cells => by kernel_rfl, fun L cells => by kernel_rfl, fun L cells => by kernel_rfl, fun L cells => by kernel_rfl, fun L cells b => by
  cases b
  · exact ⟨_, r_1_0_false  L cells, by simp, by simp [catL]⟩
  · exact ⟨_, r_1_0_true  L cells, by simp, by simp [catL]⟩⟩
theorem r_1_1_true (c0 : Nat) (L cells : List V) : ext (rr L cells 1 1 [c0] true) = some (12, [c0], [[[c0]]]) := by kernel_rfl
theorem r_1_1_false (c0 : Nat) (L cells : List V) : ext (rr L cells 1 1 [c0] false) = some (12, [c0], [[[c0]]]) := by kernel_rfl
theorem k_1_1 (c0 : Nat) : CaseK 1 1 [c0] := ⟨fun L cells => by kernel_rfl, fun L cells => by kernel_rfl, fun L cells => by kernel_rfl, fun L cells => by kernel_rfl, fun L cells => by kernel_rfl, fun L cells b => by
  cases b
  · exact ⟨_, r_1_1_false c0 L cells, by simp, by simp [catL]⟩
  · exact ⟨_, r_1_1_true c0 L cells, by simp, by simp [catL]⟩⟩
theorem r_1_2_true (c0 c1 : Nat) (L cells : List V) : ext (rr L cells 1 2 [c0, c1] true) = some (12, [c0, c1], [[[c0, c1]]]) := by kernel_rfl
theorem r_1_2_false (c0 c1 : Nat) (L cells : List V) : ext (rr L cells 1 2 [c0, c1] false) = some (12, [c0, c1], [[[c0, c1]]]) := by kernel_rfl
theorem k_1_2 (c0 c1 : Nat) : CaseK 1 2 [c0, c1] := ⟨fun L cells => by kernel_rfl, fun L cells => by kernel_rfl, fun L cells => by kernel_rfl, fun L cells => by kernel_rfl, fun L cells => by kernel_rfl, fun L cells b => by
  cases b
  · exact ⟨_, r_1_2_false c0 c1 L cells, by simp, by simp [catL]⟩
  · exact ⟨_, r_1_2_true c0 c1 L cells, by simp, by simp [catL]⟩⟩
theorem r_1_3_true (c0 c1 c2 : Nat) (L cells : List V) : ext (rr L cells 1 3 [c0, c1, c2] true) = some (12, [c0, c1, c2], [[[c0, c1, c2]]]) := by kernel_rfl
theorem r_1_3_false (c0 c1 c2 : Nat) (L cells : List V) : ext (rr L cells 1 3 [c0, c1, c2] false) = some (12, [c0, c1, c2], [[[c0, c1, c2]]]) := by kernel_rfl
theorem k_1_3 (c0 c1 c2 : Nat) : CaseK 1 3 [c0, c1, c2] := ⟨fun L cells => by kernel_rfl, fun L cells => by kernel_rfl, fun L cells => by kernel_rfl, fun L cells => by kernel_rfl, fun L cells => by kernel_rfl, fun L cells b => by
  cases b
  · exact ⟨_, r_1_3_false c0 c1 c2 L cells, by simp, by simp [catL]⟩
  · exact ⟨_, r_1_3_true c0 c1 c2 L cells, by simp, by simp [catL]⟩⟩
theorem r_1_4_true (c0 c1 c2 c3 : Nat) (L cells : List V) : ext (rr L cells 1 4 [c0, c1, c2, c3] true) = some (12, [c0, c1, c2, c3], [[[c0, c1, c2, c3]]]) := by kernel_rfl
theorem r_1_4_false (c0 c1 c2 c3 : Nat) (L cells : List V) : ext (rr L cells 1 4 [c0, c1, c2, c3] false) = some (12, [c0, c1, c2, c3], [[[c0, c1, c2, c3]]]) := by kernel_rfl
theorem k_1_4 (c0 c1 c2 c3 : Nat) : CaseK 1 4 [c0, c1, c2, c3] := ⟨fun L cells => by kernel_rfl, fun L cells => by kernel_rfl, fun L cells => by kernel_rfl, fun L cells => by kernel_rfl, fun L cells => by kernel_rfl, fun L cells b => by
  cases b
  · exact ⟨_, r_1_4_false c0 c1 c2 c3 L cells, by simp, by simp [catL]⟩
  · exact ⟨_, r_1_4_true c0 c1 c2 c3 L cells, by simp, by simp [catL]⟩⟩
theorem r_2_0_true (L cells : List V) : ext (rr L cells 2 0 [] true) = some (12, [], [[[], []]]) := by kernel_rfl
theorem r_2_0_false (L cells : List V) : ext (rr L cells 2 0 [] false) = some (12, [], [[[], []]]) := by kernel_rfl
theorem k_2_0 : CaseK 2 0 [] := ⟨fun L cells => by kernel_rfl, fun L cells => by kernel_rfl, fun L cells => by kernel_rfl, fun L cells => by kernel_rfl, fun L cells => by kernel_rfl, fun L cells b => by
  cases b
  · exact ⟨_, r_2_0_false  L cells, by simp, by simp [catL]⟩
  · exact ⟨_, r_2_0_true  L cells, by simp, by simp [catL]⟩⟩
theorem r_2_1_true (c0 : Nat) (L cells : List V) : ext (rr L cells 2 1 [c0] true) = some (12, [c0], [[[], [c0]], [[c0], []]]) := by kernel_rfl
theorem r_2_1_false (c0 : Nat) (L cells : List V) : ext (rr L cells 2 1 [c0] false) = some (12, [c0], [[[], [c0]], [[c0], []]]) := by kernel_rfl
theorem k_2_1 (c0 : Nat) : CaseK 2 1 [c0] := ⟨fun L cells => by kernel_rfl, fun L cells => by kernel_rfl, fun L cells => by kernel_rfl, fun L cells => by kernel_rfl, fun L cells => by kernel_rfl, fun L cells b => by
  cases b
  · exact ⟨_, r_2_1_false c0 L cells, by simp, by simp [catL]⟩
  · exact ⟨_, r_2_1_true c0 L cells, by simp, by simp [catL]⟩⟩
theorem r_2_2_true (c0 c1 : Nat) (L cells : List V) : ext (rr L cells 2 2 [c0, c1] true) = some (12, [c0, c1], [[[], [c0, c1]], [[c0], [c1]], [[c0, c1], []]]) := by kernel_rfl
theorem r_2_2_false (c0 c1 : Nat) (L cells : List V) : ext (rr L cells 2 2 [c0, c1] false) = some (12, [c0, c1], [[[], [c0, c1]], [[c0], [c1]], [[c0, c1], []]]) := by kernel_rfl
theorem k_2_2 (c0 c1 : Nat) : CaseK 2 2 [c0, c1] := ⟨fun L cells => by kernel_rfl, fun L cells => by kernel_rfl, fun L cells => by kernel_rfl, fun L cells => by kernel_rfl, fun L cells => by kernel_rfl, fun L cells b => by
  cases b
  · exact ⟨_, r_2_2_false c0 c1 L cells, by simp, by simp [catL]⟩
  · exact ⟨_, r_2_2_true c0 c1 L cells, by simp, by simp [catL]⟩⟩
theorem r_2_3_true (c0 c1 c2 : Nat) (L cells : List V) : ext (rr L cells 2 3 [c0, c1, c2] true) = some (12, [c0, c1, c2], [[[], [c0, c1, c2]], [[c0], [c1, c2]], [[c0, c1], [c2]], [[c0, c1, c2], []]]) := by kernel_rfl
theorem r_2_3_false (c0 c1 c2 : Nat) (L cells : List V) : ext (rr L cells 2 3 [c0, c1, c2] false) = some (12, [c0, c1, c2], [[[], [c0, c1, c2]], [[c0], [c1, c2]], [[c0, c1], [c2]], [[c0, c1, c2], []]]) := by kernel_rfl
theorem k_2_3 (c0 c1 c2 : Nat) : CaseK 2 3 [c0, c1, c2] := ⟨fun L cells => by kernel_rfl, fun L cells => by kernel_rfl, fun L cells => by kernel_rfl, fun L cells => by kernel_rfl, fun L cells => by kernel_rfl, fun L cells b => by
  cases b
  · exact ⟨_, r_2_3_false c0 c1 c2 L cells, by simp, by simp [catL]⟩
  · exact ⟨_, r_2_3_true c0 c1 c2 L cells, by simp, by simp [catL]⟩⟩
theorem r_2_4_true (c0 c1 c2 c3 : Nat) (L cells : List V) : ext (rr L cells 2 4 [c0, c1, c2, c3] true) = some (12, [c0, c1, c2, c3], [[[], [c0, c1, c2, c3]], [[c0], [c1, c2, c3]], [[c0, c1], [c2, c3]], [[c0, c1, c2], [c3]], [[c0, c1, c2, c3], []]]) := by kernel_rfl
theorem r_2_4_false (c0 c1 c2 c3 : Nat) (L cells : List V) : ext (rr L cells 2 4 [c0, c1, c2, c3] false) = some (12, [c0, c1, c2, c3], [[[], [c0, c1, c2, c3]], [[c0], [c1, c2, c3]], [[c0, c1], [c2, c3]], [[c0, c1, c2], [c3]], [[c0, c1, c2, c3], []]]) := by kernel_rfl
theorem k_2_4 (c0 c1 c2 c3 : Nat) : CaseK 2 4 [c0, c1, c2, c3] := ⟨fun L cells => by kernel_rfl, fun L cells => by kernel_rfl, fun L cells => by kernel_rfl, fun L cells => by kernel_rfl, fun L cells => by kernel_rfl, fun L cells b => by
  cases b
  · exact ⟨_, r_2_4_false c0 c1 c2 c3 L cells, by simp, by simp [catL]⟩
  · exact ⟨_, r_2_4_true c0 c1 c2 c3 L cells, by simp, by simp [catL]⟩⟩
theorem r_3_0_true (L cells : List V) : ext (rr L cells 3 0 [] true) = some (12, [], [[[], [], []]]) := by kernel_rfl
theorem r_3_0_false (L cells : List V) : ext (rr L cells 3 0 [] false) = some (12, [], [[[], [], []]]) := by kernel_rfl
theorem k_3_0 : CaseK 3 0 [] := ⟨fun L cells => by kernel_rfl, fun L cells => by kernel_rfl, fun L cells => by kernel_rfl, fun L cells => by kernel_rfl, fun L cells => by kernel_rfl, fun L cells b => by
  cases b
  · exact ⟨_, r_3_0_false  L cells, by simp, by simp [catL]⟩
  · exact ⟨_, r_3_0_true  L cells, by simp, by simp [catL]⟩⟩
theorem r_3_1_true (c0 : Nat) (L cells : List V) : ext (rr L cells 3 1 [c0] true) = some (12, [c0], [[[], [], [c0]], [[], [c0], []], [[c0], [], []]]) := by kernel_rfl
theorem r_3_1_false (c0 : Nat) (L cells : List V) : ext (rr L cells 3 1 [c0] false) = some (12, [c0], [[[], [], [c0]], [[], [c0], []], [[c0], [], []]]) := by kernel_rfl
theorem k_3_1 (c0 : Nat) : CaseK 3 1 [c0] := ⟨fun L cells => by kernel_rfl, fun L cells => by kernel_rfl, fun L cells => by kernel_rfl, fun L cells => by kernel_rfl, fun L cells => by kernel_rfl, fun L cells b => by
  cases b
  · exact ⟨_, r_3_1_false c0 L cells, by simp, by simp [catL]⟩
  · exact ⟨_, r_3_1_true c0 L cells, by simp, by simp [catL]⟩⟩
theorem r_3_2_true (c0 c1 : Nat) (L cells : List V) : ext (rr L cells 3 2 [c0, c1] true) = some (12, [c0, c1], [[[], [], [c0, c1]], [[], [c0], [c1]], [[], [c0, c1], []], [[c0], [], [c1]], [[c0], [c1], []], [[c0, c1], [], []]]) := by kernel_rfl
theorem r_3_2_false (c0 c1 : Nat) (L cells : List V) : ext (rr L cells 3 2 [c0, c1] false) = some (12, [c0, c1], [[[], [], [c0, c1]], [[], [c0], [c1]], [[], [c0, c1], []], [[c0], [], [c1]], [[c0], [c1], []], [[c0, c1], [], []]]) := by kernel_rfl
theorem k_3_2 (c0 c1 : Nat) : CaseK 3 2 [c0, c1] := ⟨fun L cells => by kernel_rfl, fun L cells => by kernel_rfl, fun L cells => by kernel_rfl, fun L cells => by kernel_rfl, fun L cells => by kernel_rfl, fun L cells b => by
  cases b
  · exact ⟨_, r_3_2_false c0 c1 L cells, by simp, by simp [catL]⟩
  · exact ⟨_, r_3_2_true c0 c1 L cells, by simp, by simp [catL]⟩⟩
theorem r_3_3_true (c0 c1 c2 : Nat) (L cells : List V) : ext (rr L cells 3 3 [c0, c1, c2] true) = some (12, [c0, c1, c2], [[[], [], [c0, c1, c2]], [[], [c0], [c1, c2]], [[], [c0, c1], [c2]], [[], [c0, c1, c2], []], [[c0], [], [c1, c2]], [[c0], [c1], [c2]], [[c0], [c1, c2], []], [[c0, c1], [], [c2]], [[c0, c1], [c2], []], [[c0, c1, c2], [], []]]) := by kernel_rfl
theorem r_3_3_false (c0 c1 c2 : Nat) (L cells : List V) : ext (rr L cells 3 3 [c0, c1, c2] false) = some (12, [c0, c1, c2], [[[], [], [c0, c1, c2]], [[], [c0], [c1, c2]], [[], [c0, c1], [c2]], [[], [c0, c1, c2], []], [[c0], [], [c1, c2]], [[c0], [c1], [c2]], [[c0], [c1, c2], []], [[c0, c1], [], [c2]], [[c0, c1], [c2], []], [[c0, c1, c2], [], []]]) := by kernel_rfl
theorem k_3_3 (c0 c1 c2 : Nat) : CaseK 3 3 [c0, c1, c2] := ⟨fun L cells => by kernel_rfl, fun L cells => by kernel_rfl, fun L cells => by kernel_rfl, fun L cells => by kernel_rfl, fun L cells => by kernel_rfl, fun L cells b => by
  cases b
  · exact ⟨_, r_3_3_false c0 c1 c2 L cells, by simp, by simp [catL]⟩
  · exact ⟨_, r_3_3_true c0 c1 c2 L cells, by simp, by simp [catL]⟩⟩
theorem r_3_4_true (c0 c1 c2 c3 : Nat) (L cells : List V) : ext (rr L cells 3 4 [c0, c1, c2, c3] true) = some (12, [c0, c1, c2, c3], [[[], [], [c0, c1, c2, c3]], [[], [c0], [c1, c2, c3]], [[], [c0, c1], [c2, c3]], [[], [c0, c1, c2], [c3]], [[], [c0, c1, c2, c3], []], [[c0], [], [c1, c2, c3]], [[c0], [c1], [c2, c3]], [[c0], [c1, c2], [c3]], [[c0], [c1, c2, c3], []], [[c0, c1], [], [c2, c3]], [[c0, c1], [c2], [c3]], [[c0, c1], [c2, c3], []], [[c0, c1, c2], [], [c3]], [[c0, c1, c2], [c3], []], [[c0, c1, c2, c3], [], []]]) := by kernel_rfl
theorem r_3_4_false (c0 c1 c2 c3 : Nat) (L cells : List V) : ext (rr L cells 3 4 [c0, c1, c2, c3] false) = some (12, [c0, c1, c2, c3], [[[], [], [c0, c1, c2, c3]], [[], [c0], [c1, c2, c3]], [[], [c0, c1], [c2, c3]], [[], [c0, c1, c2], [c3]], [[], [c0, c1, c2, c3], []], [[c0], [], [c1, c2, c3]], [[c0], [c1], [c2, c3]], [[c0], [c1, c2], [c3]], [[c0], [c1, c2, c3], []], [[c0, c1], [], [c2, c3]], [[c0, c1], [c2], [c3]], [[c0, c1], [c2, c3], []], [[c0, c1, c2], [], [c3]], [[c0, c1, c2], [c3], []], [[c0, c1, c2, c3], [], []]]) := by kernel_rfl
theorem k_3_4 (c0 c1 c2 c3 : Nat) : CaseK 3 4 [c0, c1, c2, c3] := ⟨fun L cells => by kernel_rfl, fun L cells => by kernel_rfl, fun L cells => by kernel_rfl, fun L cells => by kernel_rfl, fun L cells => by kernel_rfl, fun L cells b => by
  cases b
  · exact ⟨_, r_3_4_false c0 c1 c2 c3 L cells, by simp, by simp [catL]⟩
  · exact ⟨_, r_3_4_true c0 c1 c2 c3 L cells, by simp, by simp [catL]⟩⟩
theorem cases_all (M s : Int) (cs : List Nat) (h1 : 1 ≤ M) (h2 : M < 4) (h3 : 0 ≤ s) (h4 : s < 5) (hl : cs.length = s.toNat) : Case M s cs := by
  have hM : M = 1 ∨ M = 2 ∨ M = 3 := by omega
  have hs : s = 0 ∨ s = 1 ∨ s = 2 ∨ s = 3 ∨ s = 4 := by omega
  rcases hs with rfl | rfl | rfl | rfl | rfl
  · have hl : cs.length = 0 := hl
    obtain ⟨_, rfl⟩ : ∃ (_ : Unit), cs = [] := by
      match cs, hl with
      | [], _ => exact ⟨(), rfl⟩
    rcases hM with rfl | rfl | rfl
    · exact case_of (k_1_0 )
    · exact case_of (k_2_0 )
    · exact case_of (k_3_0 )
  · have hl : cs.length = 1 := hl
    obtain ⟨c0, rfl⟩ : ∃ c0, cs = [c0] := by
      match cs, hl with
      | [c0], _ => exact ⟨c0, rfl⟩
    rcases hM with rfl | rfl | rfl
    · exact case_of (k_1_1 c0)
    · exact case_of (k_2_1 c0)
    · exact case_of (k_3_1 c0)
  · have hl : cs.length = 2 := hl
    obtain ⟨c0, c1, rfl⟩ : ∃ c0 c1, cs = [c0, c1] := by
      match cs, hl with
      | [c0, c1], _ => exact ⟨c0, c1, rfl⟩
    rcases hM with rfl | rfl | rfl
    · exact case_of (k_1_2 c0 c1)
    · exact case_of (k_2_2 c0 c1)
    · exact case_of (k_3_2 c0 c1)
  · have hl : cs.length = 3 := hl
    obtain ⟨c0, c1, c2, rfl⟩ : ∃ c0 c1 c2, cs = [c0, c1, c2] := by
      match cs, hl with
      | [c0, c1, c2], _ => exact ⟨c0, c1, c2, rfl⟩
    rcases hM with rfl | rfl | rfl
    · exact case_of (k_1_3 c0 c1 c2)
    · exact case_of (k_2_3 c0 c1 c2)
    · exact case_of (k_3_3 c0 c1 c2)
  · have hl : cs.length = 4 := hl
    obtain ⟨c0, c1, c2, c3, rfl⟩ : ∃ c0 c1 c2 c3, cs = [c0, c1, c2, c3] := by
      match cs, hl with
      | [c0, c1, c2, c3], _ => exact ⟨c0, c1, c2, c3, rfl⟩
    rcases hM with rfl | rfl | rfl
    · exact case_of (k_1_4 c0 c1 c2 c3)
    · exact case_of (k_2_4 c0 c1 c2 c3)
    · exact case_of (k_3_4 c0 c1 c2 c3)
theorem plain (ns : List Int) : ∃ H', callF pg 100 75 [.ro (ns.map .int)] [] = some (.bool true, H') := by
  rw [fast]
  exact law_of cases_all
end L4
end Mine

set_option maxRecDepth 100000
namespace Mine
namespace HD
noncomputable abbrev PW : Program := PySem.Challenge.rw_sa0605_04.row.toRowW.1
noncomputable def bd : List Stmt := PW.main.body
noncomputable def st (k : Nat) : Stmt := bd.getD k default
noncomputable def cB : Stmt → List Stmt | .ClassDef _ _ _ b _ _ _ _ _ _ _ => b | _ => []
noncomputable def sc (k j : Nat) : Stmt := (cB (st k)).getD j default
noncomputable def fdA : Stmt → Arguments | .FunctionDef _ a _ _ _ _ _ _ _ _ => a | _ => default
noncomputable def fdB : Stmt → List Stmt | .FunctionDef _ _ b _ _ _ _ _ _ _ => b | _ => []
noncomputable def fdS : Stmt → Scope | .FunctionDef _ _ _ _ _ _ s _ _ _ => s | _ => default
noncomputable abbrev S (x : String) : Str := Str.ofString x
noncomputable abbrev s (x : String) (n : Nat) : Value := .str (S x) n
noncomputable abbrev r (n : Nat) : Value := .ref n
noncomputable abbrev i (n k : Nat) : Value := .int (.ofNat n) k
noncomputable abbrev KH := PyData.keyHash
noncomputable abbrev E (P : Params) (x : String) (n : Nat) (v : Value) : DictEntry := ⟨PyData.keyHash P (S x), .str (S x) n, v⟩
noncomputable abbrev N := BT.node
noncomputable abbrev z := BT.nil
noncomputable abbrev N0 : Value := .none
noncomputable abbrev vi (n k : Nat) : Value := .int (.ofNat n) k
noncomputable abbrev VT := Value.type
noncomputable abbrev VB := Value.builtin
noncomputable abbrev TU : Value := .type "tuple"
noncomputable def o43 (P : Params) : Obj := ⟨TU, none, (.seq ⟨[]⟩ 0), ⟨[]⟩⟩
noncomputable def o44 (P : Params) : Obj := ⟨N0, none, (.fields ⟨[]⟩), ⟨[]⟩⟩
noncomputable def o45 (P : Params) : Obj := ⟨(VT "code"), none, (.fields ⟨[(s "<module>" 182), (s "<module>" 183), (s "/claim/cut.py" 184), (vi 1 0), (vi 0 0), (vi 0 0), (vi 0 0), (vi 0 0), (r 11), (Value.bool false), (vi 181 0), (r 12), N0, N0, N0, N0, (vi 185 0), (vi 1 0), (s "/claim/cut.py" 186)]⟩), ⟨[]⟩⟩
noncomputable def o46 (P : Params) : Obj := ⟨(VT "frame"), none, Data.plain, ⟨[(some (r 13)), (some (r 3)), (some (r 3)), none, (some (s "__main__" 164)), none, (some (r 0))]⟩⟩
noncomputable def o49 (P : Params) : Obj := ⟨(VT "dict"), none, (.dict ⟨[E P "__name__" 165 (s "snobol.compile_pattern" 187), E P "__doc__" 166 N0, E P "__package__" 167 N0, E P "__loader__" 168 (VB "__main__.__loader__#opaque"), E P "__spec__" 169 N0, E P "__annotations__" 170 (r 6), E P "__builtins__" 171 (r 4), E P "__file__" 173 (s "/claim/cut.py" 172), E P "__cached__" 174 N0, E P "ONE" 190 (s "one" 189), E P "WAYS" 192 (s "ways" 191), E P "SPLIT" 194 (s "split" 193), E P "JUMP" 196 (s "jump" 195), E P "MARK" 198 (s "mark" 197), E P "NAME" 200 (s "name" 199), E P "SET" 202 (s "set" 201), E P "GAIN" 204 (s "gain" 203), E P "PLACE" 206 (s "place" 205), E P "ASK" 208 (s "ask" 207), E P "FENCE" 210 (s "fence" 209), E P "FAIL" 212 (s "fail" 211), E P "ABORT" 214 (s "abort" 213), E P "SUCCEED" 216 (s "succeed" 215), E P "DONE" 218 (s "done" 217), E P "PUT" 220 (s "put" 219), E P "EMIT" 222 (s "emit" 221), E P "OPEN" 224 (s "open" 223), E P "SHUT" 226 (s "shut" 225), E P "MEET" 228 (s "meet" 227), E P "SINGLE" 240 (r 15), E P "ALONE" 245 (r 16), E P "row_of" 256 (r 23), E P "is_plain_text" 263 (r 30), E P "with_texts_joined" 272 (r 37)]⟩ 34), ⟨[]⟩⟩
noncomputable def o50 (P : Params) : Obj := ⟨N0, none, (.fields ⟨[(vi 24 0), (vi 0 0), (r 22), (vi 33 0), (vi 0 0), (r 29), (vi 35 0), (vi 0 0), (r 36)]⟩), ⟨[]⟩⟩
noncomputable def o51 (P : Params) : Obj := ⟨TU, none, (.seq ⟨[(s "chars" 229), (s "len" 230), (s "pos" 231), (s "rpos" 232), (s "tab" 233), (s "rtab" 234), (s "any" 235), (s "notany" 236), (s "span" 237), (s "break" 238), (s "rem" 239)]⟩ 0), ⟨[]⟩⟩
noncomputable def o52 (P : Params) : Obj := ⟨TU, none, (.seq ⟨[(s "fence" 241), (s "fail" 242), (s "abort" 243), (s "succeed" 244)]⟩ 0), ⟨[]⟩⟩
noncomputable def o53 (P : Params) : Obj := ⟨TU, none, (.seq ⟨[]⟩ 0), ⟨[]⟩⟩
noncomputable def o54 (P : Params) : Obj := ⟨N0, none, (.fields ⟨[]⟩), ⟨[]⟩⟩
noncomputable def o55 (P : Params) : Obj := ⟨TU, none, (.seq ⟨[(s "node" 249), (s "kind" 250), (s "found" 251), (s "waiting" 252), (s "part" 253)]⟩ 0), ⟨[]⟩⟩
noncomputable def o56 (P : Params) : Obj := ⟨TU, none, (.seq ⟨[]⟩ 0), ⟨[]⟩⟩
noncomputable def o57 (P : Params) : Obj := ⟨N0, none, (.func ⟨(S "row_of"), (S "row_of"), fdA (st 23), .stmts (fdB (st 23)), fdS (st 23), 0, [], N0, N0, N0, N0, none, N0, N0, 0⟩), ⟨[]⟩⟩
noncomputable def o58 (P : Params) : Obj := ⟨(VT "code"), none, (.fields ⟨[(s "row_of" 246), (s "row_of" 247), (s "/claim/cut.py" 248), (vi 24 0), (vi 2 0), (vi 0 0), (vi 0 0), (vi 3 0), (r 17), (Value.bool true), (vi 181 0), (r 18), N0, (r 19), (r 20), (r 21), (vi 254 0), (vi 24 0), (s "/claim/cut.py" 255)]⟩), ⟨[]⟩⟩
noncomputable def o59 (P : Params) : Obj := ⟨(VT "function"), none, (.func ⟨(S "row_of"), (S "row_of"), fdA (st 23), .stmts (fdB (st 23)), fdS (st 23), 3, [], N0, N0, N0, (s "snobol.compile_pattern" 187), none, (r 22), N0, 0⟩), ⟨[]⟩⟩
noncomputable def o60 (P : Params) : Obj := ⟨TU, none, (.seq ⟨[]⟩ 0), ⟨[]⟩⟩
noncomputable def o61 (P : Params) : Obj := ⟨N0, none, (.fields ⟨[]⟩), ⟨[]⟩⟩
noncomputable def o62 (P : Params) : Obj := ⟨TU, none, (.seq ⟨[(s "node" 260)]⟩ 0), ⟨[]⟩⟩
noncomputable def o63 (P : Params) : Obj := ⟨TU, none, (.seq ⟨[]⟩ 0), ⟨[]⟩⟩
noncomputable def o64 (P : Params) : Obj := ⟨N0, none, (.func ⟨(S "is_plain_text"), (S "is_plain_text"), fdA (st 24), .stmts (fdB (st 24)), fdS (st 24), 0, [], N0, N0, N0, N0, none, N0, N0, 0⟩), ⟨[]⟩⟩
noncomputable def o65 (P : Params) : Obj := ⟨(VT "code"), none, (.fields ⟨[(s "is_plain_text" 257), (s "is_plain_text" 258), (s "/claim/cut.py" 259), (vi 33 0), (vi 1 0), (vi 0 0), (vi 0 0), (vi 3 0), (r 24), (Value.bool true), (vi 181 0), (r 25), N0, (r 26), (r 27), (r 28), (vi 261 0), (vi 33 0), (s "/claim/cut.py" 262)]⟩), ⟨[]⟩⟩
noncomputable def o66 (P : Params) : Obj := ⟨(VT "function"), none, (.func ⟨(S "is_plain_text"), (S "is_plain_text"), fdA (st 24), .stmts (fdB (st 24)), fdS (st 24), 3, [], N0, N0, N0, (s "snobol.compile_pattern" 187), none, (r 29), N0, 0⟩), ⟨[]⟩⟩
noncomputable def o67 (P : Params) : Obj := ⟨TU, none, (.seq ⟨[]⟩ 0), ⟨[]⟩⟩
noncomputable def o68 (P : Params) : Obj := ⟨N0, none, (.fields ⟨[]⟩), ⟨[]⟩⟩
noncomputable def o69 (P : Params) : Obj := ⟨TU, none, (.seq ⟨[(s "parts" 267), (s "found" 268), (s "part" 269)]⟩ 0), ⟨[]⟩⟩
noncomputable def o70 (P : Params) : Obj := ⟨TU, none, (.seq ⟨[]⟩ 0), ⟨[]⟩⟩
noncomputable def o71 (P : Params) : Obj := ⟨N0, none, (.func ⟨(S "with_texts_joined"), (S "with_texts_joined"), fdA (st 25), .stmts (fdB (st 25)), fdS (st 25), 0, [], N0, N0, N0, N0, none, N0, N0, 0⟩), ⟨[]⟩⟩
noncomputable def o72 (P : Params) : Obj := ⟨(VT "code"), none, (.fields ⟨[(s "with_texts_joined" 264), (s "with_texts_joined" 265), (s "/claim/cut.py" 266), (vi 35 0), (vi 1 0), (vi 0 0), (vi 0 0), (vi 3 0), (r 31), (Value.bool true), (vi 181 0), (r 32), N0, (r 33), (r 34), (r 35), (vi 270 0), (vi 35 0), (s "/claim/cut.py" 271)]⟩), ⟨[]⟩⟩
noncomputable def o73 (P : Params) : Obj := ⟨(VT "function"), none, (.func ⟨(S "with_texts_joined"), (S "with_texts_joined"), fdA (st 25), .stmts (fdB (st 25)), fdS (st 25), 3, [], N0, N0, N0, (s "snobol.compile_pattern" 187), none, (r 36), N0, 0⟩), ⟨[]⟩⟩
noncomputable def o74 (P : Params) : Obj := ⟨(VT "dict"), none, (.dict ⟨[E P "__name__" 165 (s "snobol.compile_pattern" 187), E P "__doc__" 166 N0, E P "__package__" 167 N0, E P "__loader__" 168 (VB "__main__.__loader__#opaque"), E P "__spec__" 169 N0, E P "__annotations__" 170 (r 6), E P "__builtins__" 171 (r 4), E P "__file__" 173 (s "/claim/cut.py" 172), E P "__cached__" 174 N0, E P "ONE" 190 (s "one" 189), E P "WAYS" 192 (s "ways" 191), E P "SPLIT" 194 (s "split" 193), E P "JUMP" 196 (s "jump" 195), E P "MARK" 198 (s "mark" 197), E P "NAME" 200 (s "name" 199), E P "SET" 202 (s "set" 201), E P "GAIN" 204 (s "gain" 203), E P "PLACE" 206 (s "place" 205), E P "ASK" 208 (s "ask" 207), E P "FENCE" 210 (s "fence" 209), E P "FAIL" 212 (s "fail" 211), E P "ABORT" 214 (s "abort" 213), E P "SUCCEED" 216 (s "succeed" 215), E P "DONE" 218 (s "done" 217), E P "PUT" 220 (s "put" 219), E P "EMIT" 222 (s "emit" 221), E P "OPEN" 224 (s "open" 223), E P "SHUT" 226 (s "shut" 225), E P "MEET" 228 (s "meet" 227), E P "SINGLE" 240 (r 15), E P "ALONE" 245 (r 16), E P "row_of" 256 (r 23), E P "is_plain_text" 263 (r 30), E P "with_texts_joined" 272 (r 37), E P "PatternCode" 356 (r 94)]⟩ 35), ⟨[]⟩⟩
noncomputable def o75 (P : Params) : Obj := ⟨N0, none, (.fields ⟨[(vi 24 0), (vi 0 0), (r 22), (vi 33 0), (vi 0 0), (r 29), (vi 35 0), (vi 0 0), (r 36), (vi 45 0), (vi 0 0), (r 43)]⟩), ⟨[]⟩⟩
noncomputable def o76 (P : Params) : Obj := ⟨TU, none, (.seq ⟨[]⟩ 0), ⟨[]⟩⟩
noncomputable def o77 (P : Params) : Obj := ⟨(VT "builtin_function_or_method"), none, (.fields ⟨[(VB "type.__prepare__"), (VT "type")]⟩), ⟨[]⟩⟩
noncomputable def o78 (P : Params) : Obj := ⟨(VT "dict"), none, (.dict ⟨[E P "__module__" 280 (s "snobol.compile_pattern" 187), E P "__qualname__" 282 (s "PatternCode" 281), E P "__firstlineno__" 284 (vi 45 283), E P "__init__" 291 (r 51), E P "emit" 299 (r 58), E P "put" 310 (r 65), E P "begun" 316 (r 70), E P "choice" 327 (r 77), E P "repeat" 337 (r 84), E P "bound" 347 (r 91), E P "__static_attributes__" 349 (r 92)]⟩ 11), ⟨[]⟩⟩
noncomputable def o79 (P : Params) : Obj := ⟨TU, none, (.seq ⟨[]⟩ 0), ⟨[]⟩⟩
noncomputable def o80 (P : Params) : Obj := ⟨N0, none, (.fields ⟨[(vi 47 0), (vi 4 0), (r 50), (vi 50 0), (vi 4 0), (r 57), (vi 54 0), (vi 4 0), (r 64), (vi 65 0), (vi 4 0), (r 69), (vi 84 0), (vi 4 0), (r 76), (vi 90 0), (vi 4 0), (r 83), (vi 97 0), (vi 4 0), (r 90)]⟩), ⟨[]⟩⟩
noncomputable def o81 (P : Params) : Obj := ⟨(VT "code"), none, (.fields ⟨[(s "PatternCode" 275), (s "PatternCode" 276), (s "/claim/cut.py" 277), (vi 45 0), (vi 0 0), (vi 0 0), (vi 0 0), (vi 0 0), (r 41), (Value.bool false), (vi 181 0), (r 42), N0, N0, N0, N0, (vi 278 0), (vi 45 0), (s "/claim/cut.py" 279)]⟩), ⟨[]⟩⟩
noncomputable def o82 (P : Params) : Obj := ⟨(VT "frame"), none, Data.plain, ⟨[(some (r 43)), (some (r 3)), (some (r 40)), none, (some (s "snobol.compile_pattern" 187)), none, (some (r 0))]⟩⟩
noncomputable def o83 (P : Params) : Obj := ⟨TU, none, (.seq ⟨[]⟩ 0), ⟨[]⟩⟩
noncomputable def o84 (P : Params) : Obj := ⟨N0, none, (.fields ⟨[]⟩), ⟨[]⟩⟩
noncomputable def o85 (P : Params) : Obj := ⟨TU, none, (.seq ⟨[(s "self" 288)]⟩ 0), ⟨[]⟩⟩
noncomputable def o86 (P : Params) : Obj := ⟨TU, none, (.seq ⟨[]⟩ 0), ⟨[]⟩⟩
noncomputable def o87 (P : Params) : Obj := ⟨N0, none, (.func ⟨(S "__init__"), (S "PatternCode.__init__"), fdA (sc 26 0), .stmts (fdB (sc 26 0)), fdS (sc 26 0), 0, [], N0, N0, N0, N0, none, N0, N0, 0⟩), ⟨[]⟩⟩
noncomputable def o88 (P : Params) : Obj := ⟨(VT "code"), none, (.fields ⟨[(s "__init__" 285), (s "PatternCode.__init__" 286), (s "/claim/cut.py" 287), (vi 47 0), (vi 1 0), (vi 0 0), (vi 0 0), (vi 3 0), (r 45), (Value.bool true), (vi 181 0), (r 46), N0, (r 47), (r 48), (r 49), (vi 289 0), (vi 47 0), (s "/claim/cut.py" 290)]⟩), ⟨[]⟩⟩
noncomputable def o89 (P : Params) : Obj := ⟨(VT "function"), none, (.func ⟨(S "__init__"), (S "PatternCode.__init__"), fdA (sc 26 0), .stmts (fdB (sc 26 0)), fdS (sc 26 0), 3, [], N0, N0, N0, (s "snobol.compile_pattern" 187), none, (r 50), N0, 0⟩), ⟨[]⟩⟩
noncomputable def o90 (P : Params) : Obj := ⟨TU, none, (.seq ⟨[]⟩ 0), ⟨[]⟩⟩
noncomputable def o91 (P : Params) : Obj := ⟨N0, none, (.fields ⟨[]⟩), ⟨[]⟩⟩
noncomputable def o92 (P : Params) : Obj := ⟨TU, none, (.seq ⟨[(s "self" 295), (s "order" 296)]⟩ 0), ⟨[]⟩⟩
noncomputable def o93 (P : Params) : Obj := ⟨TU, none, (.seq ⟨[]⟩ 0), ⟨[]⟩⟩
noncomputable def o94 (P : Params) : Obj := ⟨N0, none, (.func ⟨(S "emit"), (S "PatternCode.emit"), fdA (sc 26 1), .stmts (fdB (sc 26 1)), fdS (sc 26 1), 0, [], N0, N0, N0, N0, none, N0, N0, 0⟩), ⟨[]⟩⟩
noncomputable def o95 (P : Params) : Obj := ⟨(VT "code"), none, (.fields ⟨[(s "emit" 292), (s "PatternCode.emit" 293), (s "/claim/cut.py" 294), (vi 50 0), (vi 2 0), (vi 0 0), (vi 0 0), (vi 3 0), (r 52), (Value.bool true), (vi 181 0), (r 53), N0, (r 54), (r 55), (r 56), (vi 297 0), (vi 50 0), (s "/claim/cut.py" 298)]⟩), ⟨[]⟩⟩
noncomputable def o96 (P : Params) : Obj := ⟨(VT "function"), none, (.func ⟨(S "emit"), (S "PatternCode.emit"), fdA (sc 26 1), .stmts (fdB (sc 26 1)), fdS (sc 26 1), 3, [], N0, N0, N0, (s "snobol.compile_pattern" 187), none, (r 57), N0, 0⟩), ⟨[]⟩⟩
noncomputable def o97 (P : Params) : Obj := ⟨TU, none, (.seq ⟨[]⟩ 0), ⟨[]⟩⟩
noncomputable def o98 (P : Params) : Obj := ⟨N0, none, (.fields ⟨[]⟩), ⟨[]⟩⟩
noncomputable def o99 (P : Params) : Obj := ⟨TU, none, (.seq ⟨[(s "self" 303), (s "node" 304), (s "waiting" 305), (s "word" 306), (s "told" 307)]⟩ 0), ⟨[]⟩⟩
noncomputable def o100 (P : Params) : Obj := ⟨TU, none, (.seq ⟨[]⟩ 0), ⟨[]⟩⟩
noncomputable def o101 (P : Params) : Obj := ⟨N0, none, (.func ⟨(S "put"), (S "PatternCode.put"), fdA (sc 26 2), .stmts (fdB (sc 26 2)), fdS (sc 26 2), 0, [], N0, N0, N0, N0, none, N0, N0, 0⟩), ⟨[]⟩⟩
noncomputable def o102 (P : Params) : Obj := ⟨(VT "code"), none, (.fields ⟨[(s "put" 300), (s "PatternCode.put" 301), (s "/claim/cut.py" 302), (vi 54 0), (vi 2 0), (vi 0 0), (vi 0 0), (vi 3 0), (r 59), (Value.bool true), (vi 181 0), (r 60), N0, (r 61), (r 62), (r 63), (vi 308 0), (vi 54 0), (s "/claim/cut.py" 309)]⟩), ⟨[]⟩⟩
noncomputable def o103 (P : Params) : Obj := ⟨(VT "function"), none, (.func ⟨(S "put"), (S "PatternCode.put"), fdA (sc 26 2), .stmts (fdB (sc 26 2)), fdS (sc 26 2), 3, [], N0, N0, N0, (s "snobol.compile_pattern" 187), none, (r 64), N0, 0⟩), ⟨[]⟩⟩
noncomputable def o104 (P : Params) : Obj := ⟨TU, none, (.seq ⟨[]⟩ 0), ⟨[]⟩⟩
noncomputable def o105 (P : Params) : Obj := ⟨N0, none, (.fields ⟨[]⟩), ⟨[]⟩⟩
noncomputable def o106 (P : Params) : Obj := ⟨N0, none, (.func ⟨(S "begun"), (S "PatternCode.begun"), fdA (sc 26 3), .stmts (fdB (sc 26 3)), fdS (sc 26 3), 0, [], N0, N0, N0, N0, none, N0, N0, 0⟩), ⟨[]⟩⟩
noncomputable def o107 (P : Params) : Obj := ⟨(VT "code"), none, (.fields ⟨[(s "begun" 311), (s "PatternCode.begun" 312), (s "/claim/cut.py" 313), (vi 65 0), (vi 2 0), (vi 0 0), (vi 0 0), (vi 3 0), (r 66), (Value.bool true), (vi 181 0), (r 67), N0, N0, N0, (r 68), (vi 314 0), (vi 65 0), (s "/claim/cut.py" 315)]⟩), ⟨[]⟩⟩
noncomputable def o108 (P : Params) : Obj := ⟨(VT "function"), none, (.func ⟨(S "begun"), (S "PatternCode.begun"), fdA (sc 26 3), .stmts (fdB (sc 26 3)), fdS (sc 26 3), 3, [], N0, N0, N0, (s "snobol.compile_pattern" 187), none, (r 69), N0, 0⟩), ⟨[]⟩⟩
noncomputable def o109 (P : Params) : Obj := ⟨TU, none, (.seq ⟨[]⟩ 0), ⟨[]⟩⟩
noncomputable def o110 (P : Params) : Obj := ⟨N0, none, (.fields ⟨[]⟩), ⟨[]⟩⟩
noncomputable def o111 (P : Params) : Obj := ⟨TU, none, (.seq ⟨[(s "self" 320), (s "parts" 321), (s "found" 322), (s "ends" 323), (s "part" 324)]⟩ 0), ⟨[]⟩⟩
noncomputable def o112 (P : Params) : Obj := ⟨TU, none, (.seq ⟨[]⟩ 0), ⟨[]⟩⟩
noncomputable def o113 (P : Params) : Obj := ⟨N0, none, (.func ⟨(S "choice"), (S "PatternCode.choice"), fdA (sc 26 4), .stmts (fdB (sc 26 4)), fdS (sc 26 4), 0, [], N0, N0, N0, N0, none, N0, N0, 0⟩), ⟨[]⟩⟩
noncomputable def o114 (P : Params) : Obj := ⟨(VT "code"), none, (.fields ⟨[(s "choice" 317), (s "PatternCode.choice" 318), (s "/claim/cut.py" 319), (vi 84 0), (vi 2 0), (vi 0 0), (vi 0 0), (vi 3 0), (r 71), (Value.bool true), (vi 181 0), (r 72), N0, (r 73), (r 74), (r 75), (vi 325 0), (vi 84 0), (s "/claim/cut.py" 326)]⟩), ⟨[]⟩⟩
noncomputable def o115 (P : Params) : Obj := ⟨(VT "function"), none, (.func ⟨(S "choice"), (S "PatternCode.choice"), fdA (sc 26 4), .stmts (fdB (sc 26 4)), fdS (sc 26 4), 3, [], N0, N0, N0, (s "snobol.compile_pattern" 187), none, (r 76), N0, 0⟩), ⟨[]⟩⟩
noncomputable def o116 (P : Params) : Obj := ⟨TU, none, (.seq ⟨[]⟩ 0), ⟨[]⟩⟩
noncomputable def o117 (P : Params) : Obj := ⟨N0, none, (.fields ⟨[]⟩), ⟨[]⟩⟩
noncomputable def o118 (P : Params) : Obj := ⟨TU, none, (.seq ⟨[(s "self" 331), (s "node" 332), (s "split" 333), (s "leave" 334)]⟩ 0), ⟨[]⟩⟩
noncomputable def o119 (P : Params) : Obj := ⟨TU, none, (.seq ⟨[]⟩ 0), ⟨[]⟩⟩
noncomputable def o120 (P : Params) : Obj := ⟨N0, none, (.func ⟨(S "repeat"), (S "PatternCode.repeat"), fdA (sc 26 5), .stmts (fdB (sc 26 5)), fdS (sc 26 5), 0, [], N0, N0, N0, N0, none, N0, N0, 0⟩), ⟨[]⟩⟩
noncomputable def o121 (P : Params) : Obj := ⟨(VT "code"), none, (.fields ⟨[(s "repeat" 328), (s "PatternCode.repeat" 329), (s "/claim/cut.py" 330), (vi 90 0), (vi 2 0), (vi 0 0), (vi 0 0), (vi 3 0), (r 78), (Value.bool true), (vi 181 0), (r 79), N0, (r 80), (r 81), (r 82), (vi 335 0), (vi 90 0), (s "/claim/cut.py" 336)]⟩), ⟨[]⟩⟩
noncomputable def o122 (P : Params) : Obj := ⟨(VT "function"), none, (.func ⟨(S "repeat"), (S "PatternCode.repeat"), fdA (sc 26 5), .stmts (fdB (sc 26 5)), fdS (sc 26 5), 3, [], N0, N0, N0, (s "snobol.compile_pattern" 187), none, (r 83), N0, 0⟩), ⟨[]⟩⟩
noncomputable def o123 (P : Params) : Obj := ⟨TU, none, (.seq ⟨[]⟩ 0), ⟨[]⟩⟩
noncomputable def o124 (P : Params) : Obj := ⟨N0, none, (.fields ⟨[]⟩), ⟨[]⟩⟩
noncomputable def o125 (P : Params) : Obj := ⟨TU, none, (.seq ⟨[(s "self" 341), (s "word" 342), (s "ends" 343), (s "at" 344)]⟩ 0), ⟨[]⟩⟩
noncomputable def o126 (P : Params) : Obj := ⟨TU, none, (.seq ⟨[]⟩ 0), ⟨[]⟩⟩
noncomputable def o127 (P : Params) : Obj := ⟨N0, none, (.func ⟨(S "bound"), (S "PatternCode.bound"), fdA (sc 26 6), .stmts (fdB (sc 26 6)), fdS (sc 26 6), 0, [], N0, N0, N0, N0, none, N0, N0, 0⟩), ⟨[]⟩⟩
noncomputable def o128 (P : Params) : Obj := ⟨(VT "code"), none, (.fields ⟨[(s "bound" 338), (s "PatternCode.bound" 339), (s "/claim/cut.py" 340), (vi 97 0), (vi 3 0), (vi 0 0), (vi 0 0), (vi 3 0), (r 85), (Value.bool true), (vi 181 0), (r 86), N0, (r 87), (r 88), (r 89), (vi 345 0), (vi 97 0), (s "/claim/cut.py" 346)]⟩), ⟨[]⟩⟩
noncomputable def o129 (P : Params) : Obj := ⟨(VT "function"), none, (.func ⟨(S "bound"), (S "PatternCode.bound"), fdA (sc 26 6), .stmts (fdB (sc 26 6)), fdS (sc 26 6), 3, [], N0, N0, N0, (s "snobol.compile_pattern" 187), none, (r 90), N0, 0⟩), ⟨[]⟩⟩
noncomputable def o130 (P : Params) : Obj := ⟨TU, none, (.seq ⟨[(s "orders" 348)]⟩ 0), ⟨[]⟩⟩
noncomputable def o131 (P : Params) : Obj := ⟨(VT "dict"), none, (.dict ⟨[E P "__module__" 280 (s "snobol.compile_pattern" 187), E P "__firstlineno__" 284 (vi 45 283), E P "__init__" 291 (r 51), E P "emit" 299 (r 58), E P "put" 310 (r 65), E P "begun" 316 (r 70), E P "choice" 327 (r 77), E P "repeat" 337 (r 84), E P "bound" 347 (r 91), E P "__static_attributes__" 349 (r 92), E P "__dict__" 351 (r 95), E P "__weakref__" 353 (r 96), E P "__doc__" 354 N0]⟩ 4), ⟨[]⟩⟩
noncomputable def o132 (P : Params) : Obj := ⟨(VT "type"), none, (.cls ⟨(S "PatternCode"), [(VT "object")], [(r 94), (VT "object")], 93, (S "PatternCode"), true, [], [], false, none, false⟩), ⟨[none, none, (some (s "PatternCode" 273)), (some (s "PatternCode" 281)), (some (VB "object.__new__")), (some (Value.bool true))]⟩⟩
noncomputable def o133 (P : Params) : Obj := ⟨(VT "getset_descriptor"), none, (.fields ⟨[(s "__dict__" 350), (r 94), (VB "function.__dict__"), (VB "function.__dict__#set")]⟩), ⟨[]⟩⟩
noncomputable def o134 (P : Params) : Obj := ⟨(VT "getset_descriptor"), none, (.fields ⟨[(s "__weakref__" 352), (r 94), (VB "ExceptionGroup.__weakref__"), N0]⟩), ⟨[]⟩⟩
noncomputable def o135 (P : Params) : Obj := ⟨(VT "super"), none, (.fields ⟨[(r 94), (r 94), (r 94)]⟩), ⟨[]⟩⟩
noncomputable def o136 (P : Params) : Obj := ⟨(VT "builtin_function_or_method"), none, (.fields ⟨[(VB "object.__init_subclass__"), (r 94)]⟩), ⟨[]⟩⟩
noncomputable def o137 (P : Params) : Obj := ⟨N0, none, (.dict ⟨[E P "type.__subclasses__.Exception.0" 407 (vi 132 0), E P "type.__subclasses__.Exception.n" 408 (vi 1 0)]⟩ 2), ⟨[]⟩⟩
noncomputable def o138 (P : Params) : Obj := ⟨(VT "dict"), none, (.dict ⟨[E P "__name__" 165 (s "snobol.values" 375), E P "__doc__" 166 N0, E P "__package__" 167 N0, E P "__loader__" 168 (VB "__main__.__loader__#opaque"), E P "__spec__" 169 N0, E P "__annotations__" 170 (r 6), E P "__builtins__" 171 (r 4), E P "__file__" 173 (s "/claim/cut.py" 172), E P "__cached__" 174 N0, E P "ONE" 190 (s "one" 189), E P "WAYS" 192 (s "ways" 191), E P "SPLIT" 194 (s "split" 193), E P "JUMP" 196 (s "jump" 195), E P "MARK" 198 (s "mark" 197), E P "NAME" 200 (s "name" 199), E P "SET" 202 (s "set" 201), E P "GAIN" 204 (s "gain" 203), E P "PLACE" 206 (s "place" 205), E P "ASK" 208 (s "ask" 207), E P "FENCE" 210 (s "fence" 209), E P "FAIL" 212 (s "fail" 211), E P "ABORT" 214 (s "abort" 213), E P "SUCCEED" 216 (s "succeed" 215), E P "DONE" 218 (s "done" 217), E P "PUT" 220 (s "put" 219), E P "EMIT" 222 (s "emit" 221), E P "OPEN" 224 (s "open" 223), E P "SHUT" 226 (s "shut" 225), E P "MEET" 228 (s "meet" 227), E P "SINGLE" 240 (r 15), E P "ALONE" 245 (r 16), E P "row_of" 256 (r 23), E P "is_plain_text" 263 (r 30), E P "with_texts_joined" 272 (r 37), E P "PatternCode" 356 (r 94), E P "straightened" 366 (r 105), E P "compile_pattern" 374 (r 112), E P "SnobolError" 410 (r 132)]⟩ 38), ⟨[]⟩⟩
noncomputable def o139 (P : Params) : Obj := ⟨N0, none, (.fields ⟨[(vi 24 0), (vi 0 0), (r 22), (vi 33 0), (vi 0 0), (r 29), (vi 35 0), (vi 0 0), (r 36), (vi 45 0), (vi 0 0), (r 43), (vi 106 0), (vi 0 0), (r 104), (vi 116 0), (vi 0 0), (r 111), (vi 122 0), (vi 0 0), (r 119)]⟩), ⟨[]⟩⟩
noncomputable def o140 (P : Params) : Obj := ⟨TU, none, (.seq ⟨[]⟩ 0), ⟨[]⟩⟩
noncomputable def o141 (P : Params) : Obj := ⟨N0, none, (.fields ⟨[]⟩), ⟨[]⟩⟩
noncomputable def o142 (P : Params) : Obj := ⟨TU, none, (.seq ⟨[(s "orders" 360), (s "found" 361), (s "order" 362), (s "goal" 363)]⟩ 0), ⟨[]⟩⟩
noncomputable def o143 (P : Params) : Obj := ⟨TU, none, (.seq ⟨[]⟩ 0), ⟨[]⟩⟩
noncomputable def o144 (P : Params) : Obj := ⟨N0, none, (.func ⟨(S "straightened"), (S "straightened"), fdA (st 27), .stmts (fdB (st 27)), fdS (st 27), 0, [], N0, N0, N0, N0, none, N0, N0, 0⟩), ⟨[]⟩⟩
noncomputable def o145 (P : Params) : Obj := ⟨(VT "code"), none, (.fields ⟨[(s "straightened" 357), (s "straightened" 358), (s "/claim/cut.py" 359), (vi 106 0), (vi 1 0), (vi 0 0), (vi 0 0), (vi 3 0), (r 99), (Value.bool true), (vi 181 0), (r 100), N0, (r 101), (r 102), (r 103), (vi 364 0), (vi 106 0), (s "/claim/cut.py" 365)]⟩), ⟨[]⟩⟩
noncomputable def o146 (P : Params) : Obj := ⟨(VT "function"), none, (.func ⟨(S "straightened"), (S "straightened"), fdA (st 27), .stmts (fdB (st 27)), fdS (st 27), 3, [], N0, N0, N0, (s "snobol.compile_pattern" 187), none, (r 104), N0, 0⟩), ⟨[]⟩⟩
noncomputable def o147 (P : Params) : Obj := ⟨TU, none, (.seq ⟨[]⟩ 0), ⟨[]⟩⟩
noncomputable def o148 (P : Params) : Obj := ⟨N0, none, (.fields ⟨[]⟩), ⟨[]⟩⟩
noncomputable def o149 (P : Params) : Obj := ⟨TU, none, (.seq ⟨[(s "node" 370), (s "code" 371)]⟩ 0), ⟨[]⟩⟩
noncomputable def o150 (P : Params) : Obj := ⟨TU, none, (.seq ⟨[]⟩ 0), ⟨[]⟩⟩
noncomputable def o151 (P : Params) : Obj := ⟨N0, none, (.func ⟨(S "compile_pattern"), (S "compile_pattern"), fdA (st 28), .stmts (fdB (st 28)), fdS (st 28), 0, [], N0, N0, N0, N0, none, N0, N0, 0⟩), ⟨[]⟩⟩
noncomputable def o152 (P : Params) : Obj := ⟨(VT "code"), none, (.fields ⟨[(s "compile_pattern" 367), (s "compile_pattern" 368), (s "/claim/cut.py" 369), (vi 116 0), (vi 1 0), (vi 0 0), (vi 0 0), (vi 3 0), (r 106), (Value.bool true), (vi 181 0), (r 107), N0, (r 108), (r 109), (r 110), (vi 372 0), (vi 116 0), (s "/claim/cut.py" 373)]⟩), ⟨[]⟩⟩
noncomputable def o153 (P : Params) : Obj := ⟨(VT "function"), none, (.func ⟨(S "compile_pattern"), (S "compile_pattern"), fdA (st 28), .stmts (fdB (st 28)), fdS (st 28), 3, [], N0, N0, N0, (s "snobol.compile_pattern" 187), none, (r 111), N0, 0⟩), ⟨[]⟩⟩
noncomputable def o154 (P : Params) : Obj := ⟨TU, none, (.seq ⟨[(VT "Exception")]⟩ 0), ⟨[]⟩⟩
noncomputable def o155 (P : Params) : Obj := ⟨(VT "builtin_function_or_method"), none, (.fields ⟨[(VB "type.__prepare__"), (VT "type")]⟩), ⟨[]⟩⟩
noncomputable def o156 (P : Params) : Obj := ⟨(VT "dict"), none, (.dict ⟨[E P "__module__" 384 (s "snobol.values" 375), E P "__qualname__" 386 (s "SnobolError" 385), E P "__firstlineno__" 388 (vi 122 387), E P "__init__" 399 (r 129), E P "__static_attributes__" 402 (r 130), E P "__classcell__" 403 (r 116)]⟩ 6), ⟨[]⟩⟩
noncomputable def o157 (P : Params) : Obj := ⟨(VT "cell"), none, (.cell (some (r 132))), ⟨[]⟩⟩
noncomputable def o158 (P : Params) : Obj := ⟨TU, none, (.seq ⟨[]⟩ 0), ⟨[]⟩⟩
noncomputable def o159 (P : Params) : Obj := ⟨N0, none, (.fields ⟨[(vi 124 0), (vi 4 0), (r 128)]⟩), ⟨[]⟩⟩
noncomputable def o160 (P : Params) : Obj := ⟨(VT "code"), none, (.fields ⟨[(s "SnobolError" 379), (s "SnobolError" 380), (s "/claim/cut.py" 381), (vi 122 0), (vi 0 0), (vi 0 0), (vi 0 0), (vi 0 0), (r 117), (Value.bool false), (vi 181 0), (r 118), N0, N0, N0, N0, (vi 382 0), (vi 122 0), (s "/claim/cut.py" 383)]⟩), ⟨[]⟩⟩
noncomputable def o161 (P : Params) : Obj := ⟨(VT "frame"), none, Data.plain, ⟨[(some (r 119)), (some (r 3)), (some (r 115)), none, (some (s "snobol.values" 375)), none, (some (r 0))]⟩⟩
noncomputable def o162 (P : Params) : Obj := ⟨TU, none, (.seq ⟨[(s "" 389)]⟩ 0), ⟨[]⟩⟩
noncomputable def o163 (P : Params) : Obj := ⟨TU, none, (.seq ⟨[(r 116)]⟩ 0), ⟨[]⟩⟩
noncomputable def o164 (P : Params) : Obj := ⟨TU, none, (.seq ⟨[(s "__class__" 393)]⟩ 0), ⟨[]⟩⟩
noncomputable def o165 (P : Params) : Obj := ⟨N0, none, (.fields ⟨[]⟩), ⟨[]⟩⟩
noncomputable def o166 (P : Params) : Obj := ⟨TU, none, (.seq ⟨[(s "self" 394), (s "number" 395), (s "told" 396)]⟩ 0), ⟨[]⟩⟩
noncomputable def o167 (P : Params) : Obj := ⟨TU, none, (.seq ⟨[]⟩ 0), ⟨[]⟩⟩
noncomputable def o168 (P : Params) : Obj := ⟨N0, none, (.func ⟨(S "__init__"), (S "SnobolError.__init__"), fdA (sc 30 0), .stmts (fdB (sc 30 0)), fdS (sc 30 0), 0, [], N0, N0, N0, N0, none, N0, N0, 0⟩), ⟨[]⟩⟩
noncomputable def o169 (P : Params) : Obj := ⟨(VT "code"), none, (.fields ⟨[(s "__init__" 390), (s "SnobolError.__init__" 391), (s "/claim/cut.py" 392), (vi 124 0), (vi 3 0), (vi 0 0), (vi 0 0), (vi 3 0), (r 123), (Value.bool true), (vi 181 0), (r 124), N0, (r 125), (r 126), (r 127), (vi 397 0), (vi 124 0), (s "/claim/cut.py" 398)]⟩), ⟨[]⟩⟩
noncomputable def o170 (P : Params) : Obj := ⟨(VT "function"), none, (.func ⟨(S "__init__"), (S "SnobolError.__init__"), fdA (sc 30 0), .stmts (fdB (sc 30 0)), fdS (sc 30 0), 3, [((S "__class__"), 116)], (r 121), N0, N0, (s "snobol.values" 375), none, (r 128), (r 122), 0⟩), ⟨[]⟩⟩
noncomputable def o171 (P : Params) : Obj := ⟨TU, none, (.seq ⟨[(s "number" 400), (s "told" 401)]⟩ 0), ⟨[]⟩⟩
noncomputable def o172 (P : Params) : Obj := ⟨(VT "dict"), none, (.dict ⟨[E P "__module__" 384 (s "snobol.values" 375), E P "__firstlineno__" 388 (vi 122 387), E P "__init__" 399 (r 129), E P "__static_attributes__" 402 (r 130), E P "__weakref__" 405 (r 133), E P "__doc__" 406 N0]⟩ 4), ⟨[]⟩⟩
noncomputable def o173 (P : Params) : Obj := ⟨(VT "type"), none, (.cls ⟨(S "SnobolError"), [(VT "Exception")], [(r 132), (VT "Exception"), (VT "BaseException"), (VT "object")], 131, (S "SnobolError"), true, [], [], false, none, false⟩), ⟨[(some (r 113)), none, (some (s "SnobolError" 377)), (some (s "SnobolError" 385)), (some (VB "Exception.__new__")), (some (Value.bool true))]⟩⟩
noncomputable def o174 (P : Params) : Obj := ⟨(VT "getset_descriptor"), none, (.fields ⟨[(s "__weakref__" 404), (r 132), (VB "ExceptionGroup.__weakref__"), N0]⟩), ⟨[]⟩⟩
noncomputable def o175 (P : Params) : Obj := ⟨(VT "super"), none, (.fields ⟨[(r 132), (r 132), (r 132)]⟩), ⟨[]⟩⟩
noncomputable def o176 (P : Params) : Obj := ⟨(VT "builtin_function_or_method"), none, (.fields ⟨[(VB "object.__init_subclass__"), (r 132)]⟩), ⟨[]⟩⟩
noncomputable def o177 (P : Params) : Obj := ⟨(VT "dict"), none, (.dict ⟨[E P "__name__" 165 (s "snobol.values" 375), E P "__doc__" 166 N0, E P "__package__" 167 N0, E P "__loader__" 168 (VB "__main__.__loader__#opaque"), E P "__spec__" 169 N0, E P "__annotations__" 170 (r 6), E P "__builtins__" 171 (r 4), E P "__file__" 173 (s "/claim/cut.py" 172), E P "__cached__" 174 N0, E P "ONE" 190 (s "one" 189), E P "WAYS" 192 (s "ways" 191), E P "SPLIT" 194 (s "split" 193), E P "JUMP" 196 (s "jump" 195), E P "MARK" 198 (s "mark" 197), E P "NAME" 200 (s "name" 199), E P "SET" 202 (s "set" 201), E P "GAIN" 204 (s "gain" 203), E P "PLACE" 206 (s "place" 205), E P "ASK" 208 (s "ask" 207), E P "FENCE" 210 (s "fence" 209), E P "FAIL" 212 (s "fail" 211), E P "ABORT" 214 (s "abort" 213), E P "SUCCEED" 216 (s "succeed" 215), E P "DONE" 218 (s "done" 217), E P "PUT" 220 (s "put" 219), E P "EMIT" 222 (s "emit" 221), E P "OPEN" 224 (s "open" 223), E P "SHUT" 226 (s "shut" 225), E P "MEET" 228 (s "meet" 227), E P "SINGLE" 240 (r 15), E P "ALONE" 245 (r 16), E P "row_of" 256 (r 23), E P "is_plain_text" 263 (r 30), E P "with_texts_joined" 272 (r 37), E P "PatternCode" 356 (r 94), E P "straightened" 366 (r 105), E P "compile_pattern" 374 (r 112), E P "SnobolError" 410 (r 132), E P "Failure" 430 (r 145)]⟩ 39), ⟨[]⟩⟩
noncomputable def o178 (P : Params) : Obj := ⟨N0, none, (.fields ⟨[(vi 24 0), (vi 0 0), (r 22), (vi 33 0), (vi 0 0), (r 29), (vi 35 0), (vi 0 0), (r 36), (vi 45 0), (vi 0 0), (r 43), (vi 106 0), (vi 0 0), (r 104), (vi 116 0), (vi 0 0), (r 111), (vi 122 0), (vi 0 0), (r 119), (vi 128 0), (vi 0 0), (r 141)]⟩), ⟨[]⟩⟩
noncomputable def o179 (P : Params) : Obj := ⟨TU, none, (.seq ⟨[]⟩ 0), ⟨[]⟩⟩
noncomputable def o180 (P : Params) : Obj := ⟨(VT "builtin_function_or_method"), none, (.fields ⟨[(VB "type.__prepare__"), (VT "type")]⟩), ⟨[]⟩⟩
noncomputable def o181 (P : Params) : Obj := ⟨(VT "dict"), none, (.dict ⟨[E P "__module__" 418 (s "snobol.values" 375), E P "__qualname__" 420 (s "Failure" 419), E P "__firstlineno__" 422 (vi 128 421), E P "__static_attributes__" 423 (r 143)]⟩ 4), ⟨[]⟩⟩
noncomputable def o182 (P : Params) : Obj := ⟨TU, none, (.seq ⟨[]⟩ 0), ⟨[]⟩⟩
noncomputable def o183 (P : Params) : Obj := ⟨N0, none, (.fields ⟨[]⟩), ⟨[]⟩⟩
noncomputable def o184 (P : Params) : Obj := ⟨(VT "code"), none, (.fields ⟨[(s "Failure" 413), (s "Failure" 414), (s "/claim/cut.py" 415), (vi 128 0), (vi 0 0), (vi 0 0), (vi 0 0), (vi 0 0), (r 139), (Value.bool false), (vi 181 0), (r 140), N0, N0, N0, N0, (vi 416 0), (vi 128 0), (s "/claim/cut.py" 417)]⟩), ⟨[]⟩⟩
noncomputable def o185 (P : Params) : Obj := ⟨(VT "frame"), none, Data.plain, ⟨[(some (r 141)), (some (r 3)), (some (r 138)), none, (some (s "snobol.values" 375)), none, (some (r 0))]⟩⟩
noncomputable def o186 (P : Params) : Obj := ⟨TU, none, (.seq ⟨[]⟩ 0), ⟨[]⟩⟩
noncomputable def o187 (P : Params) : Obj := ⟨(VT "dict"), none, (.dict ⟨[E P "__module__" 418 (s "snobol.values" 375), E P "__firstlineno__" 422 (vi 128 421), E P "__static_attributes__" 423 (r 143), E P "__dict__" 425 (r 146), E P "__weakref__" 427 (r 147), E P "__doc__" 428 N0]⟩ 4), ⟨[]⟩⟩
noncomputable def o188 (P : Params) : Obj := ⟨(VT "type"), none, (.cls ⟨(S "Failure"), [(VT "object")], [(r 145), (VT "object")], 144, (S "Failure"), true, [], [], false, none, false⟩), ⟨[none, none, (some (s "Failure" 411)), (some (s "Failure" 419)), (some (VB "object.__new__")), (some (Value.bool true))]⟩⟩
noncomputable def o189 (P : Params) : Obj := ⟨(VT "getset_descriptor"), none, (.fields ⟨[(s "__dict__" 424), (r 145), (VB "function.__dict__"), (VB "function.__dict__#set")]⟩), ⟨[]⟩⟩
noncomputable def o190 (P : Params) : Obj := ⟨(VT "getset_descriptor"), none, (.fields ⟨[(s "__weakref__" 426), (r 145), (VB "ExceptionGroup.__weakref__"), N0]⟩), ⟨[]⟩⟩
noncomputable def o191 (P : Params) : Obj := ⟨(VT "super"), none, (.fields ⟨[(r 145), (r 145), (r 145)]⟩), ⟨[]⟩⟩
noncomputable def o192 (P : Params) : Obj := ⟨(VT "builtin_function_or_method"), none, (.fields ⟨[(VB "object.__init_subclass__"), (r 145)]⟩), ⟨[]⟩⟩
noncomputable def o193 (P : Params) : Obj := ⟨(VT "dict"), none, (.dict ⟨[E P "__name__" 165 (s "snobol.values" 375), E P "__doc__" 166 N0, E P "__package__" 167 N0, E P "__loader__" 168 (VB "__main__.__loader__#opaque"), E P "__spec__" 169 N0, E P "__annotations__" 170 (r 6), E P "__builtins__" 171 (r 4), E P "__file__" 173 (s "/claim/cut.py" 172), E P "__cached__" 174 N0, E P "ONE" 190 (s "one" 189), E P "WAYS" 192 (s "ways" 191), E P "SPLIT" 194 (s "split" 193), E P "JUMP" 196 (s "jump" 195), E P "MARK" 198 (s "mark" 197), E P "NAME" 200 (s "name" 199), E P "SET" 202 (s "set" 201), E P "GAIN" 204 (s "gain" 203), E P "PLACE" 206 (s "place" 205), E P "ASK" 208 (s "ask" 207), E P "FENCE" 210 (s "fence" 209), E P "FAIL" 212 (s "fail" 211), E P "ABORT" 214 (s "abort" 213), E P "SUCCEED" 216 (s "succeed" 215), E P "DONE" 218 (s "done" 217), E P "PUT" 220 (s "put" 219), E P "EMIT" 222 (s "emit" 221), E P "OPEN" 224 (s "open" 223), E P "SHUT" 226 (s "shut" 225), E P "MEET" 228 (s "meet" 227), E P "SINGLE" 240 (r 15), E P "ALONE" 245 (r 16), E P "row_of" 256 (r 23), E P "is_plain_text" 263 (r 30), E P "with_texts_joined" 272 (r 37), E P "PatternCode" 356 (r 94), E P "straightened" 366 (r 105), E P "compile_pattern" 374 (r 112), E P "SnobolError" 410 (r 132), E P "Failure" 430 (r 145), E P "Pattern" 459 (r 166)]⟩ 40), ⟨[]⟩⟩
noncomputable def o194 (P : Params) : Obj := ⟨N0, none, (.fields ⟨[(vi 24 0), (vi 0 0), (r 22), (vi 33 0), (vi 0 0), (r 29), (vi 35 0), (vi 0 0), (r 36), (vi 45 0), (vi 0 0), (r 43), (vi 106 0), (vi 0 0), (r 104), (vi 116 0), (vi 0 0), (r 111), (vi 122 0), (vi 0 0), (r 119), (vi 128 0), (vi 0 0), (r 141), (vi 130 0), (vi 0 0), (r 155)]⟩), ⟨[]⟩⟩
noncomputable def o195 (P : Params) : Obj := ⟨TU, none, (.seq ⟨[]⟩ 0), ⟨[]⟩⟩
noncomputable def o196 (P : Params) : Obj := ⟨(VT "builtin_function_or_method"), none, (.fields ⟨[(VB "type.__prepare__"), (VT "type")]⟩), ⟨[]⟩⟩
noncomputable def o197 (P : Params) : Obj := ⟨(VT "dict"), none, (.dict ⟨[E P "__module__" 438 (s "snobol.values" 375), E P "__qualname__" 440 (s "Pattern" 439), E P "__firstlineno__" 442 (vi 130 441), E P "__init__" 450 (r 163), E P "__static_attributes__" 452 (r 164)]⟩ 5), ⟨[]⟩⟩
noncomputable def o198 (P : Params) : Obj := ⟨TU, none, (.seq ⟨[]⟩ 0), ⟨[]⟩⟩
noncomputable def o199 (P : Params) : Obj := ⟨N0, none, (.fields ⟨[(vi 132 0), (vi 4 0), (r 162)]⟩), ⟨[]⟩⟩
noncomputable def o200 (P : Params) : Obj := ⟨(VT "code"), none, (.fields ⟨[(s "Pattern" 433), (s "Pattern" 434), (s "/claim/cut.py" 435), (vi 130 0), (vi 0 0), (vi 0 0), (vi 0 0), (vi 0 0), (r 153), (Value.bool false), (vi 181 0), (r 154), N0, N0, N0, N0, (vi 436 0), (vi 130 0), (s "/claim/cut.py" 437)]⟩), ⟨[]⟩⟩
noncomputable def o201 (P : Params) : Obj := ⟨(VT "frame"), none, Data.plain, ⟨[(some (r 155)), (some (r 3)), (some (r 152)), none, (some (s "snobol.values" 375)), none, (some (r 0))]⟩⟩
noncomputable def o202 (P : Params) : Obj := ⟨TU, none, (.seq ⟨[]⟩ 0), ⟨[]⟩⟩
noncomputable def o203 (P : Params) : Obj := ⟨N0, none, (.fields ⟨[]⟩), ⟨[]⟩⟩
noncomputable def o204 (P : Params) : Obj := ⟨TU, none, (.seq ⟨[(s "self" 446), (s "node" 447)]⟩ 0), ⟨[]⟩⟩
noncomputable def o205 (P : Params) : Obj := ⟨TU, none, (.seq ⟨[]⟩ 0), ⟨[]⟩⟩
noncomputable def o206 (P : Params) : Obj := ⟨N0, none, (.func ⟨(S "__init__"), (S "Pattern.__init__"), fdA (sc 32 0), .stmts (fdB (sc 32 0)), fdS (sc 32 0), 0, [], N0, N0, N0, N0, none, N0, N0, 0⟩), ⟨[]⟩⟩
noncomputable def o207 (P : Params) : Obj := ⟨(VT "code"), none, (.fields ⟨[(s "__init__" 443), (s "Pattern.__init__" 444), (s "/claim/cut.py" 445), (vi 132 0), (vi 2 0), (vi 0 0), (vi 0 0), (vi 3 0), (r 157), (Value.bool true), (vi 181 0), (r 158), N0, (r 159), (r 160), (r 161), (vi 448 0), (vi 132 0), (s "/claim/cut.py" 449)]⟩), ⟨[]⟩⟩
noncomputable def o208 (P : Params) : Obj := ⟨(VT "function"), none, (.func ⟨(S "__init__"), (S "Pattern.__init__"), fdA (sc 32 0), .stmts (fdB (sc 32 0)), fdS (sc 32 0), 3, [], N0, N0, N0, (s "snobol.values" 375), none, (r 162), N0, 0⟩), ⟨[]⟩⟩
noncomputable def o209 (P : Params) : Obj := ⟨TU, none, (.seq ⟨[(s "node" 451)]⟩ 0), ⟨[]⟩⟩
noncomputable def o210 (P : Params) : Obj := ⟨(VT "dict"), none, (.dict ⟨[E P "__module__" 438 (s "snobol.values" 375), E P "__firstlineno__" 442 (vi 130 441), E P "__init__" 450 (r 163), E P "__static_attributes__" 452 (r 164), E P "__dict__" 454 (r 167), E P "__weakref__" 456 (r 168), E P "__doc__" 457 N0]⟩ 4), ⟨[]⟩⟩
noncomputable def o211 (P : Params) : Obj := ⟨(VT "type"), none, (.cls ⟨(S "Pattern"), [(VT "object")], [(r 166), (VT "object")], 165, (S "Pattern"), true, [], [], false, none, false⟩), ⟨[none, none, (some (s "Pattern" 431)), (some (s "Pattern" 439)), (some (VB "object.__new__")), (some (Value.bool true))]⟩⟩
noncomputable def o212 (P : Params) : Obj := ⟨(VT "getset_descriptor"), none, (.fields ⟨[(s "__dict__" 453), (r 166), (VB "function.__dict__"), (VB "function.__dict__#set")]⟩), ⟨[]⟩⟩
noncomputable def o213 (P : Params) : Obj := ⟨(VT "getset_descriptor"), none, (.fields ⟨[(s "__weakref__" 455), (r 166), (VB "ExceptionGroup.__weakref__"), N0]⟩), ⟨[]⟩⟩
noncomputable def o214 (P : Params) : Obj := ⟨(VT "super"), none, (.fields ⟨[(r 166), (r 166), (r 166)]⟩), ⟨[]⟩⟩
noncomputable def o215 (P : Params) : Obj := ⟨(VT "builtin_function_or_method"), none, (.fields ⟨[(VB "object.__init_subclass__"), (r 166)]⟩), ⟨[]⟩⟩
noncomputable def o216 (P : Params) : Obj := ⟨(VT "dict"), none, (.dict ⟨[E P "__name__" 165 (s "snobol.values" 375), E P "__doc__" 166 N0, E P "__package__" 167 N0, E P "__loader__" 168 (VB "__main__.__loader__#opaque"), E P "__spec__" 169 N0, E P "__annotations__" 170 (r 6), E P "__builtins__" 171 (r 4), E P "__file__" 173 (s "/claim/cut.py" 172), E P "__cached__" 174 N0, E P "ONE" 190 (s "one" 189), E P "WAYS" 192 (s "ways" 191), E P "SPLIT" 194 (s "split" 193), E P "JUMP" 196 (s "jump" 195), E P "MARK" 198 (s "mark" 197), E P "NAME" 200 (s "name" 199), E P "SET" 202 (s "set" 201), E P "GAIN" 204 (s "gain" 203), E P "PLACE" 206 (s "place" 205), E P "ASK" 208 (s "ask" 207), E P "FENCE" 210 (s "fence" 209), E P "FAIL" 212 (s "fail" 211), E P "ABORT" 214 (s "abort" 213), E P "SUCCEED" 216 (s "succeed" 215), E P "DONE" 218 (s "done" 217), E P "PUT" 220 (s "put" 219), E P "EMIT" 222 (s "emit" 221), E P "OPEN" 224 (s "open" 223), E P "SHUT" 226 (s "shut" 225), E P "MEET" 228 (s "meet" 227), E P "SINGLE" 240 (r 15), E P "ALONE" 245 (r 16), E P "row_of" 256 (r 23), E P "is_plain_text" 263 (r 30), E P "with_texts_joined" 272 (r 37), E P "PatternCode" 356 (r 94), E P "straightened" 366 (r 105), E P "compile_pattern" 374 (r 112), E P "SnobolError" 410 (r 132), E P "Failure" 430 (r 145), E P "Pattern" 459 (r 166), E P "Delayed" 488 (r 187)]⟩ 41), ⟨[]⟩⟩
noncomputable def o217 (P : Params) : Obj := ⟨N0, none, (.fields ⟨[(vi 24 0), (vi 0 0), (r 22), (vi 33 0), (vi 0 0), (r 29), (vi 35 0), (vi 0 0), (r 36), (vi 45 0), (vi 0 0), (r 43), (vi 106 0), (vi 0 0), (r 104), (vi 116 0), (vi 0 0), (r 111), (vi 122 0), (vi 0 0), (r 119), (vi 128 0), (vi 0 0), (r 141), (vi 130 0), (vi 0 0), (r 155), (vi 134 0), (vi 0 0), (r 176)]⟩), ⟨[]⟩⟩
noncomputable def o218 (P : Params) : Obj := ⟨TU, none, (.seq ⟨[]⟩ 0), ⟨[]⟩⟩
noncomputable def o219 (P : Params) : Obj := ⟨(VT "builtin_function_or_method"), none, (.fields ⟨[(VB "type.__prepare__"), (VT "type")]⟩), ⟨[]⟩⟩
noncomputable def o220 (P : Params) : Obj := ⟨(VT "dict"), none, (.dict ⟨[E P "__module__" 467 (s "snobol.values" 375), E P "__qualname__" 469 (s "Delayed" 468), E P "__firstlineno__" 471 (vi 134 470), E P "__init__" 479 (r 184), E P "__static_attributes__" 481 (r 185)]⟩ 5), ⟨[]⟩⟩
noncomputable def o221 (P : Params) : Obj := ⟨TU, none, (.seq ⟨[]⟩ 0), ⟨[]⟩⟩
noncomputable def o222 (P : Params) : Obj := ⟨N0, none, (.fields ⟨[(vi 136 0), (vi 4 0), (r 183)]⟩), ⟨[]⟩⟩
noncomputable def o223 (P : Params) : Obj := ⟨(VT "code"), none, (.fields ⟨[(s "Delayed" 462), (s "Delayed" 463), (s "/claim/cut.py" 464), (vi 134 0), (vi 0 0), (vi 0 0), (vi 0 0), (vi 0 0), (r 174), (Value.bool false), (vi 181 0), (r 175), N0, N0, N0, N0, (vi 465 0), (vi 134 0), (s "/claim/cut.py" 466)]⟩), ⟨[]⟩⟩
noncomputable def o224 (P : Params) : Obj := ⟨(VT "frame"), none, Data.plain, ⟨[(some (r 176)), (some (r 3)), (some (r 173)), none, (some (s "snobol.values" 375)), none, (some (r 0))]⟩⟩
noncomputable def o225 (P : Params) : Obj := ⟨TU, none, (.seq ⟨[]⟩ 0), ⟨[]⟩⟩
noncomputable def o226 (P : Params) : Obj := ⟨N0, none, (.fields ⟨[]⟩), ⟨[]⟩⟩
noncomputable def o227 (P : Params) : Obj := ⟨TU, none, (.seq ⟨[(s "self" 475), (s "tree" 476)]⟩ 0), ⟨[]⟩⟩
noncomputable def o228 (P : Params) : Obj := ⟨TU, none, (.seq ⟨[]⟩ 0), ⟨[]⟩⟩
noncomputable def o229 (P : Params) : Obj := ⟨N0, none, (.func ⟨(S "__init__"), (S "Delayed.__init__"), fdA (sc 33 0), .stmts (fdB (sc 33 0)), fdS (sc 33 0), 0, [], N0, N0, N0, N0, none, N0, N0, 0⟩), ⟨[]⟩⟩
noncomputable def o230 (P : Params) : Obj := ⟨(VT "code"), none, (.fields ⟨[(s "__init__" 472), (s "Delayed.__init__" 473), (s "/claim/cut.py" 474), (vi 136 0), (vi 2 0), (vi 0 0), (vi 0 0), (vi 3 0), (r 178), (Value.bool true), (vi 181 0), (r 179), N0, (r 180), (r 181), (r 182), (vi 477 0), (vi 136 0), (s "/claim/cut.py" 478)]⟩), ⟨[]⟩⟩
noncomputable def o231 (P : Params) : Obj := ⟨(VT "function"), none, (.func ⟨(S "__init__"), (S "Delayed.__init__"), fdA (sc 33 0), .stmts (fdB (sc 33 0)), fdS (sc 33 0), 3, [], N0, N0, N0, (s "snobol.values" 375), none, (r 183), N0, 0⟩), ⟨[]⟩⟩
noncomputable def o232 (P : Params) : Obj := ⟨TU, none, (.seq ⟨[(s "tree" 480)]⟩ 0), ⟨[]⟩⟩
noncomputable def o233 (P : Params) : Obj := ⟨(VT "dict"), none, (.dict ⟨[E P "__module__" 467 (s "snobol.values" 375), E P "__firstlineno__" 471 (vi 134 470), E P "__init__" 479 (r 184), E P "__static_attributes__" 481 (r 185), E P "__dict__" 483 (r 188), E P "__weakref__" 485 (r 189), E P "__doc__" 486 N0]⟩ 4), ⟨[]⟩⟩
noncomputable def o234 (P : Params) : Obj := ⟨(VT "type"), none, (.cls ⟨(S "Delayed"), [(VT "object")], [(r 187), (VT "object")], 186, (S "Delayed"), true, [], [], false, none, false⟩), ⟨[none, none, (some (s "Delayed" 460)), (some (s "Delayed" 468)), (some (VB "object.__new__")), (some (Value.bool true))]⟩⟩
noncomputable def o235 (P : Params) : Obj := ⟨(VT "getset_descriptor"), none, (.fields ⟨[(s "__dict__" 482), (r 187), (VB "function.__dict__"), (VB "function.__dict__#set")]⟩), ⟨[]⟩⟩
noncomputable def o236 (P : Params) : Obj := ⟨(VT "getset_descriptor"), none, (.fields ⟨[(s "__weakref__" 484), (r 187), (VB "ExceptionGroup.__weakref__"), N0]⟩), ⟨[]⟩⟩
noncomputable def o237 (P : Params) : Obj := ⟨(VT "super"), none, (.fields ⟨[(r 187), (r 187), (r 187)]⟩), ⟨[]⟩⟩
noncomputable def o238 (P : Params) : Obj := ⟨(VT "builtin_function_or_method"), none, (.fields ⟨[(VB "object.__init_subclass__"), (r 187)]⟩), ⟨[]⟩⟩
noncomputable def o239 (P : Params) : Obj := ⟨(VT "dict"), none, (.dict ⟨[E P "__name__" 165 (s "snobol.values" 375), E P "__doc__" 166 N0, E P "__package__" 167 N0, E P "__loader__" 168 (VB "__main__.__loader__#opaque"), E P "__spec__" 169 N0, E P "__annotations__" 170 (r 6), E P "__builtins__" 171 (r 4), E P "__file__" 173 (s "/claim/cut.py" 172), E P "__cached__" 174 N0, E P "ONE" 190 (s "one" 189), E P "WAYS" 192 (s "ways" 191), E P "SPLIT" 194 (s "split" 193), E P "JUMP" 196 (s "jump" 195), E P "MARK" 198 (s "mark" 197), E P "NAME" 200 (s "name" 199), E P "SET" 202 (s "set" 201), E P "GAIN" 204 (s "gain" 203), E P "PLACE" 206 (s "place" 205), E P "ASK" 208 (s "ask" 207), E P "FENCE" 210 (s "fence" 209), E P "FAIL" 212 (s "fail" 211), E P "ABORT" 214 (s "abort" 213), E P "SUCCEED" 216 (s "succeed" 215), E P "DONE" 218 (s "done" 217), E P "PUT" 220 (s "put" 219), E P "EMIT" 222 (s "emit" 221), E P "OPEN" 224 (s "open" 223), E P "SHUT" 226 (s "shut" 225), E P "MEET" 228 (s "meet" 227), E P "SINGLE" 240 (r 15), E P "ALONE" 245 (r 16), E P "row_of" 256 (r 23), E P "is_plain_text" 263 (r 30), E P "with_texts_joined" 272 (r 37), E P "PatternCode" 356 (r 94), E P "straightened" 366 (r 105), E P "compile_pattern" 374 (r 112), E P "SnobolError" 410 (r 132), E P "Failure" 430 (r 145), E P "Pattern" 459 (r 166), E P "Delayed" 488 (r 187), E P "NameRef" 521 (r 208), E P "is_fail" 528 (r 219), E P "fits" 536 (r 226), E P "whole_of_text" 547 (r 233), E P "text_of_whole" 556 (r 240), E P "to_whole" 564 (r 247)]⟩ 47), ⟨[]⟩⟩
noncomputable def o240 (P : Params) : Obj := ⟨N0, none, (.fields ⟨[(vi 24 0), (vi 0 0), (r 22), (vi 33 0), (vi 0 0), (r 29), (vi 35 0), (vi 0 0), (r 36), (vi 45 0), (vi 0 0), (r 43), (vi 106 0), (vi 0 0), (r 104), (vi 116 0), (vi 0 0), (r 111), (vi 122 0), (vi 0 0), (r 119), (vi 128 0), (vi 0 0), (r 141), (vi 130 0), (vi 0 0), (r 155), (vi 134 0), (vi 0 0), (r 176), (vi 138 0), (vi 0 0), (r 197), (vi 144 0), (vi 0 0), (r 218), (vi 146 0), (vi 0 0), (r 225), (vi 148 0), (vi 0 0), (r 232), (vi 161 0), (vi 0 0), (r 239), (vi 167 0), (vi 0 0), (r 246)]⟩), ⟨[]⟩⟩
noncomputable def o241 (P : Params) : Obj := ⟨TU, none, (.seq ⟨[]⟩ 0), ⟨[]⟩⟩
noncomputable def o242 (P : Params) : Obj := ⟨(VT "builtin_function_or_method"), none, (.fields ⟨[(VB "type.__prepare__"), (VT "type")]⟩), ⟨[]⟩⟩
noncomputable def o243 (P : Params) : Obj := ⟨(VT "dict"), none, (.dict ⟨[E P "__module__" 496 (s "snobol.values" 375), E P "__qualname__" 498 (s "NameRef" 497), E P "__firstlineno__" 500 (vi 138 499), E P "__init__" 510 (r 205), E P "__static_attributes__" 514 (r 206)]⟩ 5), ⟨[]⟩⟩
noncomputable def o244 (P : Params) : Obj := ⟨TU, none, (.seq ⟨[]⟩ 0), ⟨[]⟩⟩
noncomputable def o245 (P : Params) : Obj := ⟨N0, none, (.fields ⟨[(vi 140 0), (vi 4 0), (r 204)]⟩), ⟨[]⟩⟩
noncomputable def o246 (P : Params) : Obj := ⟨(VT "code"), none, (.fields ⟨[(s "NameRef" 491), (s "NameRef" 492), (s "/claim/cut.py" 493), (vi 138 0), (vi 0 0), (vi 0 0), (vi 0 0), (vi 0 0), (r 195), (Value.bool false), (vi 181 0), (r 196), N0, N0, N0, N0, (vi 494 0), (vi 138 0), (s "/claim/cut.py" 495)]⟩), ⟨[]⟩⟩
noncomputable def o247 (P : Params) : Obj := ⟨(VT "frame"), none, Data.plain, ⟨[(some (r 197)), (some (r 3)), (some (r 194)), none, (some (s "snobol.values" 375)), none, (some (r 0))]⟩⟩
noncomputable def o248 (P : Params) : Obj := ⟨TU, none, (.seq ⟨[]⟩ 0), ⟨[]⟩⟩
noncomputable def o249 (P : Params) : Obj := ⟨N0, none, (.fields ⟨[]⟩), ⟨[]⟩⟩
noncomputable def o250 (P : Params) : Obj := ⟨TU, none, (.seq ⟨[(s "self" 504), (s "kind" 505), (s "owner" 506), (s "key" 507)]⟩ 0), ⟨[]⟩⟩
noncomputable def o251 (P : Params) : Obj := ⟨TU, none, (.seq ⟨[]⟩ 0), ⟨[]⟩⟩
noncomputable def o252 (P : Params) : Obj := ⟨N0, none, (.func ⟨(S "__init__"), (S "NameRef.__init__"), fdA (sc 34 0), .stmts (fdB (sc 34 0)), fdS (sc 34 0), 0, [], N0, N0, N0, N0, none, N0, N0, 0⟩), ⟨[]⟩⟩
noncomputable def o253 (P : Params) : Obj := ⟨(VT "code"), none, (.fields ⟨[(s "__init__" 501), (s "NameRef.__init__" 502), (s "/claim/cut.py" 503), (vi 140 0), (vi 4 0), (vi 0 0), (vi 0 0), (vi 3 0), (r 199), (Value.bool true), (vi 181 0), (r 200), N0, (r 201), (r 202), (r 203), (vi 508 0), (vi 140 0), (s "/claim/cut.py" 509)]⟩), ⟨[]⟩⟩
noncomputable def o254 (P : Params) : Obj := ⟨(VT "function"), none, (.func ⟨(S "__init__"), (S "NameRef.__init__"), fdA (sc 34 0), .stmts (fdB (sc 34 0)), fdS (sc 34 0), 3, [], N0, N0, N0, (s "snobol.values" 375), none, (r 204), N0, 0⟩), ⟨[]⟩⟩
noncomputable def o255 (P : Params) : Obj := ⟨TU, none, (.seq ⟨[(s "key" 511), (s "kind" 512), (s "owner" 513)]⟩ 0), ⟨[]⟩⟩
noncomputable def o256 (P : Params) : Obj := ⟨(VT "dict"), none, (.dict ⟨[E P "__module__" 496 (s "snobol.values" 375), E P "__firstlineno__" 500 (vi 138 499), E P "__init__" 510 (r 205), E P "__static_attributes__" 514 (r 206), E P "__dict__" 516 (r 209), E P "__weakref__" 518 (r 210), E P "__doc__" 519 N0]⟩ 4), ⟨[]⟩⟩
noncomputable def o257 (P : Params) : Obj := ⟨(VT "type"), none, (.cls ⟨(S "NameRef"), [(VT "object")], [(r 208), (VT "object")], 207, (S "NameRef"), true, [], [], false, none, false⟩), ⟨[none, none, (some (s "NameRef" 489)), (some (s "NameRef" 497)), (some (VB "object.__new__")), (some (Value.bool true))]⟩⟩
noncomputable def o258 (P : Params) : Obj := ⟨(VT "getset_descriptor"), none, (.fields ⟨[(s "__dict__" 515), (r 208), (VB "function.__dict__"), (VB "function.__dict__#set")]⟩), ⟨[]⟩⟩
noncomputable def o259 (P : Params) : Obj := ⟨(VT "getset_descriptor"), none, (.fields ⟨[(s "__weakref__" 517), (r 208), (VB "ExceptionGroup.__weakref__"), N0]⟩), ⟨[]⟩⟩
noncomputable def o260 (P : Params) : Obj := ⟨(VT "super"), none, (.fields ⟨[(r 208), (r 208), (r 208)]⟩), ⟨[]⟩⟩
noncomputable def o261 (P : Params) : Obj := ⟨(VT "builtin_function_or_method"), none, (.fields ⟨[(VB "object.__init_subclass__"), (r 208)]⟩), ⟨[]⟩⟩
noncomputable def o262 (P : Params) : Obj := ⟨TU, none, (.seq ⟨[]⟩ 0), ⟨[]⟩⟩
noncomputable def o263 (P : Params) : Obj := ⟨N0, none, (.fields ⟨[]⟩), ⟨[]⟩⟩
noncomputable def o264 (P : Params) : Obj := ⟨TU, none, (.seq ⟨[(s "value" 525)]⟩ 0), ⟨[]⟩⟩
noncomputable def o265 (P : Params) : Obj := ⟨TU, none, (.seq ⟨[]⟩ 0), ⟨[]⟩⟩
noncomputable def o266 (P : Params) : Obj := ⟨N0, none, (.func ⟨(S "is_fail"), (S "is_fail"), fdA (st 35), .stmts (fdB (st 35)), fdS (st 35), 0, [], N0, N0, N0, N0, none, N0, N0, 0⟩), ⟨[]⟩⟩
noncomputable def o267 (P : Params) : Obj := ⟨(VT "code"), none, (.fields ⟨[(s "is_fail" 522), (s "is_fail" 523), (s "/claim/cut.py" 524), (vi 144 0), (vi 1 0), (vi 0 0), (vi 0 0), (vi 3 0), (r 213), (Value.bool true), (vi 181 0), (r 214), N0, (r 215), (r 216), (r 217), (vi 526 0), (vi 144 0), (s "/claim/cut.py" 527)]⟩), ⟨[]⟩⟩
noncomputable def o268 (P : Params) : Obj := ⟨(VT "function"), none, (.func ⟨(S "is_fail"), (S "is_fail"), fdA (st 35), .stmts (fdB (st 35)), fdS (st 35), 3, [], N0, N0, N0, (s "snobol.values" 375), none, (r 218), N0, 0⟩), ⟨[]⟩⟩
noncomputable def o269 (P : Params) : Obj := ⟨TU, none, (.seq ⟨[]⟩ 0), ⟨[]⟩⟩
noncomputable def o270 (P : Params) : Obj := ⟨N0, none, (.fields ⟨[]⟩), ⟨[]⟩⟩
noncomputable def o271 (P : Params) : Obj := ⟨TU, none, (.seq ⟨[(s "number" 532), (s "width" 533)]⟩ 0), ⟨[]⟩⟩
noncomputable def o272 (P : Params) : Obj := ⟨TU, none, (.seq ⟨[]⟩ 0), ⟨[]⟩⟩
noncomputable def o273 (P : Params) : Obj := ⟨N0, none, (.func ⟨(S "fits"), (S "fits"), fdA (st 36), .stmts (fdB (st 36)), fdS (st 36), 0, [], N0, N0, N0, N0, none, N0, N0, 0⟩), ⟨[]⟩⟩
noncomputable def o274 (P : Params) : Obj := ⟨(VT "code"), none, (.fields ⟨[(s "fits" 529), (s "fits" 530), (s "/claim/cut.py" 531), (vi 146 0), (vi 2 0), (vi 0 0), (vi 0 0), (vi 3 0), (r 220), (Value.bool true), (vi 181 0), (r 221), N0, (r 222), (r 223), (r 224), (vi 534 0), (vi 146 0), (s "/claim/cut.py" 535)]⟩), ⟨[]⟩⟩
noncomputable def o275 (P : Params) : Obj := ⟨(VT "function"), none, (.func ⟨(S "fits"), (S "fits"), fdA (st 36), .stmts (fdB (st 36)), fdS (st 36), 3, [], N0, N0, N0, (s "snobol.values" 375), none, (r 225), N0, 0⟩), ⟨[]⟩⟩
noncomputable def o276 (P : Params) : Obj := ⟨TU, none, (.seq ⟨[]⟩ 0), ⟨[]⟩⟩
noncomputable def o277 (P : Params) : Obj := ⟨N0, none, (.fields ⟨[]⟩), ⟨[]⟩⟩
noncomputable def o278 (P : Params) : Obj := ⟨TU, none, (.seq ⟨[(s "text" 540), (s "width" 541), (s "digits" 542), (s "number" 543), (s "sign" 544)]⟩ 0), ⟨[]⟩⟩
noncomputable def o279 (P : Params) : Obj := ⟨TU, none, (.seq ⟨[]⟩ 0), ⟨[]⟩⟩
noncomputable def o280 (P : Params) : Obj := ⟨N0, none, (.func ⟨(S "whole_of_text"), (S "whole_of_text"), fdA (st 37), .stmts (fdB (st 37)), fdS (st 37), 0, [], N0, N0, N0, N0, none, N0, N0, 0⟩), ⟨[]⟩⟩
noncomputable def o281 (P : Params) : Obj := ⟨(VT "code"), none, (.fields ⟨[(s "whole_of_text" 537), (s "whole_of_text" 538), (s "/claim/cut.py" 539), (vi 148 0), (vi 2 0), (vi 0 0), (vi 0 0), (vi 3 0), (r 227), (Value.bool true), (vi 181 0), (r 228), N0, (r 229), (r 230), (r 231), (vi 545 0), (vi 148 0), (s "/claim/cut.py" 546)]⟩), ⟨[]⟩⟩
noncomputable def o282 (P : Params) : Obj := ⟨(VT "function"), none, (.func ⟨(S "whole_of_text"), (S "whole_of_text"), fdA (st 37), .stmts (fdB (st 37)), fdS (st 37), 3, [], N0, N0, N0, (s "snobol.values" 375), none, (r 232), N0, 0⟩), ⟨[]⟩⟩
noncomputable def o283 (P : Params) : Obj := ⟨TU, none, (.seq ⟨[]⟩ 0), ⟨[]⟩⟩
noncomputable def o284 (P : Params) : Obj := ⟨N0, none, (.fields ⟨[]⟩), ⟨[]⟩⟩
noncomputable def o285 (P : Params) : Obj := ⟨TU, none, (.seq ⟨[(s "number" 551), (s "left" 552), (s "found" 553)]⟩ 0), ⟨[]⟩⟩
noncomputable def o286 (P : Params) : Obj := ⟨TU, none, (.seq ⟨[]⟩ 0), ⟨[]⟩⟩
noncomputable def o287 (P : Params) : Obj := ⟨N0, none, (.func ⟨(S "text_of_whole"), (S "text_of_whole"), fdA (st 38), .stmts (fdB (st 38)), fdS (st 38), 0, [], N0, N0, N0, N0, none, N0, N0, 0⟩), ⟨[]⟩⟩
noncomputable def o288 (P : Params) : Obj := ⟨(VT "code"), none, (.fields ⟨[(s "text_of_whole" 548), (s "text_of_whole" 549), (s "/claim/cut.py" 550), (vi 161 0), (vi 1 0), (vi 0 0), (vi 0 0), (vi 3 0), (r 234), (Value.bool true), (vi 181 0), (r 235), N0, (r 236), (r 237), (r 238), (vi 554 0), (vi 161 0), (s "/claim/cut.py" 555)]⟩), ⟨[]⟩⟩
noncomputable def o289 (P : Params) : Obj := ⟨(VT "function"), none, (.func ⟨(S "text_of_whole"), (S "text_of_whole"), fdA (st 38), .stmts (fdB (st 38)), fdS (st 38), 3, [], N0, N0, N0, (s "snobol.values" 375), none, (r 239), N0, 0⟩), ⟨[]⟩⟩
noncomputable def o290 (P : Params) : Obj := ⟨TU, none, (.seq ⟨[]⟩ 0), ⟨[]⟩⟩
noncomputable def o291 (P : Params) : Obj := ⟨N0, none, (.fields ⟨[]⟩), ⟨[]⟩⟩
noncomputable def o292 (P : Params) : Obj := ⟨TU, none, (.seq ⟨[(s "value" 560), (s "width" 561)]⟩ 0), ⟨[]⟩⟩
noncomputable def o293 (P : Params) : Obj := ⟨TU, none, (.seq ⟨[]⟩ 0), ⟨[]⟩⟩
noncomputable def o294 (P : Params) : Obj := ⟨N0, none, (.func ⟨(S "to_whole"), (S "to_whole"), fdA (st 39), .stmts (fdB (st 39)), fdS (st 39), 0, [], N0, N0, N0, N0, none, N0, N0, 0⟩), ⟨[]⟩⟩
noncomputable def o295 (P : Params) : Obj := ⟨(VT "code"), none, (.fields ⟨[(s "to_whole" 557), (s "to_whole" 558), (s "/claim/cut.py" 559), (vi 167 0), (vi 2 0), (vi 0 0), (vi 0 0), (vi 3 0), (r 241), (Value.bool true), (vi 181 0), (r 242), N0, (r 243), (r 244), (r 245), (vi 562 0), (vi 167 0), (s "/claim/cut.py" 563)]⟩), ⟨[]⟩⟩
noncomputable def o296 (P : Params) : Obj := ⟨(VT "function"), none, (.func ⟨(S "to_whole"), (S "to_whole"), fdA (st 39), .stmts (fdB (st 39)), fdS (st 39), 3, [], N0, N0, N0, (s "snobol.values" 375), none, (r 246), N0, 0⟩), ⟨[]⟩⟩
noncomputable def o297 (P : Params) : Obj := ⟨(VT "dict"), none, (.dict ⟨[E P "__name__" 165 (s "snobol.primitives" 638), E P "__doc__" 166 N0, E P "__package__" 167 N0, E P "__loader__" 168 (VB "__main__.__loader__#opaque"), E P "__spec__" 169 N0, E P "__annotations__" 170 (r 6), E P "__builtins__" 171 (r 4), E P "__file__" 173 (s "/claim/cut.py" 172), E P "__cached__" 174 N0, E P "ONE" 190 (s "one" 189), E P "WAYS" 192 (s "ways" 191), E P "SPLIT" 194 (s "split" 193), E P "JUMP" 196 (s "jump" 195), E P "MARK" 198 (s "mark" 197), E P "NAME" 200 (s "name" 199), E P "SET" 202 (s "set" 201), E P "GAIN" 204 (s "gain" 203), E P "PLACE" 206 (s "place" 205), E P "ASK" 208 (s "ask" 207), E P "FENCE" 210 (s "fence" 209), E P "FAIL" 212 (s "fail" 211), E P "ABORT" 214 (s "abort" 213), E P "SUCCEED" 216 (s "succeed" 215), E P "DONE" 218 (s "done" 217), E P "PUT" 220 (s "put" 219), E P "EMIT" 222 (s "emit" 221), E P "OPEN" 224 (s "open" 223), E P "SHUT" 226 (s "shut" 225), E P "MEET" 228 (s "meet" 227), E P "SINGLE" 240 (r 15), E P "ALONE" 245 (r 16), E P "row_of" 256 (r 23), E P "is_plain_text" 263 (r 30), E P "with_texts_joined" 272 (r 37), E P "PatternCode" 356 (r 94), E P "straightened" 366 (r 105), E P "compile_pattern" 374 (r 112), E P "SnobolError" 410 (r 132), E P "Failure" 430 (r 145), E P "Pattern" 459 (r 166), E P "Delayed" 488 (r 187), E P "NameRef" 521 (r 208), E P "is_fail" 528 (r 219), E P "fits" 536 (r 226), E P "whole_of_text" 547 (r 233), E P "text_of_whole" 556 (r 240), E P "to_whole" 564 (r 247), E P "to_text" 571 (r 254), E P "need_text" 579 (r 261), E P "COUNTED" 587 (r 262), E P "SIGNED" 592 (r 263), E P "WIDTH_OF_COUNT" 594 (vi 64 593), E P "plain_count" 604 (r 271), E P "plain_signs" 613 (r 278), E P "pattern_of" 621 (r 285), E P "is_delayed" 628 (r 292), E P "settled" 637 (r 299), E P "OPENING" 641 (s "(" 640), E P "CLOSING" 643 (s ")" 642), E P "chars_end" 653 (r 306), E P "len_end" 662 (r 313), E P "pos_end" 670 (r 320)]⟩ 62), ⟨[]⟩⟩
noncomputable def o298 (P : Params) : Obj := ⟨N0, none, (.fields ⟨[(vi 24 0), (vi 0 0), (r 22), (vi 33 0), (vi 0 0), (r 29), (vi 35 0), (vi 0 0), (r 36), (vi 45 0), (vi 0 0), (r 43), (vi 106 0), (vi 0 0), (r 104), (vi 116 0), (vi 0 0), (r 111), (vi 122 0), (vi 0 0), (r 119), (vi 128 0), (vi 0 0), (r 141), (vi 130 0), (vi 0 0), (r 155), (vi 134 0), (vi 0 0), (r 176), (vi 138 0), (vi 0 0), (r 197), (vi 144 0), (vi 0 0), (r 218), (vi 146 0), (vi 0 0), (r 225), (vi 148 0), (vi 0 0), (r 232), (vi 161 0), (vi 0 0), (r 239), (vi 167 0), (vi 0 0), (r 246), (vi 171 0), (vi 0 0), (r 253), (vi 175 0), (vi 0 0), (r 260), (vi 184 0), (vi 0 0), (r 270), (vi 191 0), (vi 0 0), (r 277), (vi 196 0), (vi 0 0), (r 284), (vi 205 0), (vi 0 0), (r 291), (vi 207 0), (vi 0 0), (r 298), (vi 219 0), (vi 0 0), (r 305), (vi 222 0), (vi 0 0), (r 312), (vi 224 0), (vi 0 0), (r 319)]⟩), ⟨[]⟩⟩
noncomputable def o299 (P : Params) : Obj := ⟨TU, none, (.seq ⟨[]⟩ 0), ⟨[]⟩⟩
noncomputable def o300 (P : Params) : Obj := ⟨N0, none, (.fields ⟨[]⟩), ⟨[]⟩⟩
noncomputable def o301 (P : Params) : Obj := ⟨TU, none, (.seq ⟨[(s "value" 568)]⟩ 0), ⟨[]⟩⟩
noncomputable def o302 (P : Params) : Obj := ⟨TU, none, (.seq ⟨[]⟩ 0), ⟨[]⟩⟩
noncomputable def o303 (P : Params) : Obj := ⟨N0, none, (.func ⟨(S "to_text"), (S "to_text"), fdA (st 40), .stmts (fdB (st 40)), fdS (st 40), 0, [], N0, N0, N0, N0, none, N0, N0, 0⟩), ⟨[]⟩⟩
noncomputable def o304 (P : Params) : Obj := ⟨(VT "code"), none, (.fields ⟨[(s "to_text" 565), (s "to_text" 566), (s "/claim/cut.py" 567), (vi 171 0), (vi 1 0), (vi 0 0), (vi 0 0), (vi 3 0), (r 248), (Value.bool true), (vi 181 0), (r 249), N0, (r 250), (r 251), (r 252), (vi 569 0), (vi 171 0), (s "/claim/cut.py" 570)]⟩), ⟨[]⟩⟩
noncomputable def o305 (P : Params) : Obj := ⟨(VT "function"), none, (.func ⟨(S "to_text"), (S "to_text"), fdA (st 40), .stmts (fdB (st 40)), fdS (st 40), 3, [], N0, N0, N0, (s "snobol.values" 375), none, (r 253), N0, 0⟩), ⟨[]⟩⟩
noncomputable def o306 (P : Params) : Obj := ⟨TU, none, (.seq ⟨[]⟩ 0), ⟨[]⟩⟩
noncomputable def o307 (P : Params) : Obj := ⟨N0, none, (.fields ⟨[]⟩), ⟨[]⟩⟩
noncomputable def o308 (P : Params) : Obj := ⟨TU, none, (.seq ⟨[(s "value" 575), (s "text" 576)]⟩ 0), ⟨[]⟩⟩
noncomputable def o309 (P : Params) : Obj := ⟨TU, none, (.seq ⟨[]⟩ 0), ⟨[]⟩⟩
noncomputable def o310 (P : Params) : Obj := ⟨N0, none, (.func ⟨(S "need_text"), (S "need_text"), fdA (st 41), .stmts (fdB (st 41)), fdS (st 41), 0, [], N0, N0, N0, N0, none, N0, N0, 0⟩), ⟨[]⟩⟩
noncomputable def o311 (P : Params) : Obj := ⟨(VT "code"), none, (.fields ⟨[(s "need_text" 572), (s "need_text" 573), (s "/claim/cut.py" 574), (vi 175 0), (vi 1 0), (vi 0 0), (vi 0 0), (vi 3 0), (r 255), (Value.bool true), (vi 181 0), (r 256), N0, (r 257), (r 258), (r 259), (vi 577 0), (vi 175 0), (s "/claim/cut.py" 578)]⟩), ⟨[]⟩⟩
noncomputable def o312 (P : Params) : Obj := ⟨(VT "function"), none, (.func ⟨(S "need_text"), (S "need_text"), fdA (st 41), .stmts (fdB (st 41)), fdS (st 41), 3, [], N0, N0, N0, (s "snobol.values" 375), none, (r 260), N0, 0⟩), ⟨[]⟩⟩
noncomputable def o313 (P : Params) : Obj := ⟨TU, none, (.seq ⟨[(s "len" 582), (s "pos" 583), (s "rpos" 584), (s "tab" 585), (s "rtab" 586)]⟩ 0), ⟨[]⟩⟩
noncomputable def o314 (P : Params) : Obj := ⟨TU, none, (.seq ⟨[(s "any" 588), (s "notany" 589), (s "span" 590), (s "break" 591)]⟩ 0), ⟨[]⟩⟩
noncomputable def o315 (P : Params) : Obj := ⟨TU, none, (.seq ⟨[(vi 64 593)]⟩ 0), ⟨[]⟩⟩
noncomputable def o316 (P : Params) : Obj := ⟨TU, none, (.seq ⟨[]⟩ 0), ⟨[]⟩⟩
noncomputable def o317 (P : Params) : Obj := ⟨N0, none, (.fields ⟨[]⟩), ⟨[]⟩⟩
noncomputable def o318 (P : Params) : Obj := ⟨TU, none, (.seq ⟨[(s "value" 598), (s "kind" 599), (s "width" 600), (s "count" 601)]⟩ 0), ⟨[]⟩⟩
noncomputable def o319 (P : Params) : Obj := ⟨TU, none, (.seq ⟨[]⟩ 0), ⟨[]⟩⟩
noncomputable def o320 (P : Params) : Obj := ⟨N0, none, (.func ⟨(S "plain_count"), (S "plain_count"), fdA (st 46), .stmts (fdB (st 46)), fdS (st 46), 0, [], N0, N0, N0, N0, none, N0, N0, 0⟩), ⟨[]⟩⟩
noncomputable def o321 (P : Params) : Obj := ⟨(VT "code"), none, (.fields ⟨[(s "plain_count" 595), (s "plain_count" 596), (s "/claim/cut.py" 597), (vi 184 0), (vi 3 0), (vi 0 0), (vi 0 0), (vi 3 0), (r 265), (Value.bool true), (vi 181 0), (r 266), N0, (r 267), (r 268), (r 269), (vi 602 0), (vi 184 0), (s "/claim/cut.py" 603)]⟩), ⟨[]⟩⟩
noncomputable def o322 (P : Params) : Obj := ⟨(VT "function"), none, (.func ⟨(S "plain_count"), (S "plain_count"), fdA (st 46), .stmts (fdB (st 46)), fdS (st 46), 3, [], (r 264), N0, N0, (s "snobol.nodes" 580), none, (r 270), N0, 0⟩), ⟨[]⟩⟩
noncomputable def o323 (P : Params) : Obj := ⟨TU, none, (.seq ⟨[]⟩ 0), ⟨[]⟩⟩
noncomputable def o324 (P : Params) : Obj := ⟨N0, none, (.fields ⟨[]⟩), ⟨[]⟩⟩
noncomputable def o325 (P : Params) : Obj := ⟨TU, none, (.seq ⟨[(s "value" 608), (s "kind" 609), (s "text" 610)]⟩ 0), ⟨[]⟩⟩
noncomputable def o326 (P : Params) : Obj := ⟨TU, none, (.seq ⟨[]⟩ 0), ⟨[]⟩⟩
noncomputable def o327 (P : Params) : Obj := ⟨N0, none, (.func ⟨(S "plain_signs"), (S "plain_signs"), fdA (st 47), .stmts (fdB (st 47)), fdS (st 47), 0, [], N0, N0, N0, N0, none, N0, N0, 0⟩), ⟨[]⟩⟩
noncomputable def o328 (P : Params) : Obj := ⟨(VT "code"), none, (.fields ⟨[(s "plain_signs" 605), (s "plain_signs" 606), (s "/claim/cut.py" 607), (vi 191 0), (vi 2 0), (vi 0 0), (vi 0 0), (vi 3 0), (r 272), (Value.bool true), (vi 181 0), (r 273), N0, (r 274), (r 275), (r 276), (vi 611 0), (vi 191 0), (s "/claim/cut.py" 612)]⟩), ⟨[]⟩⟩
noncomputable def o329 (P : Params) : Obj := ⟨(VT "function"), none, (.func ⟨(S "plain_signs"), (S "plain_signs"), fdA (st 47), .stmts (fdB (st 47)), fdS (st 47), 3, [], N0, N0, N0, (s "snobol.nodes" 580), none, (r 277), N0, 0⟩), ⟨[]⟩⟩
noncomputable def o330 (P : Params) : Obj := ⟨TU, none, (.seq ⟨[]⟩ 0), ⟨[]⟩⟩
noncomputable def o331 (P : Params) : Obj := ⟨N0, none, (.fields ⟨[]⟩), ⟨[]⟩⟩
noncomputable def o332 (P : Params) : Obj := ⟨TU, none, (.seq ⟨[(s "value" 617), (s "text" 618)]⟩ 0), ⟨[]⟩⟩
noncomputable def o333 (P : Params) : Obj := ⟨TU, none, (.seq ⟨[]⟩ 0), ⟨[]⟩⟩
noncomputable def o334 (P : Params) : Obj := ⟨N0, none, (.func ⟨(S "pattern_of"), (S "pattern_of"), fdA (st 48), .stmts (fdB (st 48)), fdS (st 48), 0, [], N0, N0, N0, N0, none, N0, N0, 0⟩), ⟨[]⟩⟩
noncomputable def o335 (P : Params) : Obj := ⟨(VT "code"), none, (.fields ⟨[(s "pattern_of" 614), (s "pattern_of" 615), (s "/claim/cut.py" 616), (vi 196 0), (vi 1 0), (vi 0 0), (vi 0 0), (vi 3 0), (r 279), (Value.bool true), (vi 181 0), (r 280), N0, (r 281), (r 282), (r 283), (vi 619 0), (vi 196 0), (s "/claim/cut.py" 620)]⟩), ⟨[]⟩⟩
noncomputable def o336 (P : Params) : Obj := ⟨(VT "function"), none, (.func ⟨(S "pattern_of"), (S "pattern_of"), fdA (st 48), .stmts (fdB (st 48)), fdS (st 48), 3, [], N0, N0, N0, (s "snobol.nodes" 580), none, (r 284), N0, 0⟩), ⟨[]⟩⟩
noncomputable def o337 (P : Params) : Obj := ⟨TU, none, (.seq ⟨[]⟩ 0), ⟨[]⟩⟩
noncomputable def o338 (P : Params) : Obj := ⟨N0, none, (.fields ⟨[]⟩), ⟨[]⟩⟩
noncomputable def o339 (P : Params) : Obj := ⟨TU, none, (.seq ⟨[(s "told" 625)]⟩ 0), ⟨[]⟩⟩
noncomputable def o340 (P : Params) : Obj := ⟨TU, none, (.seq ⟨[]⟩ 0), ⟨[]⟩⟩
noncomputable def o341 (P : Params) : Obj := ⟨N0, none, (.func ⟨(S "is_delayed"), (S "is_delayed"), fdA (st 49), .stmts (fdB (st 49)), fdS (st 49), 0, [], N0, N0, N0, N0, none, N0, N0, 0⟩), ⟨[]⟩⟩
noncomputable def o342 (P : Params) : Obj := ⟨(VT "code"), none, (.fields ⟨[(s "is_delayed" 622), (s "is_delayed" 623), (s "/claim/cut.py" 624), (vi 205 0), (vi 1 0), (vi 0 0), (vi 0 0), (vi 3 0), (r 286), (Value.bool true), (vi 181 0), (r 287), N0, (r 288), (r 289), (r 290), (vi 626 0), (vi 205 0), (s "/claim/cut.py" 627)]⟩), ⟨[]⟩⟩
noncomputable def o343 (P : Params) : Obj := ⟨(VT "function"), none, (.func ⟨(S "is_delayed"), (S "is_delayed"), fdA (st 49), .stmts (fdB (st 49)), fdS (st 49), 3, [], N0, N0, N0, (s "snobol.nodes" 580), none, (r 291), N0, 0⟩), ⟨[]⟩⟩
noncomputable def o344 (P : Params) : Obj := ⟨TU, none, (.seq ⟨[]⟩ 0), ⟨[]⟩⟩
noncomputable def o345 (P : Params) : Obj := ⟨N0, none, (.fields ⟨[]⟩), ⟨[]⟩⟩
noncomputable def o346 (P : Params) : Obj := ⟨TU, none, (.seq ⟨[(s "node" 632), (s "host" 633), (s "value" 634)]⟩ 0), ⟨[]⟩⟩
noncomputable def o347 (P : Params) : Obj := ⟨TU, none, (.seq ⟨[]⟩ 0), ⟨[]⟩⟩
noncomputable def o348 (P : Params) : Obj := ⟨N0, none, (.func ⟨(S "settled"), (S "settled"), fdA (st 50), .stmts (fdB (st 50)), fdS (st 50), 0, [], N0, N0, N0, N0, none, N0, N0, 0⟩), ⟨[]⟩⟩
noncomputable def o349 (P : Params) : Obj := ⟨(VT "code"), none, (.fields ⟨[(s "settled" 629), (s "settled" 630), (s "/claim/cut.py" 631), (vi 207 0), (vi 2 0), (vi 0 0), (vi 0 0), (vi 3 0), (r 293), (Value.bool true), (vi 181 0), (r 294), N0, (r 295), (r 296), (r 297), (vi 635 0), (vi 207 0), (s "/claim/cut.py" 636)]⟩), ⟨[]⟩⟩
noncomputable def o350 (P : Params) : Obj := ⟨(VT "function"), none, (.func ⟨(S "settled"), (S "settled"), fdA (st 50), .stmts (fdB (st 50)), fdS (st 50), 3, [], N0, N0, N0, (s "snobol.nodes" 580), none, (r 298), N0, 0⟩), ⟨[]⟩⟩
noncomputable def o351 (P : Params) : Obj := ⟨TU, none, (.seq ⟨[]⟩ 0), ⟨[]⟩⟩
noncomputable def o352 (P : Params) : Obj := ⟨N0, none, (.fields ⟨[]⟩), ⟨[]⟩⟩
noncomputable def o353 (P : Params) : Obj := ⟨TU, none, (.seq ⟨[(s "subject" 647), (s "at" 648), (s "text" 649), (s "end" 650)]⟩ 0), ⟨[]⟩⟩
noncomputable def o354 (P : Params) : Obj := ⟨TU, none, (.seq ⟨[]⟩ 0), ⟨[]⟩⟩
noncomputable def o355 (P : Params) : Obj := ⟨N0, none, (.func ⟨(S "chars_end"), (S "chars_end"), fdA (st 54), .stmts (fdB (st 54)), fdS (st 54), 0, [], N0, N0, N0, N0, none, N0, N0, 0⟩), ⟨[]⟩⟩
noncomputable def o356 (P : Params) : Obj := ⟨(VT "code"), none, (.fields ⟨[(s "chars_end" 644), (s "chars_end" 645), (s "/claim/cut.py" 646), (vi 219 0), (vi 3 0), (vi 0 0), (vi 0 0), (vi 3 0), (r 300), (Value.bool true), (vi 181 0), (r 301), N0, (r 302), (r 303), (r 304), (vi 651 0), (vi 219 0), (s "/claim/cut.py" 652)]⟩), ⟨[]⟩⟩
noncomputable def o357 (P : Params) : Obj := ⟨(VT "function"), none, (.func ⟨(S "chars_end"), (S "chars_end"), fdA (st 54), .stmts (fdB (st 54)), fdS (st 54), 3, [], N0, N0, N0, (s "snobol.primitives" 638), none, (r 305), N0, 0⟩), ⟨[]⟩⟩
noncomputable def o358 (P : Params) : Obj := ⟨TU, none, (.seq ⟨[]⟩ 0), ⟨[]⟩⟩
noncomputable def o359 (P : Params) : Obj := ⟨N0, none, (.fields ⟨[]⟩), ⟨[]⟩⟩
noncomputable def o360 (P : Params) : Obj := ⟨TU, none, (.seq ⟨[(s "subject" 657), (s "at" 658), (s "many" 659)]⟩ 0), ⟨[]⟩⟩
noncomputable def o361 (P : Params) : Obj := ⟨TU, none, (.seq ⟨[]⟩ 0), ⟨[]⟩⟩
noncomputable def o362 (P : Params) : Obj := ⟨N0, none, (.func ⟨(S "len_end"), (S "len_end"), fdA (st 55), .stmts (fdB (st 55)), fdS (st 55), 0, [], N0, N0, N0, N0, none, N0, N0, 0⟩), ⟨[]⟩⟩
noncomputable def o363 (P : Params) : Obj := ⟨(VT "code"), none, (.fields ⟨[(s "len_end" 654), (s "len_end" 655), (s "/claim/cut.py" 656), (vi 222 0), (vi 3 0), (vi 0 0), (vi 0 0), (vi 3 0), (r 307), (Value.bool true), (vi 181 0), (r 308), N0, (r 309), (r 310), (r 311), (vi 660 0), (vi 222 0), (s "/claim/cut.py" 661)]⟩), ⟨[]⟩⟩
noncomputable def o364 (P : Params) : Obj := ⟨(VT "function"), none, (.func ⟨(S "len_end"), (S "len_end"), fdA (st 55), .stmts (fdB (st 55)), fdS (st 55), 3, [], N0, N0, N0, (s "snobol.primitives" 638), none, (r 312), N0, 0⟩), ⟨[]⟩⟩
noncomputable def o365 (P : Params) : Obj := ⟨TU, none, (.seq ⟨[]⟩ 0), ⟨[]⟩⟩
noncomputable def o366 (P : Params) : Obj := ⟨N0, none, (.fields ⟨[]⟩), ⟨[]⟩⟩
noncomputable def o367 (P : Params) : Obj := ⟨TU, none, (.seq ⟨[(s "at" 666), (s "place" 667)]⟩ 0), ⟨[]⟩⟩
noncomputable def o368 (P : Params) : Obj := ⟨TU, none, (.seq ⟨[]⟩ 0), ⟨[]⟩⟩
noncomputable def o369 (P : Params) : Obj := ⟨N0, none, (.func ⟨(S "pos_end"), (S "pos_end"), fdA (st 56), .stmts (fdB (st 56)), fdS (st 56), 0, [], N0, N0, N0, N0, none, N0, N0, 0⟩), ⟨[]⟩⟩
noncomputable def o370 (P : Params) : Obj := ⟨(VT "code"), none, (.fields ⟨[(s "pos_end" 663), (s "pos_end" 664), (s "/claim/cut.py" 665), (vi 224 0), (vi 2 0), (vi 0 0), (vi 0 0), (vi 3 0), (r 314), (Value.bool true), (vi 181 0), (r 315), N0, (r 316), (r 317), (r 318), (vi 668 0), (vi 224 0), (s "/claim/cut.py" 669)]⟩), ⟨[]⟩⟩
noncomputable def o371 (P : Params) : Obj := ⟨(VT "function"), none, (.func ⟨(S "pos_end"), (S "pos_end"), fdA (st 56), .stmts (fdB (st 56)), fdS (st 56), 3, [], N0, N0, N0, (s "snobol.primitives" 638), none, (r 319), N0, 0⟩), ⟨[]⟩⟩
noncomputable def o372 (P : Params) : Obj := ⟨(VT "dict"), none, (.dict ⟨[E P "__name__" 165 (s "snobol.primitives" 638), E P "__doc__" 166 N0, E P "__package__" 167 N0, E P "__loader__" 168 (VB "__main__.__loader__#opaque"), E P "__spec__" 169 N0, E P "__annotations__" 170 (r 6), E P "__builtins__" 171 (r 4), E P "__file__" 173 (s "/claim/cut.py" 172), E P "__cached__" 174 N0, E P "ONE" 190 (s "one" 189), E P "WAYS" 192 (s "ways" 191), E P "SPLIT" 194 (s "split" 193), E P "JUMP" 196 (s "jump" 195), E P "MARK" 198 (s "mark" 197), E P "NAME" 200 (s "name" 199), E P "SET" 202 (s "set" 201), E P "GAIN" 204 (s "gain" 203), E P "PLACE" 206 (s "place" 205), E P "ASK" 208 (s "ask" 207), E P "FENCE" 210 (s "fence" 209), E P "FAIL" 212 (s "fail" 211), E P "ABORT" 214 (s "abort" 213), E P "SUCCEED" 216 (s "succeed" 215), E P "DONE" 218 (s "done" 217), E P "PUT" 220 (s "put" 219), E P "EMIT" 222 (s "emit" 221), E P "OPEN" 224 (s "open" 223), E P "SHUT" 226 (s "shut" 225), E P "MEET" 228 (s "meet" 227), E P "SINGLE" 240 (r 15), E P "ALONE" 245 (r 16), E P "row_of" 256 (r 23), E P "is_plain_text" 263 (r 30), E P "with_texts_joined" 272 (r 37), E P "PatternCode" 356 (r 94), E P "straightened" 366 (r 105), E P "compile_pattern" 374 (r 112), E P "SnobolError" 410 (r 132), E P "Failure" 430 (r 145), E P "Pattern" 459 (r 166), E P "Delayed" 488 (r 187), E P "NameRef" 521 (r 208), E P "is_fail" 528 (r 219), E P "fits" 536 (r 226), E P "whole_of_text" 547 (r 233), E P "text_of_whole" 556 (r 240), E P "to_whole" 564 (r 247), E P "to_text" 571 (r 254), E P "need_text" 579 (r 261), E P "COUNTED" 587 (r 262), E P "SIGNED" 592 (r 263), E P "WIDTH_OF_COUNT" 594 (vi 64 593), E P "plain_count" 604 (r 271), E P "plain_signs" 613 (r 278), E P "pattern_of" 621 (r 285), E P "is_delayed" 628 (r 292), E P "settled" 637 (r 299), E P "OPENING" 641 (s "(" 640), E P "CLOSING" 643 (s ")" 642), E P "chars_end" 653 (r 306), E P "len_end" 662 (r 313), E P "pos_end" 670 (r 320), E P "rpos_end" 679 (r 327), E P "tab_end" 688 (r 334), E P "rtab_end" 698 (r 341), E P "rem_end" 705 (r 348), E P "any_at" 714 (r 355), E P "notany_at" 723 (r 362), E P "run_end" 733 (r 369), E P "span_end" 743 (r 376), E P "break_end" 753 (r 383), E P "arb_ends" 761 (r 390), E P "bal_end" 770 (r 397), E P "bal_ends" 780 (r 404)]⟩ 74), ⟨[]⟩⟩
noncomputable def o373 (P : Params) : Obj := ⟨N0, none, (.fields ⟨[(vi 24 0), (vi 0 0), (r 22), (vi 33 0), (vi 0 0), (r 29), (vi 35 0), (vi 0 0), (r 36), (vi 45 0), (vi 0 0), (r 43), (vi 106 0), (vi 0 0), (r 104), (vi 116 0), (vi 0 0), (r 111), (vi 122 0), (vi 0 0), (r 119), (vi 128 0), (vi 0 0), (r 141), (vi 130 0), (vi 0 0), (r 155), (vi 134 0), (vi 0 0), (r 176), (vi 138 0), (vi 0 0), (r 197), (vi 144 0), (vi 0 0), (r 218), (vi 146 0), (vi 0 0), (r 225), (vi 148 0), (vi 0 0), (r 232), (vi 161 0), (vi 0 0), (r 239), (vi 167 0), (vi 0 0), (r 246), (vi 171 0), (vi 0 0), (r 253), (vi 175 0), (vi 0 0), (r 260), (vi 184 0), (vi 0 0), (r 270), (vi 191 0), (vi 0 0), (r 277), (vi 196 0), (vi 0 0), (r 284), (vi 205 0), (vi 0 0), (r 291), (vi 207 0), (vi 0 0), (r 298), (vi 219 0), (vi 0 0), (r 305), (vi 222 0), (vi 0 0), (r 312), (vi 224 0), (vi 0 0), (r 319), (vi 226 0), (vi 0 0), (r 326), (vi 228 0), (vi 0 0), (r 333), (vi 230 0), (vi 0 0), (r 340), (vi 233 0), (vi 0 0), (r 347), (vi 235 0), (vi 0 0), (r 354), (vi 237 0), (vi 0 0), (r 361), (vi 239 0), (vi 0 0), (r 368), (vi 243 0), (vi 0 0), (r 375), (vi 246 0), (vi 0 0), (r 382), (vi 249 0), (vi 0 0), (r 389), (vi 251 0), (vi 0 0), (r 396), (vi 264 0), (vi 0 0), (r 403)]⟩), ⟨[]⟩⟩
noncomputable def o374 (P : Params) : Obj := ⟨TU, none, (.seq ⟨[]⟩ 0), ⟨[]⟩⟩
noncomputable def o375 (P : Params) : Obj := ⟨N0, none, (.fields ⟨[]⟩), ⟨[]⟩⟩
noncomputable def o376 (P : Params) : Obj := ⟨TU, none, (.seq ⟨[(s "subject" 674), (s "at" 675), (s "place" 676)]⟩ 0), ⟨[]⟩⟩
noncomputable def o377 (P : Params) : Obj := ⟨TU, none, (.seq ⟨[]⟩ 0), ⟨[]⟩⟩
noncomputable def o378 (P : Params) : Obj := ⟨N0, none, (.func ⟨(S "rpos_end"), (S "rpos_end"), fdA (st 57), .stmts (fdB (st 57)), fdS (st 57), 0, [], N0, N0, N0, N0, none, N0, N0, 0⟩), ⟨[]⟩⟩
noncomputable def o379 (P : Params) : Obj := ⟨(VT "code"), none, (.fields ⟨[(s "rpos_end" 671), (s "rpos_end" 672), (s "/claim/cut.py" 673), (vi 226 0), (vi 3 0), (vi 0 0), (vi 0 0), (vi 3 0), (r 321), (Value.bool true), (vi 181 0), (r 322), N0, (r 323), (r 324), (r 325), (vi 677 0), (vi 226 0), (s "/claim/cut.py" 678)]⟩), ⟨[]⟩⟩
noncomputable def o380 (P : Params) : Obj := ⟨(VT "function"), none, (.func ⟨(S "rpos_end"), (S "rpos_end"), fdA (st 57), .stmts (fdB (st 57)), fdS (st 57), 3, [], N0, N0, N0, (s "snobol.primitives" 638), none, (r 326), N0, 0⟩), ⟨[]⟩⟩
noncomputable def o381 (P : Params) : Obj := ⟨TU, none, (.seq ⟨[]⟩ 0), ⟨[]⟩⟩
noncomputable def o382 (P : Params) : Obj := ⟨N0, none, (.fields ⟨[]⟩), ⟨[]⟩⟩
noncomputable def o383 (P : Params) : Obj := ⟨TU, none, (.seq ⟨[(s "subject" 683), (s "at" 684), (s "place" 685)]⟩ 0), ⟨[]⟩⟩
noncomputable def o384 (P : Params) : Obj := ⟨TU, none, (.seq ⟨[]⟩ 0), ⟨[]⟩⟩
noncomputable def o385 (P : Params) : Obj := ⟨N0, none, (.func ⟨(S "tab_end"), (S "tab_end"), fdA (st 58), .stmts (fdB (st 58)), fdS (st 58), 0, [], N0, N0, N0, N0, none, N0, N0, 0⟩), ⟨[]⟩⟩
noncomputable def o386 (P : Params) : Obj := ⟨(VT "code"), none, (.fields ⟨[(s "tab_end" 680), (s "tab_end" 681), (s "/claim/cut.py" 682), (vi 228 0), (vi 3 0), (vi 0 0), (vi 0 0), (vi 3 0), (r 328), (Value.bool true), (vi 181 0), (r 329), N0, (r 330), (r 331), (r 332), (vi 686 0), (vi 228 0), (s "/claim/cut.py" 687)]⟩), ⟨[]⟩⟩
noncomputable def o387 (P : Params) : Obj := ⟨(VT "function"), none, (.func ⟨(S "tab_end"), (S "tab_end"), fdA (st 58), .stmts (fdB (st 58)), fdS (st 58), 3, [], N0, N0, N0, (s "snobol.primitives" 638), none, (r 333), N0, 0⟩), ⟨[]⟩⟩
noncomputable def o388 (P : Params) : Obj := ⟨TU, none, (.seq ⟨[]⟩ 0), ⟨[]⟩⟩
noncomputable def o389 (P : Params) : Obj := ⟨N0, none, (.fields ⟨[]⟩), ⟨[]⟩⟩
noncomputable def o390 (P : Params) : Obj := ⟨TU, none, (.seq ⟨[(s "subject" 692), (s "at" 693), (s "place" 694), (s "goal" 695)]⟩ 0), ⟨[]⟩⟩
noncomputable def o391 (P : Params) : Obj := ⟨TU, none, (.seq ⟨[]⟩ 0), ⟨[]⟩⟩
noncomputable def o392 (P : Params) : Obj := ⟨N0, none, (.func ⟨(S "rtab_end"), (S "rtab_end"), fdA (st 59), .stmts (fdB (st 59)), fdS (st 59), 0, [], N0, N0, N0, N0, none, N0, N0, 0⟩), ⟨[]⟩⟩
noncomputable def o393 (P : Params) : Obj := ⟨(VT "code"), none, (.fields ⟨[(s "rtab_end" 689), (s "rtab_end" 690), (s "/claim/cut.py" 691), (vi 230 0), (vi 3 0), (vi 0 0), (vi 0 0), (vi 3 0), (r 335), (Value.bool true), (vi 181 0), (r 336), N0, (r 337), (r 338), (r 339), (vi 696 0), (vi 230 0), (s "/claim/cut.py" 697)]⟩), ⟨[]⟩⟩
noncomputable def o394 (P : Params) : Obj := ⟨(VT "function"), none, (.func ⟨(S "rtab_end"), (S "rtab_end"), fdA (st 59), .stmts (fdB (st 59)), fdS (st 59), 3, [], N0, N0, N0, (s "snobol.primitives" 638), none, (r 340), N0, 0⟩), ⟨[]⟩⟩
noncomputable def o395 (P : Params) : Obj := ⟨TU, none, (.seq ⟨[]⟩ 0), ⟨[]⟩⟩
noncomputable def o396 (P : Params) : Obj := ⟨N0, none, (.fields ⟨[]⟩), ⟨[]⟩⟩
noncomputable def o397 (P : Params) : Obj := ⟨TU, none, (.seq ⟨[(s "subject" 702)]⟩ 0), ⟨[]⟩⟩
noncomputable def o398 (P : Params) : Obj := ⟨TU, none, (.seq ⟨[]⟩ 0), ⟨[]⟩⟩
noncomputable def o399 (P : Params) : Obj := ⟨N0, none, (.func ⟨(S "rem_end"), (S "rem_end"), fdA (st 60), .stmts (fdB (st 60)), fdS (st 60), 0, [], N0, N0, N0, N0, none, N0, N0, 0⟩), ⟨[]⟩⟩
noncomputable def o400 (P : Params) : Obj := ⟨(VT "code"), none, (.fields ⟨[(s "rem_end" 699), (s "rem_end" 700), (s "/claim/cut.py" 701), (vi 233 0), (vi 1 0), (vi 0 0), (vi 0 0), (vi 3 0), (r 342), (Value.bool true), (vi 181 0), (r 343), N0, (r 344), (r 345), (r 346), (vi 703 0), (vi 233 0), (s "/claim/cut.py" 704)]⟩), ⟨[]⟩⟩
noncomputable def o401 (P : Params) : Obj := ⟨(VT "function"), none, (.func ⟨(S "rem_end"), (S "rem_end"), fdA (st 60), .stmts (fdB (st 60)), fdS (st 60), 3, [], N0, N0, N0, (s "snobol.primitives" 638), none, (r 347), N0, 0⟩), ⟨[]⟩⟩
noncomputable def o402 (P : Params) : Obj := ⟨TU, none, (.seq ⟨[]⟩ 0), ⟨[]⟩⟩
noncomputable def o403 (P : Params) : Obj := ⟨N0, none, (.fields ⟨[]⟩), ⟨[]⟩⟩
noncomputable def o404 (P : Params) : Obj := ⟨TU, none, (.seq ⟨[(s "subject" 709), (s "at" 710), (s "signs" 711)]⟩ 0), ⟨[]⟩⟩
noncomputable def o405 (P : Params) : Obj := ⟨TU, none, (.seq ⟨[]⟩ 0), ⟨[]⟩⟩
noncomputable def o406 (P : Params) : Obj := ⟨N0, none, (.func ⟨(S "any_at"), (S "any_at"), fdA (st 61), .stmts (fdB (st 61)), fdS (st 61), 0, [], N0, N0, N0, N0, none, N0, N0, 0⟩), ⟨[]⟩⟩
noncomputable def o407 (P : Params) : Obj := ⟨(VT "code"), none, (.fields ⟨[(s "any_at" 706), (s "any_at" 707), (s "/claim/cut.py" 708), (vi 235 0), (vi 3 0), (vi 0 0), (vi 0 0), (vi 3 0), (r 349), (Value.bool true), (vi 181 0), (r 350), N0, (r 351), (r 352), (r 353), (vi 712 0), (vi 235 0), (s "/claim/cut.py" 713)]⟩), ⟨[]⟩⟩
noncomputable def o408 (P : Params) : Obj := ⟨(VT "function"), none, (.func ⟨(S "any_at"), (S "any_at"), fdA (st 61), .stmts (fdB (st 61)), fdS (st 61), 3, [], N0, N0, N0, (s "snobol.primitives" 638), none, (r 354), N0, 0⟩), ⟨[]⟩⟩
noncomputable def o409 (P : Params) : Obj := ⟨TU, none, (.seq ⟨[]⟩ 0), ⟨[]⟩⟩
noncomputable def o410 (P : Params) : Obj := ⟨N0, none, (.fields ⟨[]⟩), ⟨[]⟩⟩
noncomputable def o411 (P : Params) : Obj := ⟨TU, none, (.seq ⟨[(s "subject" 718), (s "at" 719), (s "signs" 720)]⟩ 0), ⟨[]⟩⟩
noncomputable def o412 (P : Params) : Obj := ⟨TU, none, (.seq ⟨[]⟩ 0), ⟨[]⟩⟩
noncomputable def o413 (P : Params) : Obj := ⟨N0, none, (.func ⟨(S "notany_at"), (S "notany_at"), fdA (st 62), .stmts (fdB (st 62)), fdS (st 62), 0, [], N0, N0, N0, N0, none, N0, N0, 0⟩), ⟨[]⟩⟩
noncomputable def o414 (P : Params) : Obj := ⟨(VT "code"), none, (.fields ⟨[(s "notany_at" 715), (s "notany_at" 716), (s "/claim/cut.py" 717), (vi 237 0), (vi 3 0), (vi 0 0), (vi 0 0), (vi 3 0), (r 356), (Value.bool true), (vi 181 0), (r 357), N0, (r 358), (r 359), (r 360), (vi 721 0), (vi 237 0), (s "/claim/cut.py" 722)]⟩), ⟨[]⟩⟩
noncomputable def o415 (P : Params) : Obj := ⟨(VT "function"), none, (.func ⟨(S "notany_at"), (S "notany_at"), fdA (st 62), .stmts (fdB (st 62)), fdS (st 62), 3, [], N0, N0, N0, (s "snobol.primitives" 638), none, (r 361), N0, 0⟩), ⟨[]⟩⟩
noncomputable def o416 (P : Params) : Obj := ⟨TU, none, (.seq ⟨[]⟩ 0), ⟨[]⟩⟩
noncomputable def o417 (P : Params) : Obj := ⟨N0, none, (.fields ⟨[]⟩), ⟨[]⟩⟩
noncomputable def o418 (P : Params) : Obj := ⟨TU, none, (.seq ⟨[(s "subject" 727), (s "at" 728), (s "signs" 729), (s "is_in" 730)]⟩ 0), ⟨[]⟩⟩
noncomputable def o419 (P : Params) : Obj := ⟨TU, none, (.seq ⟨[]⟩ 0), ⟨[]⟩⟩
noncomputable def o420 (P : Params) : Obj := ⟨N0, none, (.func ⟨(S "run_end"), (S "run_end"), fdA (st 63), .stmts (fdB (st 63)), fdS (st 63), 0, [], N0, N0, N0, N0, none, N0, N0, 0⟩), ⟨[]⟩⟩
noncomputable def o421 (P : Params) : Obj := ⟨(VT "code"), none, (.fields ⟨[(s "run_end" 724), (s "run_end" 725), (s "/claim/cut.py" 726), (vi 239 0), (vi 4 0), (vi 0 0), (vi 0 0), (vi 3 0), (r 363), (Value.bool true), (vi 181 0), (r 364), N0, (r 365), (r 366), (r 367), (vi 731 0), (vi 239 0), (s "/claim/cut.py" 732)]⟩), ⟨[]⟩⟩
noncomputable def o422 (P : Params) : Obj := ⟨(VT "function"), none, (.func ⟨(S "run_end"), (S "run_end"), fdA (st 63), .stmts (fdB (st 63)), fdS (st 63), 3, [], N0, N0, N0, (s "snobol.primitives" 638), none, (r 368), N0, 0⟩), ⟨[]⟩⟩
noncomputable def o423 (P : Params) : Obj := ⟨TU, none, (.seq ⟨[]⟩ 0), ⟨[]⟩⟩
noncomputable def o424 (P : Params) : Obj := ⟨N0, none, (.fields ⟨[]⟩), ⟨[]⟩⟩
noncomputable def o425 (P : Params) : Obj := ⟨TU, none, (.seq ⟨[(s "subject" 737), (s "at" 738), (s "signs" 739), (s "end" 740)]⟩ 0), ⟨[]⟩⟩
noncomputable def o426 (P : Params) : Obj := ⟨TU, none, (.seq ⟨[]⟩ 0), ⟨[]⟩⟩
noncomputable def o427 (P : Params) : Obj := ⟨N0, none, (.func ⟨(S "span_end"), (S "span_end"), fdA (st 64), .stmts (fdB (st 64)), fdS (st 64), 0, [], N0, N0, N0, N0, none, N0, N0, 0⟩), ⟨[]⟩⟩
noncomputable def o428 (P : Params) : Obj := ⟨(VT "code"), none, (.fields ⟨[(s "span_end" 734), (s "span_end" 735), (s "/claim/cut.py" 736), (vi 243 0), (vi 3 0), (vi 0 0), (vi 0 0), (vi 3 0), (r 370), (Value.bool true), (vi 181 0), (r 371), N0, (r 372), (r 373), (r 374), (vi 741 0), (vi 243 0), (s "/claim/cut.py" 742)]⟩), ⟨[]⟩⟩
noncomputable def o429 (P : Params) : Obj := ⟨(VT "function"), none, (.func ⟨(S "span_end"), (S "span_end"), fdA (st 64), .stmts (fdB (st 64)), fdS (st 64), 3, [], N0, N0, N0, (s "snobol.primitives" 638), none, (r 375), N0, 0⟩), ⟨[]⟩⟩
noncomputable def o430 (P : Params) : Obj := ⟨TU, none, (.seq ⟨[]⟩ 0), ⟨[]⟩⟩
noncomputable def o431 (P : Params) : Obj := ⟨N0, none, (.fields ⟨[]⟩), ⟨[]⟩⟩
noncomputable def o432 (P : Params) : Obj := ⟨TU, none, (.seq ⟨[(s "subject" 747), (s "at" 748), (s "signs" 749), (s "end" 750)]⟩ 0), ⟨[]⟩⟩
noncomputable def o433 (P : Params) : Obj := ⟨TU, none, (.seq ⟨[]⟩ 0), ⟨[]⟩⟩
noncomputable def o434 (P : Params) : Obj := ⟨N0, none, (.func ⟨(S "break_end"), (S "break_end"), fdA (st 65), .stmts (fdB (st 65)), fdS (st 65), 0, [], N0, N0, N0, N0, none, N0, N0, 0⟩), ⟨[]⟩⟩
noncomputable def o435 (P : Params) : Obj := ⟨(VT "code"), none, (.fields ⟨[(s "break_end" 744), (s "break_end" 745), (s "/claim/cut.py" 746), (vi 246 0), (vi 3 0), (vi 0 0), (vi 0 0), (vi 3 0), (r 377), (Value.bool true), (vi 181 0), (r 378), N0, (r 379), (r 380), (r 381), (vi 751 0), (vi 246 0), (s "/claim/cut.py" 752)]⟩), ⟨[]⟩⟩
noncomputable def o436 (P : Params) : Obj := ⟨(VT "function"), none, (.func ⟨(S "break_end"), (S "break_end"), fdA (st 65), .stmts (fdB (st 65)), fdS (st 65), 3, [], N0, N0, N0, (s "snobol.primitives" 638), none, (r 382), N0, 0⟩), ⟨[]⟩⟩
noncomputable def o437 (P : Params) : Obj := ⟨TU, none, (.seq ⟨[]⟩ 0), ⟨[]⟩⟩
noncomputable def o438 (P : Params) : Obj := ⟨N0, none, (.fields ⟨[]⟩), ⟨[]⟩⟩
noncomputable def o439 (P : Params) : Obj := ⟨TU, none, (.seq ⟨[(s "subject" 757), (s "at" 758)]⟩ 0), ⟨[]⟩⟩
noncomputable def o440 (P : Params) : Obj := ⟨TU, none, (.seq ⟨[]⟩ 0), ⟨[]⟩⟩
noncomputable def o441 (P : Params) : Obj := ⟨N0, none, (.func ⟨(S "arb_ends"), (S "arb_ends"), fdA (st 66), .stmts (fdB (st 66)), fdS (st 66), 0, [], N0, N0, N0, N0, none, N0, N0, 0⟩), ⟨[]⟩⟩
noncomputable def o442 (P : Params) : Obj := ⟨(VT "code"), none, (.fields ⟨[(s "arb_ends" 754), (s "arb_ends" 755), (s "/claim/cut.py" 756), (vi 249 0), (vi 2 0), (vi 0 0), (vi 0 0), (vi 3 0), (r 384), (Value.bool true), (vi 181 0), (r 385), N0, (r 386), (r 387), (r 388), (vi 759 0), (vi 249 0), (s "/claim/cut.py" 760)]⟩), ⟨[]⟩⟩
noncomputable def o443 (P : Params) : Obj := ⟨(VT "function"), none, (.func ⟨(S "arb_ends"), (S "arb_ends"), fdA (st 66), .stmts (fdB (st 66)), fdS (st 66), 3, [], N0, N0, N0, (s "snobol.primitives" 638), none, (r 389), N0, 0⟩), ⟨[]⟩⟩
noncomputable def o444 (P : Params) : Obj := ⟨TU, none, (.seq ⟨[]⟩ 0), ⟨[]⟩⟩
noncomputable def o445 (P : Params) : Obj := ⟨N0, none, (.fields ⟨[]⟩), ⟨[]⟩⟩
noncomputable def o446 (P : Params) : Obj := ⟨TU, none, (.seq ⟨[(s "subject" 765), (s "at" 766), (s "level" 767)]⟩ 0), ⟨[]⟩⟩
noncomputable def o447 (P : Params) : Obj := ⟨TU, none, (.seq ⟨[]⟩ 0), ⟨[]⟩⟩
noncomputable def o448 (P : Params) : Obj := ⟨N0, none, (.func ⟨(S "bal_end"), (S "bal_end"), fdA (st 67), .stmts (fdB (st 67)), fdS (st 67), 0, [], N0, N0, N0, N0, none, N0, N0, 0⟩), ⟨[]⟩⟩
noncomputable def o449 (P : Params) : Obj := ⟨(VT "code"), none, (.fields ⟨[(s "bal_end" 762), (s "bal_end" 763), (s "/claim/cut.py" 764), (vi 251 0), (vi 2 0), (vi 0 0), (vi 0 0), (vi 3 0), (r 391), (Value.bool true), (vi 181 0), (r 392), N0, (r 393), (r 394), (r 395), (vi 768 0), (vi 251 0), (s "/claim/cut.py" 769)]⟩), ⟨[]⟩⟩
noncomputable def o450 (P : Params) : Obj := ⟨(VT "function"), none, (.func ⟨(S "bal_end"), (S "bal_end"), fdA (st 67), .stmts (fdB (st 67)), fdS (st 67), 3, [], N0, N0, N0, (s "snobol.primitives" 638), none, (r 396), N0, 0⟩), ⟨[]⟩⟩
noncomputable def o451 (P : Params) : Obj := ⟨TU, none, (.seq ⟨[]⟩ 0), ⟨[]⟩⟩
noncomputable def o452 (P : Params) : Obj := ⟨N0, none, (.fields ⟨[]⟩), ⟨[]⟩⟩
noncomputable def o453 (P : Params) : Obj := ⟨TU, none, (.seq ⟨[(s "subject" 774), (s "at" 775), (s "found" 776), (s "end" 777)]⟩ 0), ⟨[]⟩⟩
noncomputable def o454 (P : Params) : Obj := ⟨TU, none, (.seq ⟨[]⟩ 0), ⟨[]⟩⟩
noncomputable def o455 (P : Params) : Obj := ⟨N0, none, (.func ⟨(S "bal_ends"), (S "bal_ends"), fdA (st 68), .stmts (fdB (st 68)), fdS (st 68), 0, [], N0, N0, N0, N0, none, N0, N0, 0⟩), ⟨[]⟩⟩
noncomputable def o456 (P : Params) : Obj := ⟨(VT "code"), none, (.fields ⟨[(s "bal_ends" 771), (s "bal_ends" 772), (s "/claim/cut.py" 773), (vi 264 0), (vi 2 0), (vi 0 0), (vi 0 0), (vi 3 0), (r 398), (Value.bool true), (vi 181 0), (r 399), N0, (r 400), (r 401), (r 402), (vi 778 0), (vi 264 0), (s "/claim/cut.py" 779)]⟩), ⟨[]⟩⟩
noncomputable def o457 (P : Params) : Obj := ⟨(VT "function"), none, (.func ⟨(S "bal_ends"), (S "bal_ends"), fdA (st 68), .stmts (fdB (st 68)), fdS (st 68), 3, [], N0, N0, N0, (s "snobol.primitives" 638), none, (r 403), N0, 0⟩), ⟨[]⟩⟩
noncomputable def o458 (P : Params) : Obj := ⟨(VT "dict"), none, (.dict ⟨[E P "__name__" 165 (s "snobol.pattern_machine" 811), E P "__doc__" 166 N0, E P "__package__" 167 N0, E P "__loader__" 168 (VB "__main__.__loader__#opaque"), E P "__spec__" 169 N0, E P "__annotations__" 170 (r 6), E P "__builtins__" 171 (r 4), E P "__file__" 173 (s "/claim/cut.py" 172), E P "__cached__" 174 N0, E P "ONE" 190 (s "one" 189), E P "WAYS" 192 (s "ways" 191), E P "SPLIT" 194 (s "split" 193), E P "JUMP" 196 (s "jump" 195), E P "MARK" 198 (s "mark" 197), E P "NAME" 200 (s "name" 199), E P "SET" 202 (s "set" 201), E P "GAIN" 204 (s "gain" 203), E P "PLACE" 206 (s "place" 205), E P "ASK" 208 (s "ask" 207), E P "FENCE" 210 (s "fence" 209), E P "FAIL" 212 (s "fail" 211), E P "ABORT" 214 (s "abort" 213), E P "SUCCEED" 216 (s "succeed" 215), E P "DONE" 218 (s "done" 217), E P "PUT" 220 (s "put" 219), E P "EMIT" 222 (s "emit" 221), E P "OPEN" 224 (s "open" 223), E P "SHUT" 226 (s "shut" 225), E P "MEET" 228 (s "meet" 227), E P "SINGLE" 240 (r 15), E P "ALONE" 245 (r 16), E P "row_of" 256 (r 23), E P "is_plain_text" 263 (r 30), E P "with_texts_joined" 272 (r 37), E P "PatternCode" 356 (r 94), E P "straightened" 366 (r 105), E P "compile_pattern" 374 (r 112), E P "SnobolError" 410 (r 132), E P "Failure" 430 (r 145), E P "Pattern" 459 (r 166), E P "Delayed" 488 (r 187), E P "NameRef" 521 (r 208), E P "is_fail" 528 (r 219), E P "fits" 536 (r 226), E P "whole_of_text" 547 (r 233), E P "text_of_whole" 556 (r 240), E P "to_whole" 564 (r 247), E P "to_text" 571 (r 254), E P "need_text" 579 (r 261), E P "COUNTED" 587 (r 262), E P "SIGNED" 592 (r 263), E P "WIDTH_OF_COUNT" 594 (vi 64 593), E P "plain_count" 604 (r 271), E P "plain_signs" 613 (r 278), E P "pattern_of" 621 (r 285), E P "is_delayed" 628 (r 292), E P "settled" 637 (r 299), E P "OPENING" 641 (s "(" 640), E P "CLOSING" 643 (s ")" 642), E P "chars_end" 653 (r 306), E P "len_end" 662 (r 313), E P "pos_end" 670 (r 320), E P "rpos_end" 679 (r 327), E P "tab_end" 688 (r 334), E P "rtab_end" 698 (r 341), E P "rem_end" 705 (r 348), E P "any_at" 714 (r 355), E P "notany_at" 723 (r 362), E P "run_end" 733 (r 369), E P "span_end" 743 (r 376), E P "break_end" 753 (r 383), E P "arb_ends" 761 (r 390), E P "bal_end" 770 (r 397), E P "bal_ends" 780 (r 404), E P "one_end" 790 (r 411), E P "plain_end" 799 (r 418), E P "ends_of" 810 (r 425), E P "MET" 814 (vi 0 813), E P "FAILED" 816 (vi 1 815), E P "OVER" 818 (vi 2 817), E P "Way" 865 (r 449)]⟩ 81), ⟨[]⟩⟩
noncomputable def o459 (P : Params) : Obj := ⟨N0, none, (.fields ⟨[(vi 24 0), (vi 0 0), (r 22), (vi 33 0), (vi 0 0), (r 29), (vi 35 0), (vi 0 0), (r 36), (vi 45 0), (vi 0 0), (r 43), (vi 106 0), (vi 0 0), (r 104), (vi 116 0), (vi 0 0), (r 111), (vi 122 0), (vi 0 0), (r 119), (vi 128 0), (vi 0 0), (r 141), (vi 130 0), (vi 0 0), (r 155), (vi 134 0), (vi 0 0), (r 176), (vi 138 0), (vi 0 0), (r 197), (vi 144 0), (vi 0 0), (r 218), (vi 146 0), (vi 0 0), (r 225), (vi 148 0), (vi 0 0), (r 232), (vi 161 0), (vi 0 0), (r 239), (vi 167 0), (vi 0 0), (r 246), (vi 171 0), (vi 0 0), (r 253), (vi 175 0), (vi 0 0), (r 260), (vi 184 0), (vi 0 0), (r 270), (vi 191 0), (vi 0 0), (r 277), (vi 196 0), (vi 0 0), (r 284), (vi 205 0), (vi 0 0), (r 291), (vi 207 0), (vi 0 0), (r 298), (vi 219 0), (vi 0 0), (r 305), (vi 222 0), (vi 0 0), (r 312), (vi 224 0), (vi 0 0), (r 319), (vi 226 0), (vi 0 0), (r 326), (vi 228 0), (vi 0 0), (r 333), (vi 230 0), (vi 0 0), (r 340), (vi 233 0), (vi 0 0), (r 347), (vi 235 0), (vi 0 0), (r 354), (vi 237 0), (vi 0 0), (r 361), (vi 239 0), (vi 0 0), (r 368), (vi 243 0), (vi 0 0), (r 375), (vi 246 0), (vi 0 0), (r 382), (vi 249 0), (vi 0 0), (r 389), (vi 251 0), (vi 0 0), (r 396), (vi 264 0), (vi 0 0), (r 403), (vi 270 0), (vi 0 0), (r 410), (vi 290 0), (vi 0 0), (r 417), (vi 292 0), (vi 0 0), (r 424), (vi 305 0), (vi 0 0), (r 431)]⟩), ⟨[]⟩⟩
noncomputable def o460 (P : Params) : Obj := ⟨TU, none, (.seq ⟨[]⟩ 0), ⟨[]⟩⟩
noncomputable def o461 (P : Params) : Obj := ⟨N0, none, (.fields ⟨[]⟩), ⟨[]⟩⟩
noncomputable def o462 (P : Params) : Obj := ⟨TU, none, (.seq ⟨[(s "kind" 784), (s "subject" 785), (s "at" 786), (s "told" 787)]⟩ 0), ⟨[]⟩⟩
noncomputable def o463 (P : Params) : Obj := ⟨TU, none, (.seq ⟨[]⟩ 0), ⟨[]⟩⟩
noncomputable def o464 (P : Params) : Obj := ⟨N0, none, (.func ⟨(S "one_end"), (S "one_end"), fdA (st 69), .stmts (fdB (st 69)), fdS (st 69), 0, [], N0, N0, N0, N0, none, N0, N0, 0⟩), ⟨[]⟩⟩
noncomputable def o465 (P : Params) : Obj := ⟨(VT "code"), none, (.fields ⟨[(s "one_end" 781), (s "one_end" 782), (s "/claim/cut.py" 783), (vi 270 0), (vi 4 0), (vi 0 0), (vi 0 0), (vi 3 0), (r 405), (Value.bool true), (vi 181 0), (r 406), N0, (r 407), (r 408), (r 409), (vi 788 0), (vi 270 0), (s "/claim/cut.py" 789)]⟩), ⟨[]⟩⟩
noncomputable def o466 (P : Params) : Obj := ⟨(VT "function"), none, (.func ⟨(S "one_end"), (S "one_end"), fdA (st 69), .stmts (fdB (st 69)), fdS (st 69), 3, [], N0, N0, N0, (s "snobol.primitives" 638), none, (r 410), N0, 0⟩), ⟨[]⟩⟩
noncomputable def o467 (P : Params) : Obj := ⟨TU, none, (.seq ⟨[]⟩ 0), ⟨[]⟩⟩
noncomputable def o468 (P : Params) : Obj := ⟨N0, none, (.fields ⟨[]⟩), ⟨[]⟩⟩
noncomputable def o469 (P : Params) : Obj := ⟨TU, none, (.seq ⟨[(s "node" 794), (s "subject" 795), (s "at" 796)]⟩ 0), ⟨[]⟩⟩
noncomputable def o470 (P : Params) : Obj := ⟨TU, none, (.seq ⟨[]⟩ 0), ⟨[]⟩⟩
noncomputable def o471 (P : Params) : Obj := ⟨N0, none, (.func ⟨(S "plain_end"), (S "plain_end"), fdA (st 70), .stmts (fdB (st 70)), fdS (st 70), 0, [], N0, N0, N0, N0, none, N0, N0, 0⟩), ⟨[]⟩⟩
noncomputable def o472 (P : Params) : Obj := ⟨(VT "code"), none, (.fields ⟨[(s "plain_end" 791), (s "plain_end" 792), (s "/claim/cut.py" 793), (vi 290 0), (vi 3 0), (vi 0 0), (vi 0 0), (vi 3 0), (r 412), (Value.bool true), (vi 181 0), (r 413), N0, (r 414), (r 415), (r 416), (vi 797 0), (vi 290 0), (s "/claim/cut.py" 798)]⟩), ⟨[]⟩⟩
noncomputable def o473 (P : Params) : Obj := ⟨(VT "function"), none, (.func ⟨(S "plain_end"), (S "plain_end"), fdA (st 70), .stmts (fdB (st 70)), fdS (st 70), 3, [], N0, N0, N0, (s "snobol.primitives" 638), none, (r 417), N0, 0⟩), ⟨[]⟩⟩
noncomputable def o474 (P : Params) : Obj := ⟨TU, none, (.seq ⟨[]⟩ 0), ⟨[]⟩⟩
noncomputable def o475 (P : Params) : Obj := ⟨N0, none, (.fields ⟨[]⟩), ⟨[]⟩⟩
noncomputable def o476 (P : Params) : Obj := ⟨TU, none, (.seq ⟨[(s "kind" 803), (s "subject" 804), (s "at" 805), (s "told" 806), (s "end" 807)]⟩ 0), ⟨[]⟩⟩
noncomputable def o477 (P : Params) : Obj := ⟨TU, none, (.seq ⟨[]⟩ 0), ⟨[]⟩⟩
noncomputable def o478 (P : Params) : Obj := ⟨N0, none, (.func ⟨(S "ends_of"), (S "ends_of"), fdA (st 71), .stmts (fdB (st 71)), fdS (st 71), 0, [], N0, N0, N0, N0, none, N0, N0, 0⟩), ⟨[]⟩⟩
noncomputable def o479 (P : Params) : Obj := ⟨(VT "code"), none, (.fields ⟨[(s "ends_of" 800), (s "ends_of" 801), (s "/claim/cut.py" 802), (vi 292 0), (vi 4 0), (vi 0 0), (vi 0 0), (vi 3 0), (r 419), (Value.bool true), (vi 181 0), (r 420), N0, (r 421), (r 422), (r 423), (vi 808 0), (vi 292 0), (s "/claim/cut.py" 809)]⟩), ⟨[]⟩⟩
noncomputable def o480 (P : Params) : Obj := ⟨(VT "function"), none, (.func ⟨(S "ends_of"), (S "ends_of"), fdA (st 71), .stmts (fdB (st 71)), fdS (st 71), 3, [], N0, N0, N0, (s "snobol.primitives" 638), none, (r 424), N0, 0⟩), ⟨[]⟩⟩
noncomputable def o481 (P : Params) : Obj := ⟨TU, none, (.seq ⟨[]⟩ 0), ⟨[]⟩⟩
noncomputable def o482 (P : Params) : Obj := ⟨(VT "builtin_function_or_method"), none, (.fields ⟨[(VB "type.__prepare__"), (VT "type")]⟩), ⟨[]⟩⟩
noncomputable def o483 (P : Params) : Obj := ⟨(VT "dict"), none, (.dict ⟨[E P "__module__" 826 (s "snobol.pattern_machine" 811), E P "__qualname__" 828 (s "Way" 827), E P "__firstlineno__" 830 (vi 305 829), E P "__init__" 843 (r 439), E P "copied" 851 (r 446), E P "__static_attributes__" 858 (r 447)]⟩ 6), ⟨[]⟩⟩
noncomputable def o484 (P : Params) : Obj := ⟨TU, none, (.seq ⟨[]⟩ 0), ⟨[]⟩⟩
noncomputable def o485 (P : Params) : Obj := ⟨N0, none, (.fields ⟨[(vi 307 0), (vi 4 0), (r 438), (vi 315 0), (vi 4 0), (r 445)]⟩), ⟨[]⟩⟩
noncomputable def o486 (P : Params) : Obj := ⟨(VT "code"), none, (.fields ⟨[(s "Way" 821), (s "Way" 822), (s "/claim/cut.py" 823), (vi 305 0), (vi 0 0), (vi 0 0), (vi 0 0), (vi 0 0), (r 429), (Value.bool false), (vi 181 0), (r 430), N0, N0, N0, N0, (vi 824 0), (vi 305 0), (s "/claim/cut.py" 825)]⟩), ⟨[]⟩⟩
noncomputable def o487 (P : Params) : Obj := ⟨(VT "frame"), none, Data.plain, ⟨[(some (r 431)), (some (r 3)), (some (r 428)), none, (some (s "snobol.pattern_machine" 811)), none, (some (r 0))]⟩⟩
noncomputable def o488 (P : Params) : Obj := ⟨TU, none, (.seq ⟨[]⟩ 0), ⟨[]⟩⟩
noncomputable def o489 (P : Params) : Obj := ⟨N0, none, (.fields ⟨[]⟩), ⟨[]⟩⟩
noncomputable def o490 (P : Params) : Obj := ⟨TU, none, (.seq ⟨[(s "self" 834), (s "orders" 835), (s "pc" 836), (s "at" 837), (s "named" 838), (s "marks" 839), (s "calls" 840)]⟩ 0), ⟨[]⟩⟩
noncomputable def o491 (P : Params) : Obj := ⟨TU, none, (.seq ⟨[]⟩ 0), ⟨[]⟩⟩
noncomputable def o492 (P : Params) : Obj := ⟨N0, none, (.func ⟨(S "__init__"), (S "Way.__init__"), fdA (sc 76 0), .stmts (fdB (sc 76 0)), fdS (sc 76 0), 0, [], N0, N0, N0, N0, none, N0, N0, 0⟩), ⟨[]⟩⟩
noncomputable def o493 (P : Params) : Obj := ⟨(VT "code"), none, (.fields ⟨[(s "__init__" 831), (s "Way.__init__" 832), (s "/claim/cut.py" 833), (vi 307 0), (vi 7 0), (vi 0 0), (vi 0 0), (vi 3 0), (r 433), (Value.bool true), (vi 181 0), (r 434), N0, (r 435), (r 436), (r 437), (vi 841 0), (vi 307 0), (s "/claim/cut.py" 842)]⟩), ⟨[]⟩⟩
noncomputable def o494 (P : Params) : Obj := ⟨(VT "function"), none, (.func ⟨(S "__init__"), (S "Way.__init__"), fdA (sc 76 0), .stmts (fdB (sc 76 0)), fdS (sc 76 0), 3, [], N0, N0, N0, (s "snobol.pattern_machine" 811), none, (r 438), N0, 0⟩), ⟨[]⟩⟩
noncomputable def o495 (P : Params) : Obj := ⟨TU, none, (.seq ⟨[]⟩ 0), ⟨[]⟩⟩
noncomputable def o496 (P : Params) : Obj := ⟨N0, none, (.fields ⟨[]⟩), ⟨[]⟩⟩
noncomputable def o497 (P : Params) : Obj := ⟨TU, none, (.seq ⟨[(s "self" 847), (s "pc" 848)]⟩ 0), ⟨[]⟩⟩
noncomputable def o498 (P : Params) : Obj := ⟨TU, none, (.seq ⟨[]⟩ 0), ⟨[]⟩⟩
noncomputable def o499 (P : Params) : Obj := ⟨N0, none, (.func ⟨(S "copied"), (S "Way.copied"), fdA (sc 76 1), .stmts (fdB (sc 76 1)), fdS (sc 76 1), 0, [], N0, N0, N0, N0, none, N0, N0, 0⟩), ⟨[]⟩⟩
noncomputable def o500 (P : Params) : Obj := ⟨(VT "code"), none, (.fields ⟨[(s "copied" 844), (s "Way.copied" 845), (s "/claim/cut.py" 846), (vi 315 0), (vi 2 0), (vi 0 0), (vi 0 0), (vi 3 0), (r 440), (Value.bool true), (vi 181 0), (r 441), N0, (r 442), (r 443), (r 444), (vi 849 0), (vi 315 0), (s "/claim/cut.py" 850)]⟩), ⟨[]⟩⟩
noncomputable def o501 (P : Params) : Obj := ⟨(VT "function"), none, (.func ⟨(S "copied"), (S "Way.copied"), fdA (sc 76 1), .stmts (fdB (sc 76 1)), fdS (sc 76 1), 3, [], N0, N0, N0, (s "snobol.pattern_machine" 811), none, (r 445), N0, 0⟩), ⟨[]⟩⟩
noncomputable def o502 (P : Params) : Obj := ⟨TU, none, (.seq ⟨[(s "at" 852), (s "calls" 853), (s "marks" 854), (s "named" 855), (s "orders" 856), (s "pc" 857)]⟩ 0), ⟨[]⟩⟩
noncomputable def o503 (P : Params) : Obj := ⟨(VT "dict"), none, (.dict ⟨[E P "__module__" 826 (s "snobol.pattern_machine" 811), E P "__firstlineno__" 830 (vi 305 829), E P "__init__" 843 (r 439), E P "copied" 851 (r 446), E P "__static_attributes__" 858 (r 447), E P "__dict__" 860 (r 450), E P "__weakref__" 862 (r 451), E P "__doc__" 863 N0]⟩ 4), ⟨[]⟩⟩
noncomputable def o504 (P : Params) : Obj := ⟨(VT "type"), none, (.cls ⟨(S "Way"), [(VT "object")], [(r 449), (VT "object")], 448, (S "Way"), true, [], [], false, none, false⟩), ⟨[none, none, (some (s "Way" 819)), (some (s "Way" 827)), (some (VB "object.__new__")), (some (Value.bool true))]⟩⟩
noncomputable def o505 (P : Params) : Obj := ⟨(VT "getset_descriptor"), none, (.fields ⟨[(s "__dict__" 859), (r 449), (VB "function.__dict__"), (VB "function.__dict__#set")]⟩), ⟨[]⟩⟩
noncomputable def o506 (P : Params) : Obj := ⟨(VT "getset_descriptor"), none, (.fields ⟨[(s "__weakref__" 861), (r 449), (VB "ExceptionGroup.__weakref__"), N0]⟩), ⟨[]⟩⟩
noncomputable def o507 (P : Params) : Obj := ⟨(VT "super"), none, (.fields ⟨[(r 449), (r 449), (r 449)]⟩), ⟨[]⟩⟩
noncomputable def o508 (P : Params) : Obj := ⟨(VT "builtin_function_or_method"), none, (.fields ⟨[(VB "object.__init_subclass__"), (r 449)]⟩), ⟨[]⟩⟩
noncomputable def o509 (P : Params) : Obj := ⟨(VT "dict"), none, (.dict ⟨[E P "__name__" 165 (s "snobol.pattern_machine" 811), E P "__doc__" 166 N0, E P "__package__" 167 N0, E P "__loader__" 168 (VB "__main__.__loader__#opaque"), E P "__spec__" 169 N0, E P "__annotations__" 170 (r 6), E P "__builtins__" 171 (r 4), E P "__file__" 173 (s "/claim/cut.py" 172), E P "__cached__" 174 N0, E P "ONE" 190 (s "one" 189), E P "WAYS" 192 (s "ways" 191), E P "SPLIT" 194 (s "split" 193), E P "JUMP" 196 (s "jump" 195), E P "MARK" 198 (s "mark" 197), E P "NAME" 200 (s "name" 199), E P "SET" 202 (s "set" 201), E P "GAIN" 204 (s "gain" 203), E P "PLACE" 206 (s "place" 205), E P "ASK" 208 (s "ask" 207), E P "FENCE" 210 (s "fence" 209), E P "FAIL" 212 (s "fail" 211), E P "ABORT" 214 (s "abort" 213), E P "SUCCEED" 216 (s "succeed" 215), E P "DONE" 218 (s "done" 217), E P "PUT" 220 (s "put" 219), E P "EMIT" 222 (s "emit" 221), E P "OPEN" 224 (s "open" 223), E P "SHUT" 226 (s "shut" 225), E P "MEET" 228 (s "meet" 227), E P "SINGLE" 240 (r 15), E P "ALONE" 245 (r 16), E P "row_of" 256 (r 23), E P "is_plain_text" 263 (r 30), E P "with_texts_joined" 272 (r 37), E P "PatternCode" 356 (r 94), E P "straightened" 366 (r 105), E P "compile_pattern" 374 (r 112), E P "SnobolError" 410 (r 132), E P "Failure" 430 (r 145), E P "Pattern" 459 (r 166), E P "Delayed" 488 (r 187), E P "NameRef" 521 (r 208), E P "is_fail" 528 (r 219), E P "fits" 536 (r 226), E P "whole_of_text" 547 (r 233), E P "text_of_whole" 556 (r 240), E P "to_whole" 564 (r 247), E P "to_text" 571 (r 254), E P "need_text" 579 (r 261), E P "COUNTED" 587 (r 262), E P "SIGNED" 592 (r 263), E P "WIDTH_OF_COUNT" 594 (vi 64 593), E P "plain_count" 604 (r 271), E P "plain_signs" 613 (r 278), E P "pattern_of" 621 (r 285), E P "is_delayed" 628 (r 292), E P "settled" 637 (r 299), E P "OPENING" 641 (s "(" 640), E P "CLOSING" 643 (s ")" 642), E P "chars_end" 653 (r 306), E P "len_end" 662 (r 313), E P "pos_end" 670 (r 320), E P "rpos_end" 679 (r 327), E P "tab_end" 688 (r 334), E P "rtab_end" 698 (r 341), E P "rem_end" 705 (r 348), E P "any_at" 714 (r 355), E P "notany_at" 723 (r 362), E P "run_end" 733 (r 369), E P "span_end" 743 (r 376), E P "break_end" 753 (r 383), E P "arb_ends" 761 (r 390), E P "bal_end" 770 (r 397), E P "bal_ends" 780 (r 404), E P "one_end" 790 (r 411), E P "plain_end" 799 (r 418), E P "ends_of" 810 (r 425), E P "MET" 814 (vi 0 813), E P "FAILED" 816 (vi 1 815), E P "OVER" 818 (vi 2 817), E P "Way" 865 (r 449), E P "Match" 980 (r 526)]⟩ 82), ⟨[]⟩⟩
noncomputable def o510 (P : Params) : Obj := ⟨N0, none, (.fields ⟨[(vi 24 0), (vi 0 0), (r 22), (vi 33 0), (vi 0 0), (r 29), (vi 35 0), (vi 0 0), (r 36), (vi 45 0), (vi 0 0), (r 43), (vi 106 0), (vi 0 0), (r 104), (vi 116 0), (vi 0 0), (r 111), (vi 122 0), (vi 0 0), (r 119), (vi 128 0), (vi 0 0), (r 141), (vi 130 0), (vi 0 0), (r 155), (vi 134 0), (vi 0 0), (r 176), (vi 138 0), (vi 0 0), (r 197), (vi 144 0), (vi 0 0), (r 218), (vi 146 0), (vi 0 0), (r 225), (vi 148 0), (vi 0 0), (r 232), (vi 161 0), (vi 0 0), (r 239), (vi 167 0), (vi 0 0), (r 246), (vi 171 0), (vi 0 0), (r 253), (vi 175 0), (vi 0 0), (r 260), (vi 184 0), (vi 0 0), (r 270), (vi 191 0), (vi 0 0), (r 277), (vi 196 0), (vi 0 0), (r 284), (vi 205 0), (vi 0 0), (r 291), (vi 207 0), (vi 0 0), (r 298), (vi 219 0), (vi 0 0), (r 305), (vi 222 0), (vi 0 0), (r 312), (vi 224 0), (vi 0 0), (r 319), (vi 226 0), (vi 0 0), (r 326), (vi 228 0), (vi 0 0), (r 333), (vi 230 0), (vi 0 0), (r 340), (vi 233 0), (vi 0 0), (r 347), (vi 235 0), (vi 0 0), (r 354), (vi 237 0), (vi 0 0), (r 361), (vi 239 0), (vi 0 0), (r 368), (vi 243 0), (vi 0 0), (r 375), (vi 246 0), (vi 0 0), (r 382), (vi 249 0), (vi 0 0), (r 389), (vi 251 0), (vi 0 0), (r 396), (vi 264 0), (vi 0 0), (r 403), (vi 270 0), (vi 0 0), (r 410), (vi 290 0), (vi 0 0), (r 417), (vi 292 0), (vi 0 0), (r 424), (vi 305 0), (vi 0 0), (r 431), (vi 317 0), (vi 0 0), (r 459)]⟩), ⟨[]⟩⟩
noncomputable def o511 (P : Params) : Obj := ⟨TU, none, (.seq ⟨[]⟩ 0), ⟨[]⟩⟩
noncomputable def o512 (P : Params) : Obj := ⟨(VT "builtin_function_or_method"), none, (.fields ⟨[(VB "type.__prepare__"), (VT "type")]⟩), ⟨[]⟩⟩
noncomputable def o513 (P : Params) : Obj := ⟨(VT "dict"), none, (.dict ⟨[E P "__module__" 873 (s "snobol.pattern_machine" 811), E P "__qualname__" 875 (s "Match" 874), E P "__firstlineno__" 877 (vi 317 876), E P "__init__" 886 (r 467), E P "run" 897 (r 474), E P "way_back" 904 (r 481), E P "done" 914 (r 488), E P "met_once" 926 (r 495), E P "ended" 938 (r 502), E P "other" 948 (r 509), E P "met_often" 959 (r 516), E P "asked" 969 (r 523), E P "__static_attributes__" 973 (r 524)]⟩ 13), ⟨[]⟩⟩
noncomputable def o514 (P : Params) : Obj := ⟨TU, none, (.seq ⟨[]⟩ 0), ⟨[]⟩⟩
noncomputable def o515 (P : Params) : Obj := ⟨N0, none, (.fields ⟨[(vi 319 0), (vi 4 0), (r 466), (vi 324 0), (vi 4 0), (r 473), (vi 339 0), (vi 4 0), (r 480), (vi 342 0), (vi 4 0), (r 487), (vi 364 0), (vi 4 0), (r 494), (vi 378 0), (vi 4 0), (r 501), (vi 389 0), (vi 4 0), (r 508), (vi 407 0), (vi 4 0), (r 515), (vi 418 0), (vi 4 0), (r 522)]⟩), ⟨[]⟩⟩
noncomputable def o516 (P : Params) : Obj := ⟨(VT "code"), none, (.fields ⟨[(s "Match" 868), (s "Match" 869), (s "/claim/cut.py" 870), (vi 317 0), (vi 0 0), (vi 0 0), (vi 0 0), (vi 0 0), (r 457), (Value.bool false), (vi 181 0), (r 458), N0, N0, N0, N0, (vi 871 0), (vi 317 0), (s "/claim/cut.py" 872)]⟩), ⟨[]⟩⟩
noncomputable def o517 (P : Params) : Obj := ⟨(VT "frame"), none, Data.plain, ⟨[(some (r 459)), (some (r 3)), (some (r 456)), none, (some (s "snobol.pattern_machine" 811)), none, (some (r 0))]⟩⟩
noncomputable def o518 (P : Params) : Obj := ⟨TU, none, (.seq ⟨[]⟩ 0), ⟨[]⟩⟩
noncomputable def o519 (P : Params) : Obj := ⟨N0, none, (.fields ⟨[]⟩), ⟨[]⟩⟩
noncomputable def o520 (P : Params) : Obj := ⟨TU, none, (.seq ⟨[(s "self" 881), (s "subject" 882), (s "host" 883)]⟩ 0), ⟨[]⟩⟩
noncomputable def o521 (P : Params) : Obj := ⟨TU, none, (.seq ⟨[]⟩ 0), ⟨[]⟩⟩
noncomputable def o522 (P : Params) : Obj := ⟨N0, none, (.func ⟨(S "__init__"), (S "Match.__init__"), fdA (sc 77 0), .stmts (fdB (sc 77 0)), fdS (sc 77 0), 0, [], N0, N0, N0, N0, none, N0, N0, 0⟩), ⟨[]⟩⟩
noncomputable def o523 (P : Params) : Obj := ⟨(VT "code"), none, (.fields ⟨[(s "__init__" 878), (s "Match.__init__" 879), (s "/claim/cut.py" 880), (vi 319 0), (vi 3 0), (vi 0 0), (vi 0 0), (vi 3 0), (r 461), (Value.bool true), (vi 181 0), (r 462), N0, (r 463), (r 464), (r 465), (vi 884 0), (vi 319 0), (s "/claim/cut.py" 885)]⟩), ⟨[]⟩⟩
noncomputable def o524 (P : Params) : Obj := ⟨(VT "function"), none, (.func ⟨(S "__init__"), (S "Match.__init__"), fdA (sc 77 0), .stmts (fdB (sc 77 0)), fdS (sc 77 0), 3, [], N0, N0, N0, (s "snobol.pattern_machine" 811), none, (r 466), N0, 0⟩), ⟨[]⟩⟩
noncomputable def o525 (P : Params) : Obj := ⟨TU, none, (.seq ⟨[]⟩ 0), ⟨[]⟩⟩
noncomputable def o526 (P : Params) : Obj := ⟨N0, none, (.fields ⟨[]⟩), ⟨[]⟩⟩
noncomputable def o527 (P : Params) : Obj := ⟨TU, none, (.seq ⟨[(s "self" 890), (s "orders" 891), (s "begin" 892), (s "way" 893), (s "order" 894)]⟩ 0), ⟨[]⟩⟩
noncomputable def o528 (P : Params) : Obj := ⟨TU, none, (.seq ⟨[]⟩ 0), ⟨[]⟩⟩
noncomputable def o529 (P : Params) : Obj := ⟨N0, none, (.func ⟨(S "run"), (S "Match.run"), fdA (sc 77 1), .stmts (fdB (sc 77 1)), fdS (sc 77 1), 0, [], N0, N0, N0, N0, none, N0, N0, 0⟩), ⟨[]⟩⟩
noncomputable def o530 (P : Params) : Obj := ⟨(VT "code"), none, (.fields ⟨[(s "run" 887), (s "Match.run" 888), (s "/claim/cut.py" 889), (vi 324 0), (vi 3 0), (vi 0 0), (vi 0 0), (vi 3 0), (r 468), (Value.bool true), (vi 181 0), (r 469), N0, (r 470), (r 471), (r 472), (vi 895 0), (vi 324 0), (s "/claim/cut.py" 896)]⟩), ⟨[]⟩⟩
noncomputable def o531 (P : Params) : Obj := ⟨(VT "function"), none, (.func ⟨(S "run"), (S "Match.run"), fdA (sc 77 1), .stmts (fdB (sc 77 1)), fdS (sc 77 1), 3, [], N0, N0, N0, (s "snobol.pattern_machine" 811), none, (r 473), N0, 0⟩), ⟨[]⟩⟩
noncomputable def o532 (P : Params) : Obj := ⟨TU, none, (.seq ⟨[]⟩ 0), ⟨[]⟩⟩
noncomputable def o533 (P : Params) : Obj := ⟨N0, none, (.fields ⟨[]⟩), ⟨[]⟩⟩
noncomputable def o534 (P : Params) : Obj := ⟨TU, none, (.seq ⟨[(s "self" 901)]⟩ 0), ⟨[]⟩⟩
noncomputable def o535 (P : Params) : Obj := ⟨TU, none, (.seq ⟨[]⟩ 0), ⟨[]⟩⟩
noncomputable def o536 (P : Params) : Obj := ⟨N0, none, (.func ⟨(S "way_back"), (S "Match.way_back"), fdA (sc 77 2), .stmts (fdB (sc 77 2)), fdS (sc 77 2), 0, [], N0, N0, N0, N0, none, N0, N0, 0⟩), ⟨[]⟩⟩
noncomputable def o537 (P : Params) : Obj := ⟨(VT "code"), none, (.fields ⟨[(s "way_back" 898), (s "Match.way_back" 899), (s "/claim/cut.py" 900), (vi 339 0), (vi 1 0), (vi 0 0), (vi 0 0), (vi 3 0), (r 475), (Value.bool true), (vi 181 0), (r 476), N0, (r 477), (r 478), (r 479), (vi 902 0), (vi 339 0), (s "/claim/cut.py" 903)]⟩), ⟨[]⟩⟩
noncomputable def o538 (P : Params) : Obj := ⟨(VT "function"), none, (.func ⟨(S "way_back"), (S "Match.way_back"), fdA (sc 77 2), .stmts (fdB (sc 77 2)), fdS (sc 77 2), 3, [], N0, N0, N0, (s "snobol.pattern_machine" 811), none, (r 480), N0, 0⟩), ⟨[]⟩⟩
noncomputable def o539 (P : Params) : Obj := ⟨TU, none, (.seq ⟨[]⟩ 0), ⟨[]⟩⟩
noncomputable def o540 (P : Params) : Obj := ⟨N0, none, (.fields ⟨[]⟩), ⟨[]⟩⟩
noncomputable def o541 (P : Params) : Obj := ⟨TU, none, (.seq ⟨[(s "self" 908), (s "order" 909), (s "way" 910), (s "word" 911)]⟩ 0), ⟨[]⟩⟩
noncomputable def o542 (P : Params) : Obj := ⟨TU, none, (.seq ⟨[]⟩ 0), ⟨[]⟩⟩
noncomputable def o543 (P : Params) : Obj := ⟨N0, none, (.func ⟨(S "done"), (S "Match.done"), fdA (sc 77 3), .stmts (fdB (sc 77 3)), fdS (sc 77 3), 0, [], N0, N0, N0, N0, none, N0, N0, 0⟩), ⟨[]⟩⟩
noncomputable def o544 (P : Params) : Obj := ⟨(VT "code"), none, (.fields ⟨[(s "done" 905), (s "Match.done" 906), (s "/claim/cut.py" 907), (vi 342 0), (vi 3 0), (vi 0 0), (vi 0 0), (vi 3 0), (r 482), (Value.bool true), (vi 181 0), (r 483), N0, (r 484), (r 485), (r 486), (vi 912 0), (vi 342 0), (s "/claim/cut.py" 913)]⟩), ⟨[]⟩⟩
noncomputable def o545 (P : Params) : Obj := ⟨(VT "function"), none, (.func ⟨(S "done"), (S "Match.done"), fdA (sc 77 3), .stmts (fdB (sc 77 3)), fdS (sc 77 3), 3, [], N0, N0, N0, (s "snobol.pattern_machine" 811), none, (r 487), N0, 0⟩), ⟨[]⟩⟩
noncomputable def o546 (P : Params) : Obj := ⟨TU, none, (.seq ⟨[]⟩ 0), ⟨[]⟩⟩
noncomputable def o547 (P : Params) : Obj := ⟨N0, none, (.fields ⟨[]⟩), ⟨[]⟩⟩
noncomputable def o548 (P : Params) : Obj := ⟨TU, none, (.seq ⟨[(s "self" 918), (s "order" 919), (s "way" 920), (s "told" 921), (s "node" 922), (s "end" 923)]⟩ 0), ⟨[]⟩⟩
noncomputable def o549 (P : Params) : Obj := ⟨TU, none, (.seq ⟨[]⟩ 0), ⟨[]⟩⟩
noncomputable def o550 (P : Params) : Obj := ⟨N0, none, (.func ⟨(S "met_once"), (S "Match.met_once"), fdA (sc 77 4), .stmts (fdB (sc 77 4)), fdS (sc 77 4), 0, [], N0, N0, N0, N0, none, N0, N0, 0⟩), ⟨[]⟩⟩
noncomputable def o551 (P : Params) : Obj := ⟨(VT "code"), none, (.fields ⟨[(s "met_once" 915), (s "Match.met_once" 916), (s "/claim/cut.py" 917), (vi 364 0), (vi 3 0), (vi 0 0), (vi 0 0), (vi 3 0), (r 489), (Value.bool true), (vi 181 0), (r 490), N0, (r 491), (r 492), (r 493), (vi 924 0), (vi 364 0), (s "/claim/cut.py" 925)]⟩), ⟨[]⟩⟩
noncomputable def o552 (P : Params) : Obj := ⟨(VT "function"), none, (.func ⟨(S "met_once"), (S "Match.met_once"), fdA (sc 77 4), .stmts (fdB (sc 77 4)), fdS (sc 77 4), 3, [], N0, N0, N0, (s "snobol.pattern_machine" 811), none, (r 494), N0, 0⟩), ⟨[]⟩⟩
noncomputable def o553 (P : Params) : Obj := ⟨TU, none, (.seq ⟨[]⟩ 0), ⟨[]⟩⟩
noncomputable def o554 (P : Params) : Obj := ⟨N0, none, (.fields ⟨[]⟩), ⟨[]⟩⟩
noncomputable def o555 (P : Params) : Obj := ⟨TU, none, (.seq ⟨[(s "self" 930), (s "order" 931), (s "way" 932), (s "marks" 933), (s "begin" 934), (s "text" 935)]⟩ 0), ⟨[]⟩⟩
noncomputable def o556 (P : Params) : Obj := ⟨TU, none, (.seq ⟨[]⟩ 0), ⟨[]⟩⟩
noncomputable def o557 (P : Params) : Obj := ⟨N0, none, (.func ⟨(S "ended"), (S "Match.ended"), fdA (sc 77 5), .stmts (fdB (sc 77 5)), fdS (sc 77 5), 0, [], N0, N0, N0, N0, none, N0, N0, 0⟩), ⟨[]⟩⟩
noncomputable def o558 (P : Params) : Obj := ⟨(VT "code"), none, (.fields ⟨[(s "ended" 927), (s "Match.ended" 928), (s "/claim/cut.py" 929), (vi 378 0), (vi 3 0), (vi 0 0), (vi 0 0), (vi 3 0), (r 496), (Value.bool true), (vi 181 0), (r 497), N0, (r 498), (r 499), (r 500), (vi 936 0), (vi 378 0), (s "/claim/cut.py" 937)]⟩), ⟨[]⟩⟩
noncomputable def o559 (P : Params) : Obj := ⟨(VT "function"), none, (.func ⟨(S "ended"), (S "Match.ended"), fdA (sc 77 5), .stmts (fdB (sc 77 5)), fdS (sc 77 5), 3, [], N0, N0, N0, (s "snobol.pattern_machine" 811), none, (r 501), N0, 0⟩), ⟨[]⟩⟩
noncomputable def o560 (P : Params) : Obj := ⟨TU, none, (.seq ⟨[]⟩ 0), ⟨[]⟩⟩
noncomputable def o561 (P : Params) : Obj := ⟨N0, none, (.fields ⟨[]⟩), ⟨[]⟩⟩
noncomputable def o562 (P : Params) : Obj := ⟨TU, none, (.seq ⟨[(s "self" 942), (s "order" 943), (s "way" 944), (s "word" 945)]⟩ 0), ⟨[]⟩⟩
noncomputable def o563 (P : Params) : Obj := ⟨TU, none, (.seq ⟨[]⟩ 0), ⟨[]⟩⟩
noncomputable def o564 (P : Params) : Obj := ⟨N0, none, (.func ⟨(S "other"), (S "Match.other"), fdA (sc 77 6), .stmts (fdB (sc 77 6)), fdS (sc 77 6), 0, [], N0, N0, N0, N0, none, N0, N0, 0⟩), ⟨[]⟩⟩
noncomputable def o565 (P : Params) : Obj := ⟨(VT "code"), none, (.fields ⟨[(s "other" 939), (s "Match.other" 940), (s "/claim/cut.py" 941), (vi 389 0), (vi 3 0), (vi 0 0), (vi 0 0), (vi 3 0), (r 503), (Value.bool true), (vi 181 0), (r 504), N0, (r 505), (r 506), (r 507), (vi 946 0), (vi 389 0), (s "/claim/cut.py" 947)]⟩), ⟨[]⟩⟩
noncomputable def o566 (P : Params) : Obj := ⟨(VT "function"), none, (.func ⟨(S "other"), (S "Match.other"), fdA (sc 77 6), .stmts (fdB (sc 77 6)), fdS (sc 77 6), 3, [], N0, N0, N0, (s "snobol.pattern_machine" 811), none, (r 508), N0, 0⟩), ⟨[]⟩⟩
noncomputable def o567 (P : Params) : Obj := ⟨TU, none, (.seq ⟨[]⟩ 0), ⟨[]⟩⟩
noncomputable def o568 (P : Params) : Obj := ⟨N0, none, (.fields ⟨[]⟩), ⟨[]⟩⟩
noncomputable def o569 (P : Params) : Obj := ⟨TU, none, (.seq ⟨[(s "self" 952), (s "way" 953), (s "ends" 954), (s "end" 955), (s "other" 956)]⟩ 0), ⟨[]⟩⟩
noncomputable def o570 (P : Params) : Obj := ⟨TU, none, (.seq ⟨[]⟩ 0), ⟨[]⟩⟩
noncomputable def o571 (P : Params) : Obj := ⟨N0, none, (.func ⟨(S "met_often"), (S "Match.met_often"), fdA (sc 77 7), .stmts (fdB (sc 77 7)), fdS (sc 77 7), 0, [], N0, N0, N0, N0, none, N0, N0, 0⟩), ⟨[]⟩⟩
noncomputable def o572 (P : Params) : Obj := ⟨(VT "code"), none, (.fields ⟨[(s "met_often" 949), (s "Match.met_often" 950), (s "/claim/cut.py" 951), (vi 407 0), (vi 3 0), (vi 0 0), (vi 0 0), (vi 3 0), (r 510), (Value.bool true), (vi 181 0), (r 511), N0, (r 512), (r 513), (r 514), (vi 957 0), (vi 407 0), (s "/claim/cut.py" 958)]⟩), ⟨[]⟩⟩
noncomputable def o573 (P : Params) : Obj := ⟨(VT "function"), none, (.func ⟨(S "met_often"), (S "Match.met_often"), fdA (sc 77 7), .stmts (fdB (sc 77 7)), fdS (sc 77 7), 3, [], N0, N0, N0, (s "snobol.pattern_machine" 811), none, (r 515), N0, 0⟩), ⟨[]⟩⟩
noncomputable def o574 (P : Params) : Obj := ⟨TU, none, (.seq ⟨[]⟩ 0), ⟨[]⟩⟩
noncomputable def o575 (P : Params) : Obj := ⟨N0, none, (.fields ⟨[]⟩), ⟨[]⟩⟩
noncomputable def o576 (P : Params) : Obj := ⟨TU, none, (.seq ⟨[(s "self" 963), (s "tree" 964), (s "way" 965), (s "value" 966)]⟩ 0), ⟨[]⟩⟩
noncomputable def o577 (P : Params) : Obj := ⟨TU, none, (.seq ⟨[]⟩ 0), ⟨[]⟩⟩
noncomputable def o578 (P : Params) : Obj := ⟨N0, none, (.func ⟨(S "asked"), (S "Match.asked"), fdA (sc 77 8), .stmts (fdB (sc 77 8)), fdS (sc 77 8), 0, [], N0, N0, N0, N0, none, N0, N0, 0⟩), ⟨[]⟩⟩
noncomputable def o579 (P : Params) : Obj := ⟨(VT "code"), none, (.fields ⟨[(s "asked" 960), (s "Match.asked" 961), (s "/claim/cut.py" 962), (vi 418 0), (vi 3 0), (vi 0 0), (vi 0 0), (vi 3 0), (r 517), (Value.bool true), (vi 181 0), (r 518), N0, (r 519), (r 520), (r 521), (vi 967 0), (vi 418 0), (s "/claim/cut.py" 968)]⟩), ⟨[]⟩⟩
noncomputable def o580 (P : Params) : Obj := ⟨(VT "function"), none, (.func ⟨(S "asked"), (S "Match.asked"), fdA (sc 77 8), .stmts (fdB (sc 77 8)), fdS (sc 77 8), 3, [], N0, N0, N0, (s "snobol.pattern_machine" 811), none, (r 522), N0, 0⟩), ⟨[]⟩⟩
noncomputable def o581 (P : Params) : Obj := ⟨TU, none, (.seq ⟨[(s "history" 970), (s "host" 971), (s "subject" 972)]⟩ 0), ⟨[]⟩⟩
noncomputable def o582 (P : Params) : Obj := ⟨(VT "dict"), none, (.dict ⟨[E P "__module__" 873 (s "snobol.pattern_machine" 811), E P "__firstlineno__" 877 (vi 317 876), E P "__init__" 886 (r 467), E P "run" 897 (r 474), E P "way_back" 904 (r 481), E P "done" 914 (r 488), E P "met_once" 926 (r 495), E P "ended" 938 (r 502), E P "other" 948 (r 509), E P "met_often" 959 (r 516), E P "asked" 969 (r 523), E P "__static_attributes__" 973 (r 524), E P "__dict__" 975 (r 527), E P "__weakref__" 977 (r 528), E P "__doc__" 978 N0]⟩ 4), ⟨[]⟩⟩
noncomputable def o583 (P : Params) : Obj := ⟨(VT "type"), none, (.cls ⟨(S "Match"), [(VT "object")], [(r 526), (VT "object")], 525, (S "Match"), true, [], [], false, none, false⟩), ⟨[none, none, (some (s "Match" 866)), (some (s "Match" 874)), (some (VB "object.__new__")), (some (Value.bool true))]⟩⟩
noncomputable def o584 (P : Params) : Obj := ⟨(VT "getset_descriptor"), none, (.fields ⟨[(s "__dict__" 974), (r 526), (VB "function.__dict__"), (VB "function.__dict__#set")]⟩), ⟨[]⟩⟩
noncomputable def o585 (P : Params) : Obj := ⟨(VT "getset_descriptor"), none, (.fields ⟨[(s "__weakref__" 976), (r 526), (VB "ExceptionGroup.__weakref__"), N0]⟩), ⟨[]⟩⟩
noncomputable def o586 (P : Params) : Obj := ⟨(VT "super"), none, (.fields ⟨[(r 526), (r 526), (r 526)]⟩), ⟨[]⟩⟩
noncomputable def o587 (P : Params) : Obj := ⟨(VT "builtin_function_or_method"), none, (.fields ⟨[(VB "object.__init_subclass__"), (r 526)]⟩), ⟨[]⟩⟩
noncomputable def o588 (P : Params) : Obj := ⟨(VT "dict"), none, (.dict ⟨[E P "__name__" 165 (s "snobol.hosts" 1013), E P "__doc__" 166 N0, E P "__package__" 167 N0, E P "__loader__" 168 (VB "__main__.__loader__#opaque"), E P "__spec__" 169 N0, E P "__annotations__" 170 (r 6), E P "__builtins__" 171 (r 4), E P "__file__" 173 (s "/claim/cut.py" 172), E P "__cached__" 174 N0, E P "ONE" 190 (s "one" 189), E P "WAYS" 192 (s "ways" 191), E P "SPLIT" 194 (s "split" 193), E P "JUMP" 196 (s "jump" 195), E P "MARK" 198 (s "mark" 197), E P "NAME" 200 (s "name" 199), E P "SET" 202 (s "set" 201), E P "GAIN" 204 (s "gain" 203), E P "PLACE" 206 (s "place" 205), E P "ASK" 208 (s "ask" 207), E P "FENCE" 210 (s "fence" 209), E P "FAIL" 212 (s "fail" 211), E P "ABORT" 214 (s "abort" 213), E P "SUCCEED" 216 (s "succeed" 215), E P "DONE" 218 (s "done" 217), E P "PUT" 220 (s "put" 219), E P "EMIT" 222 (s "emit" 221), E P "OPEN" 224 (s "open" 223), E P "SHUT" 226 (s "shut" 225), E P "MEET" 228 (s "meet" 227), E P "SINGLE" 240 (r 15), E P "ALONE" 245 (r 16), E P "row_of" 256 (r 23), E P "is_plain_text" 263 (r 30), E P "with_texts_joined" 272 (r 37), E P "PatternCode" 356 (r 94), E P "straightened" 366 (r 105), E P "compile_pattern" 374 (r 112), E P "SnobolError" 410 (r 132), E P "Failure" 430 (r 145), E P "Pattern" 459 (r 166), E P "Delayed" 488 (r 187), E P "NameRef" 521 (r 208), E P "is_fail" 528 (r 219), E P "fits" 536 (r 226), E P "whole_of_text" 547 (r 233), E P "text_of_whole" 556 (r 240), E P "to_whole" 564 (r 247), E P "to_text" 571 (r 254), E P "need_text" 579 (r 261), E P "COUNTED" 587 (r 262), E P "SIGNED" 592 (r 263), E P "WIDTH_OF_COUNT" 594 (vi 64 593), E P "plain_count" 604 (r 271), E P "plain_signs" 613 (r 278), E P "pattern_of" 621 (r 285), E P "is_delayed" 628 (r 292), E P "settled" 637 (r 299), E P "OPENING" 641 (s "(" 640), E P "CLOSING" 643 (s ")" 642), E P "chars_end" 653 (r 306), E P "len_end" 662 (r 313), E P "pos_end" 670 (r 320), E P "rpos_end" 679 (r 327), E P "tab_end" 688 (r 334), E P "rtab_end" 698 (r 341), E P "rem_end" 705 (r 348), E P "any_at" 714 (r 355), E P "notany_at" 723 (r 362), E P "run_end" 733 (r 369), E P "span_end" 743 (r 376), E P "break_end" 753 (r 383), E P "arb_ends" 761 (r 390), E P "bal_end" 770 (r 397), E P "bal_ends" 780 (r 404), E P "one_end" 790 (r 411), E P "plain_end" 799 (r 418), E P "ends_of" 810 (r 425), E P "MET" 814 (vi 0 813), E P "FAILED" 816 (vi 1 815), E P "OVER" 818 (vi 2 817), E P "Way" 865 (r 449), E P "Match" 980 (r 526), E P "named_rows" 989 (r 537), E P "match_orders" 1002 (r 544), E P "match_compiled" 1012 (r 551)]⟩ 85), ⟨[]⟩⟩
noncomputable def o589 (P : Params) : Obj := ⟨N0, none, (.fields ⟨[(vi 24 0), (vi 0 0), (r 22), (vi 33 0), (vi 0 0), (r 29), (vi 35 0), (vi 0 0), (r 36), (vi 45 0), (vi 0 0), (r 43), (vi 106 0), (vi 0 0), (r 104), (vi 116 0), (vi 0 0), (r 111), (vi 122 0), (vi 0 0), (r 119), (vi 128 0), (vi 0 0), (r 141), (vi 130 0), (vi 0 0), (r 155), (vi 134 0), (vi 0 0), (r 176), (vi 138 0), (vi 0 0), (r 197), (vi 144 0), (vi 0 0), (r 218), (vi 146 0), (vi 0 0), (r 225), (vi 148 0), (vi 0 0), (r 232), (vi 161 0), (vi 0 0), (r 239), (vi 167 0), (vi 0 0), (r 246), (vi 171 0), (vi 0 0), (r 253), (vi 175 0), (vi 0 0), (r 260), (vi 184 0), (vi 0 0), (r 270), (vi 191 0), (vi 0 0), (r 277), (vi 196 0), (vi 0 0), (r 284), (vi 205 0), (vi 0 0), (r 291), (vi 207 0), (vi 0 0), (r 298), (vi 219 0), (vi 0 0), (r 305), (vi 222 0), (vi 0 0), (r 312), (vi 224 0), (vi 0 0), (r 319), (vi 226 0), (vi 0 0), (r 326), (vi 228 0), (vi 0 0), (r 333), (vi 230 0), (vi 0 0), (r 340), (vi 233 0), (vi 0 0), (r 347), (vi 235 0), (vi 0 0), (r 354), (vi 237 0), (vi 0 0), (r 361), (vi 239 0), (vi 0 0), (r 368), (vi 243 0), (vi 0 0), (r 375), (vi 246 0), (vi 0 0), (r 382), (vi 249 0), (vi 0 0), (r 389), (vi 251 0), (vi 0 0), (r 396), (vi 264 0), (vi 0 0), (r 403), (vi 270 0), (vi 0 0), (r 410), (vi 290 0), (vi 0 0), (r 417), (vi 292 0), (vi 0 0), (r 424), (vi 305 0), (vi 0 0), (r 431), (vi 317 0), (vi 0 0), (r 459), (vi 425 0), (vi 0 0), (r 536), (vi 432 0), (vi 0 0), (r 543), (vi 440 0), (vi 0 0), (r 550)]⟩), ⟨[]⟩⟩
noncomputable def o590 (P : Params) : Obj := ⟨TU, none, (.seq ⟨[]⟩ 0), ⟨[]⟩⟩
noncomputable def o591 (P : Params) : Obj := ⟨N0, none, (.fields ⟨[]⟩), ⟨[]⟩⟩
noncomputable def o592 (P : Params) : Obj := ⟨TU, none, (.seq ⟨[(s "named" 984), (s "found" 985), (s "last" 986)]⟩ 0), ⟨[]⟩⟩
noncomputable def o593 (P : Params) : Obj := ⟨TU, none, (.seq ⟨[]⟩ 0), ⟨[]⟩⟩
noncomputable def o594 (P : Params) : Obj := ⟨N0, none, (.func ⟨(S "named_rows"), (S "named_rows"), fdA (st 78), .stmts (fdB (st 78)), fdS (st 78), 0, [], N0, N0, N0, N0, none, N0, N0, 0⟩), ⟨[]⟩⟩
noncomputable def o595 (P : Params) : Obj := ⟨(VT "code"), none, (.fields ⟨[(s "named_rows" 981), (s "named_rows" 982), (s "/claim/cut.py" 983), (vi 425 0), (vi 1 0), (vi 0 0), (vi 0 0), (vi 3 0), (r 531), (Value.bool true), (vi 181 0), (r 532), N0, (r 533), (r 534), (r 535), (vi 987 0), (vi 425 0), (s "/claim/cut.py" 988)]⟩), ⟨[]⟩⟩
noncomputable def o596 (P : Params) : Obj := ⟨(VT "function"), none, (.func ⟨(S "named_rows"), (S "named_rows"), fdA (st 78), .stmts (fdB (st 78)), fdS (st 78), 3, [], N0, N0, N0, (s "snobol.pattern_machine" 811), none, (r 536), N0, 0⟩), ⟨[]⟩⟩
noncomputable def o597 (P : Params) : Obj := ⟨TU, none, (.seq ⟨[]⟩ 0), ⟨[]⟩⟩
noncomputable def o598 (P : Params) : Obj := ⟨N0, none, (.fields ⟨[]⟩), ⟨[]⟩⟩
noncomputable def o599 (P : Params) : Obj := ⟨TU, none, (.seq ⟨[(s "orders" 993), (s "subject" 994), (s "is_anchored" 995), (s "host" 996), (s "begin" 997), (s "how" 998), (s "way" 999)]⟩ 0), ⟨[]⟩⟩
noncomputable def o600 (P : Params) : Obj := ⟨TU, none, (.seq ⟨[]⟩ 0), ⟨[]⟩⟩
noncomputable def o601 (P : Params) : Obj := ⟨N0, none, (.func ⟨(S "match_orders"), (S "match_orders"), fdA (st 79), .stmts (fdB (st 79)), fdS (st 79), 0, [], N0, N0, N0, N0, none, N0, N0, 0⟩), ⟨[]⟩⟩
noncomputable def o602 (P : Params) : Obj := ⟨(VT "code"), none, (.fields ⟨[(s "match_orders" 990), (s "match_orders" 991), (s "/claim/cut.py" 992), (vi 432 0), (vi 4 0), (vi 0 0), (vi 0 0), (vi 3 0), (r 538), (Value.bool true), (vi 181 0), (r 539), N0, (r 540), (r 541), (r 542), (vi 1000 0), (vi 432 0), (s "/claim/cut.py" 1001)]⟩), ⟨[]⟩⟩
noncomputable def o603 (P : Params) : Obj := ⟨(VT "function"), none, (.func ⟨(S "match_orders"), (S "match_orders"), fdA (st 79), .stmts (fdB (st 79)), fdS (st 79), 3, [], N0, N0, N0, (s "snobol.pattern_machine" 811), none, (r 543), N0, 0⟩), ⟨[]⟩⟩
noncomputable def o604 (P : Params) : Obj := ⟨TU, none, (.seq ⟨[]⟩ 0), ⟨[]⟩⟩
noncomputable def o605 (P : Params) : Obj := ⟨N0, none, (.fields ⟨[]⟩), ⟨[]⟩⟩
noncomputable def o606 (P : Params) : Obj := ⟨TU, none, (.seq ⟨[(s "node" 1006), (s "subject" 1007), (s "is_anchored" 1008), (s "host" 1009)]⟩ 0), ⟨[]⟩⟩
noncomputable def o607 (P : Params) : Obj := ⟨TU, none, (.seq ⟨[]⟩ 0), ⟨[]⟩⟩
noncomputable def o608 (P : Params) : Obj := ⟨N0, none, (.func ⟨(S "match_compiled"), (S "match_compiled"), fdA (st 80), .stmts (fdB (st 80)), fdS (st 80), 0, [], N0, N0, N0, N0, none, N0, N0, 0⟩), ⟨[]⟩⟩
noncomputable def o609 (P : Params) : Obj := ⟨(VT "code"), none, (.fields ⟨[(s "match_compiled" 1003), (s "match_compiled" 1004), (s "/claim/cut.py" 1005), (vi 440 0), (vi 4 0), (vi 0 0), (vi 0 0), (vi 3 0), (r 545), (Value.bool true), (vi 181 0), (r 546), N0, (r 547), (r 548), (r 549), (vi 1010 0), (vi 440 0), (s "/claim/cut.py" 1011)]⟩), ⟨[]⟩⟩
noncomputable def o610 (P : Params) : Obj := ⟨(VT "function"), none, (.func ⟨(S "match_compiled"), (S "match_compiled"), fdA (st 80), .stmts (fdB (st 80)), fdS (st 80), 3, [], N0, N0, N0, (s "snobol.pattern_machine" 811), none, (r 550), N0, 0⟩), ⟨[]⟩⟩
noncomputable def o611 (P : Params) : Obj := ⟨(VT "dict"), none, (.dict ⟨[E P "__name__" 165 (s "snobol.trial" 1075), E P "__doc__" 166 N0, E P "__package__" 167 N0, E P "__loader__" 168 (VB "__main__.__loader__#opaque"), E P "__spec__" 169 N0, E P "__annotations__" 170 (r 6), E P "__builtins__" 171 (r 4), E P "__file__" 173 (s "/claim/cut.py" 172), E P "__cached__" 174 N0, E P "ONE" 190 (s "one" 189), E P "WAYS" 192 (s "ways" 191), E P "SPLIT" 194 (s "split" 193), E P "JUMP" 196 (s "jump" 195), E P "MARK" 198 (s "mark" 197), E P "NAME" 200 (s "name" 199), E P "SET" 202 (s "set" 201), E P "GAIN" 204 (s "gain" 203), E P "PLACE" 206 (s "place" 205), E P "ASK" 208 (s "ask" 207), E P "FENCE" 210 (s "fence" 209), E P "FAIL" 212 (s "fail" 211), E P "ABORT" 214 (s "abort" 213), E P "SUCCEED" 216 (s "succeed" 215), E P "DONE" 218 (s "done" 217), E P "PUT" 220 (s "put" 219), E P "EMIT" 222 (s "emit" 221), E P "OPEN" 224 (s "open" 223), E P "SHUT" 226 (s "shut" 225), E P "MEET" 228 (s "meet" 227), E P "SINGLE" 240 (r 15), E P "ALONE" 245 (r 16), E P "row_of" 256 (r 23), E P "is_plain_text" 263 (r 30), E P "with_texts_joined" 272 (r 37), E P "PatternCode" 356 (r 94), E P "straightened" 366 (r 105), E P "compile_pattern" 374 (r 112), E P "SnobolError" 410 (r 132), E P "Failure" 430 (r 145), E P "Pattern" 459 (r 166), E P "Delayed" 488 (r 187), E P "NameRef" 521 (r 208), E P "is_fail" 528 (r 219), E P "fits" 536 (r 226), E P "whole_of_text" 547 (r 233), E P "text_of_whole" 556 (r 240), E P "to_whole" 564 (r 247), E P "to_text" 571 (r 254), E P "need_text" 579 (r 261), E P "COUNTED" 587 (r 262), E P "SIGNED" 592 (r 263), E P "WIDTH_OF_COUNT" 594 (vi 64 593), E P "plain_count" 604 (r 271), E P "plain_signs" 613 (r 278), E P "pattern_of" 621 (r 285), E P "is_delayed" 628 (r 292), E P "settled" 637 (r 299), E P "OPENING" 641 (s "(" 640), E P "CLOSING" 643 (s ")" 642), E P "chars_end" 653 (r 306), E P "len_end" 662 (r 313), E P "pos_end" 670 (r 320), E P "rpos_end" 679 (r 327), E P "tab_end" 688 (r 334), E P "rtab_end" 698 (r 341), E P "rem_end" 705 (r 348), E P "any_at" 714 (r 355), E P "notany_at" 723 (r 362), E P "run_end" 733 (r 369), E P "span_end" 743 (r 376), E P "break_end" 753 (r 383), E P "arb_ends" 761 (r 390), E P "bal_end" 770 (r 397), E P "bal_ends" 780 (r 404), E P "one_end" 790 (r 411), E P "plain_end" 799 (r 418), E P "ends_of" 810 (r 425), E P "MET" 814 (vi 0 813), E P "FAILED" 816 (vi 1 815), E P "OVER" 818 (vi 2 817), E P "Way" 865 (r 449), E P "Match" 980 (r 526), E P "named_rows" 989 (r 537), E P "match_orders" 1002 (r 544), E P "match_compiled" 1012 (r 551), E P "PlainHost" 1074 (r 589), E P "LOST" 1078 (s "lost" 1077), E P "match_plain" 1090 (r 600)]⟩ 88), ⟨[]⟩⟩
noncomputable def o612 (P : Params) : Obj := ⟨N0, none, (.fields ⟨[(vi 24 0), (vi 0 0), (r 22), (vi 33 0), (vi 0 0), (r 29), (vi 35 0), (vi 0 0), (r 36), (vi 45 0), (vi 0 0), (r 43), (vi 106 0), (vi 0 0), (r 104), (vi 116 0), (vi 0 0), (r 111), (vi 122 0), (vi 0 0), (r 119), (vi 128 0), (vi 0 0), (r 141), (vi 130 0), (vi 0 0), (r 155), (vi 134 0), (vi 0 0), (r 176), (vi 138 0), (vi 0 0), (r 197), (vi 144 0), (vi 0 0), (r 218), (vi 146 0), (vi 0 0), (r 225), (vi 148 0), (vi 0 0), (r 232), (vi 161 0), (vi 0 0), (r 239), (vi 167 0), (vi 0 0), (r 246), (vi 171 0), (vi 0 0), (r 253), (vi 175 0), (vi 0 0), (r 260), (vi 184 0), (vi 0 0), (r 270), (vi 191 0), (vi 0 0), (r 277), (vi 196 0), (vi 0 0), (r 284), (vi 205 0), (vi 0 0), (r 291), (vi 207 0), (vi 0 0), (r 298), (vi 219 0), (vi 0 0), (r 305), (vi 222 0), (vi 0 0), (r 312), (vi 224 0), (vi 0 0), (r 319), (vi 226 0), (vi 0 0), (r 326), (vi 228 0), (vi 0 0), (r 333), (vi 230 0), (vi 0 0), (r 340), (vi 233 0), (vi 0 0), (r 347), (vi 235 0), (vi 0 0), (r 354), (vi 237 0), (vi 0 0), (r 361), (vi 239 0), (vi 0 0), (r 368), (vi 243 0), (vi 0 0), (r 375), (vi 246 0), (vi 0 0), (r 382), (vi 249 0), (vi 0 0), (r 389), (vi 251 0), (vi 0 0), (r 396), (vi 264 0), (vi 0 0), (r 403), (vi 270 0), (vi 0 0), (r 410), (vi 290 0), (vi 0 0), (r 417), (vi 292 0), (vi 0 0), (r 424), (vi 305 0), (vi 0 0), (r 431), (vi 317 0), (vi 0 0), (r 459), (vi 425 0), (vi 0 0), (r 536), (vi 432 0), (vi 0 0), (r 543), (vi 440 0), (vi 0 0), (r 550), (vi 443 0), (vi 0 0), (r 557), (vi 471 0), (vi 0 0), (r 599)]⟩), ⟨[]⟩⟩
noncomputable def o613 (P : Params) : Obj := ⟨TU, none, (.seq ⟨[]⟩ 0), ⟨[]⟩⟩
noncomputable def o614 (P : Params) : Obj := ⟨(VT "builtin_function_or_method"), none, (.fields ⟨[(VB "type.__prepare__"), (VT "type")]⟩), ⟨[]⟩⟩
noncomputable def o615 (P : Params) : Obj := ⟨(VT "dict"), none, (.dict ⟨[E P "__module__" 1022 (s "snobol.hosts" 1013), E P "__qualname__" 1024 (s "PlainHost" 1023), E P "__firstlineno__" 1026 (vi 443 1025), E P "__init__" 1036 (r 565), E P "value_of" 1044 (r 572), E P "assign" 1053 (r 579), E P "step" 1060 (r 586), E P "__static_attributes__" 1067 (r 587)]⟩ 8), ⟨[]⟩⟩
noncomputable def o616 (P : Params) : Obj := ⟨TU, none, (.seq ⟨[]⟩ 0), ⟨[]⟩⟩
noncomputable def o617 (P : Params) : Obj := ⟨N0, none, (.fields ⟨[(vi 445 0), (vi 4 0), (r 564), (vi 453 0), (vi 4 0), (r 571), (vi 458 0), (vi 4 0), (r 578), (vi 465 0), (vi 4 0), (r 585)]⟩), ⟨[]⟩⟩
noncomputable def o618 (P : Params) : Obj := ⟨(VT "code"), none, (.fields ⟨[(s "PlainHost" 1017), (s "PlainHost" 1018), (s "/claim/cut.py" 1019), (vi 443 0), (vi 0 0), (vi 0 0), (vi 0 0), (vi 0 0), (r 555), (Value.bool false), (vi 181 0), (r 556), N0, N0, N0, N0, (vi 1020 0), (vi 443 0), (s "/claim/cut.py" 1021)]⟩), ⟨[]⟩⟩
noncomputable def o619 (P : Params) : Obj := ⟨(VT "frame"), none, Data.plain, ⟨[(some (r 557)), (some (r 3)), (some (r 554)), none, (some (s "snobol.hosts" 1013)), none, (some (r 0))]⟩⟩
noncomputable def o620 (P : Params) : Obj := ⟨TU, none, (.seq ⟨[]⟩ 0), ⟨[]⟩⟩
noncomputable def o621 (P : Params) : Obj := ⟨N0, none, (.fields ⟨[]⟩), ⟨[]⟩⟩
noncomputable def o622 (P : Params) : Obj := ⟨TU, none, (.seq ⟨[(s "self" 1030), (s "values" 1031), (s "limit" 1032), (s "refused" 1033)]⟩ 0), ⟨[]⟩⟩
noncomputable def o623 (P : Params) : Obj := ⟨TU, none, (.seq ⟨[]⟩ 0), ⟨[]⟩⟩
noncomputable def o624 (P : Params) : Obj := ⟨N0, none, (.func ⟨(S "__init__"), (S "PlainHost.__init__"), fdA (sc 82 0), .stmts (fdB (sc 82 0)), fdS (sc 82 0), 0, [], N0, N0, N0, N0, none, N0, N0, 0⟩), ⟨[]⟩⟩
noncomputable def o625 (P : Params) : Obj := ⟨(VT "code"), none, (.fields ⟨[(s "__init__" 1027), (s "PlainHost.__init__" 1028), (s "/claim/cut.py" 1029), (vi 445 0), (vi 4 0), (vi 0 0), (vi 0 0), (vi 3 0), (r 559), (Value.bool true), (vi 181 0), (r 560), N0, (r 561), (r 562), (r 563), (vi 1034 0), (vi 445 0), (s "/claim/cut.py" 1035)]⟩), ⟨[]⟩⟩
noncomputable def o626 (P : Params) : Obj := ⟨(VT "function"), none, (.func ⟨(S "__init__"), (S "PlainHost.__init__"), fdA (sc 82 0), .stmts (fdB (sc 82 0)), fdS (sc 82 0), 3, [], N0, N0, N0, (s "snobol.hosts" 1013), none, (r 564), N0, 0⟩), ⟨[]⟩⟩
noncomputable def o627 (P : Params) : Obj := ⟨TU, none, (.seq ⟨[]⟩ 0), ⟨[]⟩⟩
noncomputable def o628 (P : Params) : Obj := ⟨N0, none, (.fields ⟨[]⟩), ⟨[]⟩⟩
noncomputable def o629 (P : Params) : Obj := ⟨TU, none, (.seq ⟨[(s "self" 1040), (s "tree" 1041)]⟩ 0), ⟨[]⟩⟩
noncomputable def o630 (P : Params) : Obj := ⟨TU, none, (.seq ⟨[]⟩ 0), ⟨[]⟩⟩
noncomputable def o631 (P : Params) : Obj := ⟨N0, none, (.func ⟨(S "value_of"), (S "PlainHost.value_of"), fdA (sc 82 1), .stmts (fdB (sc 82 1)), fdS (sc 82 1), 0, [], N0, N0, N0, N0, none, N0, N0, 0⟩), ⟨[]⟩⟩
noncomputable def o632 (P : Params) : Obj := ⟨(VT "code"), none, (.fields ⟨[(s "value_of" 1037), (s "PlainHost.value_of" 1038), (s "/claim/cut.py" 1039), (vi 453 0), (vi 2 0), (vi 0 0), (vi 0 0), (vi 3 0), (r 566), (Value.bool true), (vi 181 0), (r 567), N0, (r 568), (r 569), (r 570), (vi 1042 0), (vi 453 0), (s "/claim/cut.py" 1043)]⟩), ⟨[]⟩⟩
noncomputable def o633 (P : Params) : Obj := ⟨(VT "function"), none, (.func ⟨(S "value_of"), (S "PlainHost.value_of"), fdA (sc 82 1), .stmts (fdB (sc 82 1)), fdS (sc 82 1), 3, [], N0, N0, N0, (s "snobol.hosts" 1013), none, (r 571), N0, 0⟩), ⟨[]⟩⟩
noncomputable def o634 (P : Params) : Obj := ⟨TU, none, (.seq ⟨[]⟩ 0), ⟨[]⟩⟩
noncomputable def o635 (P : Params) : Obj := ⟨N0, none, (.fields ⟨[]⟩), ⟨[]⟩⟩
noncomputable def o636 (P : Params) : Obj := ⟨TU, none, (.seq ⟨[(s "self" 1048), (s "ref" 1049), (s "value" 1050)]⟩ 0), ⟨[]⟩⟩
noncomputable def o637 (P : Params) : Obj := ⟨TU, none, (.seq ⟨[]⟩ 0), ⟨[]⟩⟩
noncomputable def o638 (P : Params) : Obj := ⟨N0, none, (.func ⟨(S "assign"), (S "PlainHost.assign"), fdA (sc 82 2), .stmts (fdB (sc 82 2)), fdS (sc 82 2), 0, [], N0, N0, N0, N0, none, N0, N0, 0⟩), ⟨[]⟩⟩
noncomputable def o639 (P : Params) : Obj := ⟨(VT "code"), none, (.fields ⟨[(s "assign" 1045), (s "PlainHost.assign" 1046), (s "/claim/cut.py" 1047), (vi 458 0), (vi 3 0), (vi 0 0), (vi 0 0), (vi 3 0), (r 573), (Value.bool true), (vi 181 0), (r 574), N0, (r 575), (r 576), (r 577), (vi 1051 0), (vi 458 0), (s "/claim/cut.py" 1052)]⟩), ⟨[]⟩⟩
noncomputable def o640 (P : Params) : Obj := ⟨(VT "function"), none, (.func ⟨(S "assign"), (S "PlainHost.assign"), fdA (sc 82 2), .stmts (fdB (sc 82 2)), fdS (sc 82 2), 3, [], N0, N0, N0, (s "snobol.hosts" 1013), none, (r 578), N0, 0⟩), ⟨[]⟩⟩
noncomputable def o641 (P : Params) : Obj := ⟨TU, none, (.seq ⟨[]⟩ 0), ⟨[]⟩⟩
noncomputable def o642 (P : Params) : Obj := ⟨N0, none, (.fields ⟨[]⟩), ⟨[]⟩⟩
noncomputable def o643 (P : Params) : Obj := ⟨TU, none, (.seq ⟨[(s "self" 1057)]⟩ 0), ⟨[]⟩⟩
noncomputable def o644 (P : Params) : Obj := ⟨TU, none, (.seq ⟨[]⟩ 0), ⟨[]⟩⟩
noncomputable def o645 (P : Params) : Obj := ⟨N0, none, (.func ⟨(S "step"), (S "PlainHost.step"), fdA (sc 82 3), .stmts (fdB (sc 82 3)), fdS (sc 82 3), 0, [], N0, N0, N0, N0, none, N0, N0, 0⟩), ⟨[]⟩⟩
noncomputable def o646 (P : Params) : Obj := ⟨(VT "code"), none, (.fields ⟨[(s "step" 1054), (s "PlainHost.step" 1055), (s "/claim/cut.py" 1056), (vi 465 0), (vi 1 0), (vi 0 0), (vi 0 0), (vi 3 0), (r 580), (Value.bool true), (vi 181 0), (r 581), N0, (r 582), (r 583), (r 584), (vi 1058 0), (vi 465 0), (s "/claim/cut.py" 1059)]⟩), ⟨[]⟩⟩
noncomputable def o647 (P : Params) : Obj := ⟨(VT "function"), none, (.func ⟨(S "step"), (S "PlainHost.step"), fdA (sc 82 3), .stmts (fdB (sc 82 3)), fdS (sc 82 3), 3, [], N0, N0, N0, (s "snobol.hosts" 1013), none, (r 585), N0, 0⟩), ⟨[]⟩⟩
noncomputable def o648 (P : Params) : Obj := ⟨TU, none, (.seq ⟨[(s "limit" 1061), (s "log" 1062), (s "refused" 1063), (s "steps" 1064), (s "values" 1065), (s "width" 1066)]⟩ 0), ⟨[]⟩⟩
noncomputable def o649 (P : Params) : Obj := ⟨(VT "dict"), none, (.dict ⟨[E P "__module__" 1022 (s "snobol.hosts" 1013), E P "__firstlineno__" 1026 (vi 443 1025), E P "__init__" 1036 (r 565), E P "value_of" 1044 (r 572), E P "assign" 1053 (r 579), E P "step" 1060 (r 586), E P "__static_attributes__" 1067 (r 587), E P "__dict__" 1069 (r 590), E P "__weakref__" 1071 (r 591), E P "__doc__" 1072 N0]⟩ 4), ⟨[]⟩⟩
noncomputable def o650 (P : Params) : Obj := ⟨(VT "type"), none, (.cls ⟨(S "PlainHost"), [(VT "object")], [(r 589), (VT "object")], 588, (S "PlainHost"), true, [], [], false, none, false⟩), ⟨[none, none, (some (s "PlainHost" 1015)), (some (s "PlainHost" 1023)), (some (VB "object.__new__")), (some (Value.bool true))]⟩⟩
noncomputable def o651 (P : Params) : Obj := ⟨(VT "getset_descriptor"), none, (.fields ⟨[(s "__dict__" 1068), (r 589), (VB "function.__dict__"), (VB "function.__dict__#set")]⟩), ⟨[]⟩⟩
noncomputable def o652 (P : Params) : Obj := ⟨(VT "getset_descriptor"), none, (.fields ⟨[(s "__weakref__" 1070), (r 589), (VB "ExceptionGroup.__weakref__"), N0]⟩), ⟨[]⟩⟩
noncomputable def o653 (P : Params) : Obj := ⟨(VT "super"), none, (.fields ⟨[(r 589), (r 589), (r 589)]⟩), ⟨[]⟩⟩
noncomputable def o654 (P : Params) : Obj := ⟨(VT "builtin_function_or_method"), none, (.fields ⟨[(VB "object.__init_subclass__"), (r 589)]⟩), ⟨[]⟩⟩
noncomputable def o655 (P : Params) : Obj := ⟨TU, none, (.seq ⟨[]⟩ 0), ⟨[]⟩⟩
noncomputable def o656 (P : Params) : Obj := ⟨N0, none, (.fields ⟨[]⟩), ⟨[]⟩⟩
noncomputable def o657 (P : Params) : Obj := ⟨TU, none, (.seq ⟨[(s "node" 1082), (s "subject" 1083), (s "is_anchored" 1084), (s "host" 1085), (s "begin" 1086), (s "found" 1087)]⟩ 0), ⟨[]⟩⟩
noncomputable def o658 (P : Params) : Obj := ⟨TU, none, (.seq ⟨[]⟩ 0), ⟨[]⟩⟩
noncomputable def o659 (P : Params) : Obj := ⟨N0, none, (.func ⟨(S "match_plain"), (S "match_plain"), fdA (st 85), .stmts (fdB (st 85)), fdS (st 85), 0, [], N0, N0, N0, N0, none, N0, N0, 0⟩), ⟨[]⟩⟩
noncomputable def o660 (P : Params) : Obj := ⟨(VT "code"), none, (.fields ⟨[(s "match_plain" 1079), (s "match_plain" 1080), (s "/claim/cut.py" 1081), (vi 471 0), (vi 4 0), (vi 0 0), (vi 0 0), (vi 3 0), (r 594), (Value.bool true), (vi 181 0), (r 595), N0, (r 596), (r 597), (r 598), (vi 1088 0), (vi 471 0), (s "/claim/cut.py" 1089)]⟩), ⟨[]⟩⟩
noncomputable def o661 (P : Params) : Obj := ⟨(VT "function"), none, (.func ⟨(S "match_plain"), (S "match_plain"), fdA (st 85), .stmts (fdB (st 85)), fdS (st 85), 3, [], N0, N0, N0, (s "snobol.trial" 1075), none, (r 599), N0, 0⟩), ⟨[]⟩⟩
noncomputable def o662 (P : Params) : Obj := ⟨(VT "dict"), none, (.dict ⟨[E P "__name__" 165 (s "law_sa0605_04" 1190), E P "__doc__" 166 N0, E P "__package__" 167 N0, E P "__loader__" 168 (VB "__main__.__loader__#opaque"), E P "__spec__" 169 N0, E P "__annotations__" 170 (r 6), E P "__builtins__" 171 (r 4), E P "__file__" 173 (s "/claim/cut.py" 172), E P "__cached__" 174 N0, E P "ONE" 190 (s "one" 189), E P "WAYS" 192 (s "ways" 191), E P "SPLIT" 194 (s "split" 193), E P "JUMP" 196 (s "jump" 195), E P "MARK" 198 (s "mark" 197), E P "NAME" 200 (s "name" 199), E P "SET" 202 (s "set" 201), E P "GAIN" 204 (s "gain" 203), E P "PLACE" 206 (s "place" 205), E P "ASK" 208 (s "ask" 207), E P "FENCE" 210 (s "fence" 209), E P "FAIL" 212 (s "fail" 211), E P "ABORT" 214 (s "abort" 213), E P "SUCCEED" 216 (s "succeed" 215), E P "DONE" 218 (s "done" 217), E P "PUT" 220 (s "put" 219), E P "EMIT" 222 (s "emit" 221), E P "OPEN" 224 (s "open" 223), E P "SHUT" 226 (s "shut" 225), E P "MEET" 228 (s "meet" 227), E P "SINGLE" 240 (r 15), E P "ALONE" 245 (r 16), E P "row_of" 256 (r 23), E P "is_plain_text" 263 (r 30), E P "with_texts_joined" 272 (r 37), E P "PatternCode" 356 (r 94), E P "straightened" 366 (r 105), E P "compile_pattern" 374 (r 112), E P "SnobolError" 410 (r 132), E P "Failure" 430 (r 145), E P "Pattern" 459 (r 166), E P "Delayed" 488 (r 187), E P "NameRef" 521 (r 208), E P "is_fail" 528 (r 219), E P "fits" 536 (r 226), E P "whole_of_text" 547 (r 233), E P "text_of_whole" 556 (r 240), E P "to_whole" 564 (r 247), E P "to_text" 571 (r 254), E P "need_text" 579 (r 261), E P "COUNTED" 587 (r 262), E P "SIGNED" 592 (r 263), E P "WIDTH_OF_COUNT" 594 (vi 64 593), E P "plain_count" 604 (r 271), E P "plain_signs" 613 (r 278), E P "pattern_of" 621 (r 285), E P "is_delayed" 628 (r 292), E P "settled" 637 (r 299), E P "OPENING" 641 (s "(" 640), E P "CLOSING" 643 (s ")" 642), E P "chars_end" 653 (r 306), E P "len_end" 662 (r 313), E P "pos_end" 670 (r 320), E P "rpos_end" 679 (r 327), E P "tab_end" 688 (r 334), E P "rtab_end" 698 (r 341), E P "rem_end" 705 (r 348), E P "any_at" 714 (r 355), E P "notany_at" 723 (r 362), E P "run_end" 733 (r 369), E P "span_end" 743 (r 376), E P "break_end" 753 (r 383), E P "arb_ends" 761 (r 390), E P "bal_end" 770 (r 397), E P "bal_ends" 780 (r 404), E P "one_end" 790 (r 411), E P "plain_end" 799 (r 418), E P "ends_of" 810 (r 425), E P "MET" 814 (vi 0 813), E P "FAILED" 816 (vi 1 815), E P "OVER" 818 (vi 2 817), E P "Way" 865 (r 449), E P "Match" 980 (r 526), E P "named_rows" 989 (r 537), E P "match_orders" 1002 (r 544), E P "match_compiled" 1012 (r 551), E P "PlainHost" 1074 (r 589), E P "LOST" 1078 (s "lost" 1077), E P "match_plain" 1090 (r 600), E P "match_at" 1101 (r 607), E P "tried" 1116 (r 614), E P "advanced" 1132 (r 621), E P "led_in" 1144 (r 628), E P "led_out" 1160 (r 635), E P "steered" 1172 (r 642), E P "taken" 1189 (r 649), E P "_law_next" 1201 (r 656), E P "_law_pascal" 1207 (r 661), E P "_law_cuts" 1219 (r 668), E P "law" 1225 (r 673)]⟩ 99), ⟨[]⟩⟩
noncomputable def o663 (P : Params) : Obj := ⟨N0, none, (.fields ⟨[(vi 24 0), (vi 0 0), (r 22), (vi 33 0), (vi 0 0), (r 29), (vi 35 0), (vi 0 0), (r 36), (vi 45 0), (vi 0 0), (r 43), (vi 106 0), (vi 0 0), (r 104), (vi 116 0), (vi 0 0), (r 111), (vi 122 0), (vi 0 0), (r 119), (vi 128 0), (vi 0 0), (r 141), (vi 130 0), (vi 0 0), (r 155), (vi 134 0), (vi 0 0), (r 176), (vi 138 0), (vi 0 0), (r 197), (vi 144 0), (vi 0 0), (r 218), (vi 146 0), (vi 0 0), (r 225), (vi 148 0), (vi 0 0), (r 232), (vi 161 0), (vi 0 0), (r 239), (vi 167 0), (vi 0 0), (r 246), (vi 171 0), (vi 0 0), (r 253), (vi 175 0), (vi 0 0), (r 260), (vi 184 0), (vi 0 0), (r 270), (vi 191 0), (vi 0 0), (r 277), (vi 196 0), (vi 0 0), (r 284), (vi 205 0), (vi 0 0), (r 291), (vi 207 0), (vi 0 0), (r 298), (vi 219 0), (vi 0 0), (r 305), (vi 222 0), (vi 0 0), (r 312), (vi 224 0), (vi 0 0), (r 319), (vi 226 0), (vi 0 0), (r 326), (vi 228 0), (vi 0 0), (r 333), (vi 230 0), (vi 0 0), (r 340), (vi 233 0), (vi 0 0), (r 347), (vi 235 0), (vi 0 0), (r 354), (vi 237 0), (vi 0 0), (r 361), (vi 239 0), (vi 0 0), (r 368), (vi 243 0), (vi 0 0), (r 375), (vi 246 0), (vi 0 0), (r 382), (vi 249 0), (vi 0 0), (r 389), (vi 251 0), (vi 0 0), (r 396), (vi 264 0), (vi 0 0), (r 403), (vi 270 0), (vi 0 0), (r 410), (vi 290 0), (vi 0 0), (r 417), (vi 292 0), (vi 0 0), (r 424), (vi 305 0), (vi 0 0), (r 431), (vi 317 0), (vi 0 0), (r 459), (vi 425 0), (vi 0 0), (r 536), (vi 432 0), (vi 0 0), (r 543), (vi 440 0), (vi 0 0), (r 550), (vi 443 0), (vi 0 0), (r 557), (vi 471 0), (vi 0 0), (r 599), (vi 477 0), (vi 0 0), (r 606), (vi 480 0), (vi 0 0), (r 613), (vi 498 0), (vi 0 0), (r 620), (vi 513 0), (vi 0 0), (r 627), (vi 524 0), (vi 0 0), (r 634), (vi 531 0), (vi 0 0), (r 641), (vi 539 0), (vi 0 0), (r 648), (vi 556 0), (vi 0 0), (r 655), (vi 562 0), (vi 0 0), (r 660), (vi 567 0), (vi 0 0), (r 667), (vi 575 0), (vi 0 0), (r 672)]⟩), ⟨[]⟩⟩
noncomputable def o664 (P : Params) : Obj := ⟨TU, none, (.seq ⟨[]⟩ 0), ⟨[]⟩⟩
noncomputable def o665 (P : Params) : Obj := ⟨N0, none, (.fields ⟨[]⟩), ⟨[]⟩⟩
noncomputable def o666 (P : Params) : Obj := ⟨TU, none, (.seq ⟨[(s "node" 1094), (s "subject" 1095), (s "begin" 1096), (s "host" 1097), (s "found" 1098)]⟩ 0), ⟨[]⟩⟩
noncomputable def o667 (P : Params) : Obj := ⟨TU, none, (.seq ⟨[]⟩ 0), ⟨[]⟩⟩
noncomputable def o668 (P : Params) : Obj := ⟨N0, none, (.func ⟨(S "match_at"), (S "match_at"), fdA (st 86), .stmts (fdB (st 86)), fdS (st 86), 0, [], N0, N0, N0, N0, none, N0, N0, 0⟩), ⟨[]⟩⟩
noncomputable def o669 (P : Params) : Obj := ⟨(VT "code"), none, (.fields ⟨[(s "match_at" 1091), (s "match_at" 1092), (s "/claim/cut.py" 1093), (vi 477 0), (vi 4 0), (vi 0 0), (vi 0 0), (vi 3 0), (r 601), (Value.bool true), (vi 181 0), (r 602), N0, (r 603), (r 604), (r 605), (vi 1099 0), (vi 477 0), (s "/claim/cut.py" 1100)]⟩), ⟨[]⟩⟩
noncomputable def o670 (P : Params) : Obj := ⟨(VT "function"), none, (.func ⟨(S "match_at"), (S "match_at"), fdA (st 86), .stmts (fdB (st 86)), fdS (st 86), 3, [], N0, N0, N0, (s "snobol.trial" 1075), none, (r 606), N0, 0⟩), ⟨[]⟩⟩
noncomputable def o671 (P : Params) : Obj := ⟨TU, none, (.seq ⟨[]⟩ 0), ⟨[]⟩⟩
noncomputable def o672 (P : Params) : Obj := ⟨N0, none, (.fields ⟨[]⟩), ⟨[]⟩⟩
noncomputable def o673 (P : Params) : Obj := ⟨TU, none, (.seq ⟨[(s "node" 1105), (s "subject" 1106), (s "begin" 1107), (s "host" 1108), (s "pile" 1109), (s "way" 1110), (s "chain" 1111), (s "at" 1112), (s "named" 1113)]⟩ 0), ⟨[]⟩⟩
noncomputable def o674 (P : Params) : Obj := ⟨TU, none, (.seq ⟨[]⟩ 0), ⟨[]⟩⟩
noncomputable def o675 (P : Params) : Obj := ⟨N0, none, (.func ⟨(S "tried"), (S "tried"), fdA (st 87), .stmts (fdB (st 87)), fdS (st 87), 0, [], N0, N0, N0, N0, none, N0, N0, 0⟩), ⟨[]⟩⟩
noncomputable def o676 (P : Params) : Obj := ⟨(VT "code"), none, (.fields ⟨[(s "tried" 1102), (s "tried" 1103), (s "/claim/cut.py" 1104), (vi 480 0), (vi 4 0), (vi 0 0), (vi 0 0), (vi 3 0), (r 608), (Value.bool true), (vi 181 0), (r 609), N0, (r 610), (r 611), (r 612), (vi 1114 0), (vi 480 0), (s "/claim/cut.py" 1115)]⟩), ⟨[]⟩⟩
noncomputable def o677 (P : Params) : Obj := ⟨(VT "function"), none, (.func ⟨(S "tried"), (S "tried"), fdA (st 87), .stmts (fdB (st 87)), fdS (st 87), 3, [], N0, N0, N0, (s "snobol.trial" 1075), none, (r 613), N0, 0⟩), ⟨[]⟩⟩
noncomputable def o678 (P : Params) : Obj := ⟨TU, none, (.seq ⟨[]⟩ 0), ⟨[]⟩⟩
noncomputable def o679 (P : Params) : Obj := ⟨N0, none, (.fields ⟨[]⟩), ⟨[]⟩⟩
noncomputable def o680 (P : Params) : Obj := ⟨TU, none, (.seq ⟨[(s "chain" 1120), (s "at" 1121), (s "named" 1122), (s "subject" 1123), (s "pile" 1124), (s "host" 1125), (s "here" 1126), (s "rest" 1127), (s "kind" 1128), (s "value" 1129)]⟩ 0), ⟨[]⟩⟩
noncomputable def o681 (P : Params) : Obj := ⟨TU, none, (.seq ⟨[]⟩ 0), ⟨[]⟩⟩
noncomputable def o682 (P : Params) : Obj := ⟨N0, none, (.func ⟨(S "advanced"), (S "advanced"), fdA (st 88), .stmts (fdB (st 88)), fdS (st 88), 0, [], N0, N0, N0, N0, none, N0, N0, 0⟩), ⟨[]⟩⟩
noncomputable def o683 (P : Params) : Obj := ⟨(VT "code"), none, (.fields ⟨[(s "advanced" 1117), (s "advanced" 1118), (s "/claim/cut.py" 1119), (vi 498 0), (vi 6 0), (vi 0 0), (vi 0 0), (vi 3 0), (r 615), (Value.bool true), (vi 181 0), (r 616), N0, (r 617), (r 618), (r 619), (vi 1130 0), (vi 498 0), (s "/claim/cut.py" 1131)]⟩), ⟨[]⟩⟩
noncomputable def o684 (P : Params) : Obj := ⟨(VT "function"), none, (.func ⟨(S "advanced"), (S "advanced"), fdA (st 88), .stmts (fdB (st 88)), fdS (st 88), 3, [], N0, N0, N0, (s "snobol.trial" 1075), none, (r 620), N0, 0⟩), ⟨[]⟩⟩
noncomputable def o685 (P : Params) : Obj := ⟨TU, none, (.seq ⟨[]⟩ 0), ⟨[]⟩⟩
noncomputable def o686 (P : Params) : Obj := ⟨N0, none, (.fields ⟨[]⟩), ⟨[]⟩⟩
noncomputable def o687 (P : Params) : Obj := ⟨TU, none, (.seq ⟨[(s "here" 1136), (s "rest" 1137), (s "at" 1138), (s "named" 1139), (s "pile" 1140), (s "kind" 1141)]⟩ 0), ⟨[]⟩⟩
noncomputable def o688 (P : Params) : Obj := ⟨TU, none, (.seq ⟨[]⟩ 0), ⟨[]⟩⟩
noncomputable def o689 (P : Params) : Obj := ⟨N0, none, (.func ⟨(S "led_in"), (S "led_in"), fdA (st 89), .stmts (fdB (st 89)), fdS (st 89), 0, [], N0, N0, N0, N0, none, N0, N0, 0⟩), ⟨[]⟩⟩
noncomputable def o690 (P : Params) : Obj := ⟨(VT "code"), none, (.fields ⟨[(s "led_in" 1133), (s "led_in" 1134), (s "/claim/cut.py" 1135), (vi 513 0), (vi 5 0), (vi 0 0), (vi 0 0), (vi 3 0), (r 622), (Value.bool true), (vi 181 0), (r 623), N0, (r 624), (r 625), (r 626), (vi 1142 0), (vi 513 0), (s "/claim/cut.py" 1143)]⟩), ⟨[]⟩⟩
noncomputable def o691 (P : Params) : Obj := ⟨(VT "function"), none, (.func ⟨(S "led_in"), (S "led_in"), fdA (st 89), .stmts (fdB (st 89)), fdS (st 89), 3, [], N0, N0, N0, (s "snobol.trial" 1075), none, (r 627), N0, 0⟩), ⟨[]⟩⟩
noncomputable def o692 (P : Params) : Obj := ⟨TU, none, (.seq ⟨[]⟩ 0), ⟨[]⟩⟩
noncomputable def o693 (P : Params) : Obj := ⟨N0, none, (.fields ⟨[]⟩), ⟨[]⟩⟩
noncomputable def o694 (P : Params) : Obj := ⟨TU, none, (.seq ⟨[(s "here" 1148), (s "rest" 1149), (s "at" 1150), (s "named" 1151), (s "subject" 1152), (s "pile" 1153), (s "host" 1154), (s "kind" 1155), (s "told" 1156), (s "begin" 1157)]⟩ 0), ⟨[]⟩⟩
noncomputable def o695 (P : Params) : Obj := ⟨TU, none, (.seq ⟨[]⟩ 0), ⟨[]⟩⟩
noncomputable def o696 (P : Params) : Obj := ⟨N0, none, (.func ⟨(S "led_out"), (S "led_out"), fdA (st 90), .stmts (fdB (st 90)), fdS (st 90), 0, [], N0, N0, N0, N0, none, N0, N0, 0⟩), ⟨[]⟩⟩
noncomputable def o697 (P : Params) : Obj := ⟨(VT "code"), none, (.fields ⟨[(s "led_out" 1145), (s "led_out" 1146), (s "/claim/cut.py" 1147), (vi 524 0), (vi 7 0), (vi 0 0), (vi 0 0), (vi 3 0), (r 629), (Value.bool true), (vi 181 0), (r 630), N0, (r 631), (r 632), (r 633), (vi 1158 0), (vi 524 0), (s "/claim/cut.py" 1159)]⟩), ⟨[]⟩⟩
noncomputable def o698 (P : Params) : Obj := ⟨(VT "function"), none, (.func ⟨(S "led_out"), (S "led_out"), fdA (st 90), .stmts (fdB (st 90)), fdS (st 90), 3, [], N0, N0, N0, (s "snobol.trial" 1075), none, (r 634), N0, 0⟩), ⟨[]⟩⟩
noncomputable def o699 (P : Params) : Obj := ⟨TU, none, (.seq ⟨[]⟩ 0), ⟨[]⟩⟩
noncomputable def o700 (P : Params) : Obj := ⟨N0, none, (.fields ⟨[]⟩), ⟨[]⟩⟩
noncomputable def o701 (P : Params) : Obj := ⟨TU, none, (.seq ⟨[(s "chain" 1164), (s "at" 1165), (s "named" 1166), (s "pile" 1167), (s "kind" 1168), (s "rest" 1169)]⟩ 0), ⟨[]⟩⟩
noncomputable def o702 (P : Params) : Obj := ⟨TU, none, (.seq ⟨[]⟩ 0), ⟨[]⟩⟩
noncomputable def o703 (P : Params) : Obj := ⟨N0, none, (.func ⟨(S "steered"), (S "steered"), fdA (st 91), .stmts (fdB (st 91)), fdS (st 91), 0, [], N0, N0, N0, N0, none, N0, N0, 0⟩), ⟨[]⟩⟩
noncomputable def o704 (P : Params) : Obj := ⟨(VT "code"), none, (.fields ⟨[(s "steered" 1161), (s "steered" 1162), (s "/claim/cut.py" 1163), (vi 531 0), (vi 4 0), (vi 0 0), (vi 0 0), (vi 3 0), (r 636), (Value.bool true), (vi 181 0), (r 637), N0, (r 638), (r 639), (r 640), (vi 1170 0), (vi 531 0), (s "/claim/cut.py" 1171)]⟩), ⟨[]⟩⟩
noncomputable def o705 (P : Params) : Obj := ⟨(VT "function"), none, (.func ⟨(S "steered"), (S "steered"), fdA (st 91), .stmts (fdB (st 91)), fdS (st 91), 3, [], N0, N0, N0, (s "snobol.trial" 1075), none, (r 641), N0, 0⟩), ⟨[]⟩⟩
noncomputable def o706 (P : Params) : Obj := ⟨TU, none, (.seq ⟨[]⟩ 0), ⟨[]⟩⟩
noncomputable def o707 (P : Params) : Obj := ⟨N0, none, (.fields ⟨[]⟩), ⟨[]⟩⟩
noncomputable def o708 (P : Params) : Obj := ⟨TU, none, (.seq ⟨[(s "here" 1176), (s "rest" 1177), (s "at" 1178), (s "named" 1179), (s "subject" 1180), (s "pile" 1181), (s "host" 1182), (s "kind" 1183), (s "ends" 1184), (s "end" 1185), (s "plain" 1186)]⟩ 0), ⟨[]⟩⟩
noncomputable def o709 (P : Params) : Obj := ⟨TU, none, (.seq ⟨[]⟩ 0), ⟨[]⟩⟩
noncomputable def o710 (P : Params) : Obj := ⟨N0, none, (.func ⟨(S "taken"), (S "taken"), fdA (st 92), .stmts (fdB (st 92)), fdS (st 92), 0, [], N0, N0, N0, N0, none, N0, N0, 0⟩), ⟨[]⟩⟩
noncomputable def o711 (P : Params) : Obj := ⟨(VT "code"), none, (.fields ⟨[(s "taken" 1173), (s "taken" 1174), (s "/claim/cut.py" 1175), (vi 539 0), (vi 7 0), (vi 0 0), (vi 0 0), (vi 3 0), (r 643), (Value.bool true), (vi 181 0), (r 644), N0, (r 645), (r 646), (r 647), (vi 1187 0), (vi 539 0), (s "/claim/cut.py" 1188)]⟩), ⟨[]⟩⟩
noncomputable def o712 (P : Params) : Obj := ⟨(VT "function"), none, (.func ⟨(S "taken"), (S "taken"), fdA (st 92), .stmts (fdB (st 92)), fdS (st 92), 3, [], N0, N0, N0, (s "snobol.trial" 1075), none, (r 648), N0, 0⟩), ⟨[]⟩⟩
noncomputable def o713 (P : Params) : Obj := ⟨TU, none, (.seq ⟨[]⟩ 0), ⟨[]⟩⟩
noncomputable def o714 (P : Params) : Obj := ⟨N0, none, (.fields ⟨[]⟩), ⟨[]⟩⟩
noncomputable def o715 (P : Params) : Obj := ⟨TU, none, (.seq ⟨[(s "feed" 1195), (s "many" 1196), (s "cells" 1197), (s "turn" 1198)]⟩ 0), ⟨[]⟩⟩
noncomputable def o716 (P : Params) : Obj := ⟨TU, none, (.seq ⟨[]⟩ 0), ⟨[]⟩⟩
noncomputable def o717 (P : Params) : Obj := ⟨N0, none, (.func ⟨(S "_law_next"), (S "_law_next"), fdA (st 94), .stmts (fdB (st 94)), fdS (st 94), 0, [], N0, N0, N0, N0, none, N0, N0, 0⟩), ⟨[]⟩⟩
noncomputable def o718 (P : Params) : Obj := ⟨(VT "code"), none, (.fields ⟨[(s "_law_next" 1192), (s "_law_next" 1193), (s "/claim/cut.py" 1194), (vi 556 0), (vi 2 0), (vi 0 0), (vi 0 0), (vi 3 0), (r 650), (Value.bool true), (vi 181 0), (r 651), N0, (r 652), (r 653), (r 654), (vi 1199 0), (vi 556 0), (s "/claim/cut.py" 1200)]⟩), ⟨[]⟩⟩
noncomputable def o719 (P : Params) : Obj := ⟨(VT "function"), none, (.func ⟨(S "_law_next"), (S "_law_next"), fdA (st 94), .stmts (fdB (st 94)), fdS (st 94), 3, [], N0, N0, N0, (s "law_sa0605_04" 1190), none, (r 655), N0, 0⟩), ⟨[]⟩⟩
noncomputable def o720 (P : Params) : Obj := ⟨TU, none, (.seq ⟨[]⟩ 0), ⟨[]⟩⟩
noncomputable def o721 (P : Params) : Obj := ⟨N0, none, (.fields ⟨[]⟩), ⟨[]⟩⟩
noncomputable def o722 (P : Params) : Obj := ⟨N0, none, (.func ⟨(S "_law_pascal"), (S "_law_pascal"), fdA (st 95), .stmts (fdB (st 95)), fdS (st 95), 0, [], N0, N0, N0, N0, none, N0, N0, 0⟩), ⟨[]⟩⟩
noncomputable def o723 (P : Params) : Obj := ⟨(VT "code"), none, (.fields ⟨[(s "_law_pascal" 1202), (s "_law_pascal" 1203), (s "/claim/cut.py" 1204), (vi 562 0), (vi 2 0), (vi 0 0), (vi 0 0), (vi 3 0), (r 657), (Value.bool true), (vi 181 0), (r 658), N0, N0, N0, (r 659), (vi 1205 0), (vi 562 0), (s "/claim/cut.py" 1206)]⟩), ⟨[]⟩⟩
noncomputable def o724 (P : Params) : Obj := ⟨(VT "function"), none, (.func ⟨(S "_law_pascal"), (S "_law_pascal"), fdA (st 95), .stmts (fdB (st 95)), fdS (st 95), 3, [], N0, N0, N0, (s "law_sa0605_04" 1190), none, (r 660), N0, 0⟩), ⟨[]⟩⟩
noncomputable def o725 (P : Params) : Obj := ⟨TU, none, (.seq ⟨[]⟩ 0), ⟨[]⟩⟩
noncomputable def o726 (P : Params) : Obj := ⟨N0, none, (.fields ⟨[]⟩), ⟨[]⟩⟩
noncomputable def o727 (P : Params) : Obj := ⟨TU, none, (.seq ⟨[(s "log" 1211), (s "many" 1212), (s "pieces" 1213), (s "found" 1214), (s "key" 1215), (s "told" 1216)]⟩ 0), ⟨[]⟩⟩
noncomputable def o728 (P : Params) : Obj := ⟨TU, none, (.seq ⟨[]⟩ 0), ⟨[]⟩⟩
noncomputable def o729 (P : Params) : Obj := ⟨N0, none, (.func ⟨(S "_law_cuts"), (S "_law_cuts"), fdA (st 96), .stmts (fdB (st 96)), fdS (st 96), 0, [], N0, N0, N0, N0, none, N0, N0, 0⟩), ⟨[]⟩⟩
noncomputable def o730 (P : Params) : Obj := ⟨(VT "code"), none, (.fields ⟨[(s "_law_cuts" 1208), (s "_law_cuts" 1209), (s "/claim/cut.py" 1210), (vi 567 0), (vi 2 0), (vi 0 0), (vi 0 0), (vi 3 0), (r 662), (Value.bool true), (vi 181 0), (r 663), N0, (r 664), (r 665), (r 666), (vi 1217 0), (vi 567 0), (s "/claim/cut.py" 1218)]⟩), ⟨[]⟩⟩
noncomputable def o731 (P : Params) : Obj := ⟨(VT "function"), none, (.func ⟨(S "_law_cuts"), (S "_law_cuts"), fdA (st 96), .stmts (fdB (st 96)), fdS (st 96), 3, [], N0, N0, N0, (s "law_sa0605_04" 1190), none, (r 667), N0, 0⟩), ⟨[]⟩⟩
noncomputable def o732 (P : Params) : Obj := ⟨TU, none, (.seq ⟨[]⟩ 0), ⟨[]⟩⟩
noncomputable def o733 (P : Params) : Obj := ⟨N0, none, (.fields ⟨[]⟩), ⟨[]⟩⟩
noncomputable def o734 (P : Params) : Obj := ⟨N0, none, (.func ⟨(S "law"), (S "law"), fdA (st 97), .stmts (fdB (st 97)), fdS (st 97), 0, [], N0, N0, N0, N0, none, N0, N0, 0⟩), ⟨[]⟩⟩
noncomputable def o735 (P : Params) : Obj := ⟨(VT "code"), none, (.fields ⟨[(s "law" 1220), (s "law" 1221), (s "/claim/cut.py" 1222), (vi 575 0), (vi 1 0), (vi 0 0), (vi 0 0), (vi 3 0), (r 669), (Value.bool true), (vi 181 0), (r 670), N0, N0, N0, (r 671), (vi 1223 0), (vi 575 0), (s "/claim/cut.py" 1224)]⟩), ⟨[]⟩⟩
noncomputable def o736 (P : Params) : Obj := ⟨(VT "function"), none, (.func ⟨(S "law"), (S "law"), fdA (st 97), .stmts (fdB (st 97)), fdS (st 97), 3, [], N0, N0, N0, (s "law_sa0605_04" 1190), none, (r 672), N0, 0⟩), ⟨[]⟩⟩
noncomputable def t47 (P : Params) : BT := (N (boot_o_0 P) (N (boot_o_1 P) (N (boot_o_3 P) (N (boot_o_7 P) z z) (N (o43 P) z z)) (N (boot_o_5 P) (N (boot_o_9 P) z z) (N (o45 P) z z))) (N (boot_o_2 P) (N (boot_o_4 P) (N (boot_o_8 P) z z) (N (o44 P) z z)) (N (boot_o_6 P) (N (boot_o_10 P) z z) (N (o46 P) z z))))
noncomputable def t73 (P : Params) : BT := (N (boot_o_0 P) (N (boot_o_1 P) (N (o49 P) (N (boot_o_7 P) (N (o51 P) (N (o67 P) z z) z) (N (o59 P) z z)) (N (o43 P) (N (o55 P) (N (o71 P) z z) z) (N (o63 P) z z))) (N (boot_o_5 P) (N (boot_o_9 P) (N (o53 P) (N (o69 P) z z) z) (N (o61 P) z z)) (N (o45 P) (N (o57 P) (N (o73 P) z z) z) (N (o65 P) z z)))) (N (boot_o_2 P) (N (boot_o_4 P) (N (boot_o_8 P) (N (o52 P) (N (o68 P) z z) z) (N (o60 P) z z)) (N (o50 P) (N (o56 P) (N (o72 P) z z) z) (N (o64 P) z z))) (N (boot_o_6 P) (N (boot_o_10 P) (N (o54 P) (N (o70 P) z z) z) (N (o62 P) z z)) (N (o46 P) (N (o58 P) z z) (N (o66 P) z z)))))
noncomputable def t136 (P : Params) : BT := (N (boot_o_0 P) (N (boot_o_1 P) (N (o74 P) (N (boot_o_7 P) (N (o51 P) (N (o67 P) (N (o101 P) z z) (N (o133 P) z z)) (N (o85 P) (N (o117 P) z z) z)) (N (o59 P) (N (o77 P) (N (o109 P) z z) z) (N (o93 P) (N (o125 P) z z) z))) (N (o43 P) (N (o55 P) (N (o71 P) (N (o105 P) z z) z) (N (o89 P) (N (o121 P) z z) z)) (N (o63 P) (N (o81 P) (N (o113 P) z z) z) (N (o97 P) (N (o129 P) z z) z)))) (N (boot_o_5 P) (N (boot_o_9 P) (N (o53 P) (N (o69 P) (N (o103 P) z z) (N (o135 P) z z)) (N (o87 P) (N (o119 P) z z) z)) (N (o61 P) (N (o79 P) (N (o111 P) z z) z) (N (o95 P) (N (o127 P) z z) z))) (N (o45 P) (N (o57 P) (N (o73 P) (N (o107 P) z z) z) (N (o91 P) (N (o123 P) z z) z)) (N (o65 P) (N (o83 P) (N (o115 P) z z) z) (N (o99 P) (N (o131 P) z z) z))))) (N (boot_o_2 P) (N (boot_o_4 P) (N (boot_o_8 P) (N (o52 P) (N (o68 P) (N (o102 P) z z) (N (o134 P) z z)) (N (o86 P) (N (o118 P) z z) z)) (N (o60 P) (N (o78 P) (N (o110 P) z z) z) (N (o94 P) (N (o126 P) z z) z))) (N (o75 P) (N (o56 P) (N (o72 P) (N (o106 P) z z) z) (N (o90 P) (N (o122 P) z z) z)) (N (o64 P) (N (o82 P) (N (o114 P) z z) z) (N (o98 P) (N (o130 P) z z) z)))) (N (boot_o_6 P) (N (boot_o_10 P) (N (o54 P) (N (o70 P) (N (o104 P) z z) (N (o136 P) z z)) (N (o88 P) (N (o120 P) z z) z)) (N (o62 P) (N (o80 P) (N (o112 P) z z) z) (N (o96 P) (N (o128 P) z z) z))) (N (o46 P) (N (o58 P) (N (o76 P) (N (o108 P) z z) z) (N (o92 P) (N (o124 P) z z) z)) (N (o66 P) (N (o84 P) (N (o116 P) z z) z) (N (o100 P) (N (o132 P) z z) z))))))
noncomputable def t176 (P : Params) : BT := (N (boot_o_0 P) (N (boot_o_1 P) (N (o138 P) (N (boot_o_7 P) (N (o51 P) (N (o67 P) (N (o101 P) (N (o168 P) z z) z) (N (o133 P) z z)) (N (o85 P) (N (o117 P) z z) (N (o152 P) z z))) (N (o59 P) (N (o77 P) (N (o109 P) (N (o176 P) z z) z) (N (o144 P) z z)) (N (o93 P) (N (o125 P) z z) (N (o160 P) z z)))) (N (o43 P) (N (o55 P) (N (o71 P) (N (o105 P) (N (o172 P) z z) z) (N (o140 P) z z)) (N (o89 P) (N (o121 P) z z) (N (o156 P) z z))) (N (o63 P) (N (o81 P) (N (o113 P) z z) (N (o148 P) z z)) (N (o97 P) (N (o129 P) z z) (N (o164 P) z z))))) (N (boot_o_5 P) (N (boot_o_9 P) (N (o53 P) (N (o69 P) (N (o103 P) (N (o170 P) z z) z) (N (o135 P) z z)) (N (o87 P) (N (o119 P) z z) (N (o154 P) z z))) (N (o61 P) (N (o79 P) (N (o111 P) z z) (N (o146 P) z z)) (N (o95 P) (N (o127 P) z z) (N (o162 P) z z)))) (N (o45 P) (N (o57 P) (N (o73 P) (N (o107 P) (N (o174 P) z z) z) (N (o142 P) z z)) (N (o91 P) (N (o123 P) z z) (N (o158 P) z z))) (N (o65 P) (N (o83 P) (N (o115 P) z z) (N (o150 P) z z)) (N (o99 P) (N (o131 P) z z) (N (o166 P) z z)))))) (N (o137 P) (N (boot_o_4 P) (N (boot_o_8 P) (N (o52 P) (N (o68 P) (N (o102 P) (N (o169 P) z z) z) (N (o134 P) z z)) (N (o86 P) (N (o118 P) z z) (N (o153 P) z z))) (N (o60 P) (N (o78 P) (N (o110 P) z z) (N (o145 P) z z)) (N (o94 P) (N (o126 P) z z) (N (o161 P) z z)))) (N (o139 P) (N (o56 P) (N (o72 P) (N (o106 P) (N (o173 P) z z) z) (N (o141 P) z z)) (N (o90 P) (N (o122 P) z z) (N (o157 P) z z))) (N (o64 P) (N (o82 P) (N (o114 P) z z) (N (o149 P) z z)) (N (o98 P) (N (o130 P) z z) (N (o165 P) z z))))) (N (boot_o_6 P) (N (boot_o_10 P) (N (o54 P) (N (o70 P) (N (o104 P) (N (o171 P) z z) z) (N (o136 P) z z)) (N (o88 P) (N (o120 P) z z) (N (o155 P) z z))) (N (o62 P) (N (o80 P) (N (o112 P) z z) (N (o147 P) z z)) (N (o96 P) (N (o128 P) z z) (N (o163 P) z z)))) (N (o46 P) (N (o58 P) (N (o76 P) (N (o108 P) (N (o175 P) z z) z) (N (o143 P) z z)) (N (o92 P) (N (o124 P) z z) (N (o159 P) z z))) (N (o66 P) (N (o84 P) (N (o116 P) z z) (N (o151 P) z z)) (N (o100 P) (N (o132 P) z z) (N (o167 P) z z)))))))
noncomputable def t192 (P : Params) : BT := (N (boot_o_0 P) (N (boot_o_1 P) (N (o177 P) (N (boot_o_7 P) (N (o51 P) (N (o67 P) (N (o101 P) (N (o168 P) z z) z) (N (o133 P) z z)) (N (o85 P) (N (o117 P) (N (o186 P) z z) z) (N (o152 P) z z))) (N (o59 P) (N (o77 P) (N (o109 P) (N (o176 P) z z) z) (N (o144 P) z z)) (N (o93 P) (N (o125 P) z z) (N (o160 P) z z)))) (N (o43 P) (N (o55 P) (N (o71 P) (N (o105 P) (N (o172 P) z z) z) (N (o140 P) z z)) (N (o89 P) (N (o121 P) (N (o190 P) z z) z) (N (o156 P) z z))) (N (o63 P) (N (o81 P) (N (o113 P) (N (o182 P) z z) z) (N (o148 P) z z)) (N (o97 P) (N (o129 P) z z) (N (o164 P) z z))))) (N (boot_o_5 P) (N (boot_o_9 P) (N (o53 P) (N (o69 P) (N (o103 P) (N (o170 P) z z) z) (N (o135 P) z z)) (N (o87 P) (N (o119 P) (N (o188 P) z z) z) (N (o154 P) z z))) (N (o61 P) (N (o79 P) (N (o111 P) (N (o180 P) z z) z) (N (o146 P) z z)) (N (o95 P) (N (o127 P) z z) (N (o162 P) z z)))) (N (o45 P) (N (o57 P) (N (o73 P) (N (o107 P) (N (o174 P) z z) z) (N (o142 P) z z)) (N (o91 P) (N (o123 P) (N (o192 P) z z) z) (N (o158 P) z z))) (N (o65 P) (N (o83 P) (N (o115 P) (N (o184 P) z z) z) (N (o150 P) z z)) (N (o99 P) (N (o131 P) z z) (N (o166 P) z z)))))) (N (o137 P) (N (boot_o_4 P) (N (boot_o_8 P) (N (o52 P) (N (o68 P) (N (o102 P) (N (o169 P) z z) z) (N (o134 P) z z)) (N (o86 P) (N (o118 P) (N (o187 P) z z) z) (N (o153 P) z z))) (N (o60 P) (N (o78 P) (N (o110 P) (N (o179 P) z z) z) (N (o145 P) z z)) (N (o94 P) (N (o126 P) z z) (N (o161 P) z z)))) (N (o178 P) (N (o56 P) (N (o72 P) (N (o106 P) (N (o173 P) z z) z) (N (o141 P) z z)) (N (o90 P) (N (o122 P) (N (o191 P) z z) z) (N (o157 P) z z))) (N (o64 P) (N (o82 P) (N (o114 P) (N (o183 P) z z) z) (N (o149 P) z z)) (N (o98 P) (N (o130 P) z z) (N (o165 P) z z))))) (N (boot_o_6 P) (N (boot_o_10 P) (N (o54 P) (N (o70 P) (N (o104 P) (N (o171 P) z z) z) (N (o136 P) z z)) (N (o88 P) (N (o120 P) (N (o189 P) z z) z) (N (o155 P) z z))) (N (o62 P) (N (o80 P) (N (o112 P) (N (o181 P) z z) z) (N (o147 P) z z)) (N (o96 P) (N (o128 P) z z) (N (o163 P) z z)))) (N (o46 P) (N (o58 P) (N (o76 P) (N (o108 P) (N (o175 P) z z) z) (N (o143 P) z z)) (N (o92 P) (N (o124 P) z z) (N (o159 P) z z))) (N (o66 P) (N (o84 P) (N (o116 P) (N (o185 P) z z) z) (N (o151 P) z z)) (N (o100 P) (N (o132 P) z z) (N (o167 P) z z)))))))
noncomputable def t215 (P : Params) : BT := (N (boot_o_0 P) (N (boot_o_1 P) (N (o193 P) (N (boot_o_7 P) (N (o51 P) (N (o67 P) (N (o101 P) (N (o168 P) z z) z) (N (o133 P) (N (o204 P) z z) z)) (N (o85 P) (N (o117 P) (N (o186 P) z z) z) (N (o152 P) z z))) (N (o59 P) (N (o77 P) (N (o109 P) (N (o176 P) z z) z) (N (o144 P) (N (o212 P) z z) z)) (N (o93 P) (N (o125 P) (N (o196 P) z z) z) (N (o160 P) z z)))) (N (o43 P) (N (o55 P) (N (o71 P) (N (o105 P) (N (o172 P) z z) z) (N (o140 P) (N (o208 P) z z) z)) (N (o89 P) (N (o121 P) (N (o190 P) z z) z) (N (o156 P) z z))) (N (o63 P) (N (o81 P) (N (o113 P) (N (o182 P) z z) z) (N (o148 P) z z)) (N (o97 P) (N (o129 P) (N (o200 P) z z) z) (N (o164 P) z z))))) (N (boot_o_5 P) (N (boot_o_9 P) (N (o53 P) (N (o69 P) (N (o103 P) (N (o170 P) z z) z) (N (o135 P) (N (o206 P) z z) z)) (N (o87 P) (N (o119 P) (N (o188 P) z z) z) (N (o154 P) z z))) (N (o61 P) (N (o79 P) (N (o111 P) (N (o180 P) z z) z) (N (o146 P) (N (o214 P) z z) z)) (N (o95 P) (N (o127 P) (N (o198 P) z z) z) (N (o162 P) z z)))) (N (o45 P) (N (o57 P) (N (o73 P) (N (o107 P) (N (o174 P) z z) z) (N (o142 P) (N (o210 P) z z) z)) (N (o91 P) (N (o123 P) (N (o192 P) z z) z) (N (o158 P) z z))) (N (o65 P) (N (o83 P) (N (o115 P) (N (o184 P) z z) z) (N (o150 P) z z)) (N (o99 P) (N (o131 P) (N (o202 P) z z) z) (N (o166 P) z z)))))) (N (o137 P) (N (boot_o_4 P) (N (boot_o_8 P) (N (o52 P) (N (o68 P) (N (o102 P) (N (o169 P) z z) z) (N (o134 P) (N (o205 P) z z) z)) (N (o86 P) (N (o118 P) (N (o187 P) z z) z) (N (o153 P) z z))) (N (o60 P) (N (o78 P) (N (o110 P) (N (o179 P) z z) z) (N (o145 P) (N (o213 P) z z) z)) (N (o94 P) (N (o126 P) (N (o197 P) z z) z) (N (o161 P) z z)))) (N (o194 P) (N (o56 P) (N (o72 P) (N (o106 P) (N (o173 P) z z) z) (N (o141 P) (N (o209 P) z z) z)) (N (o90 P) (N (o122 P) (N (o191 P) z z) z) (N (o157 P) z z))) (N (o64 P) (N (o82 P) (N (o114 P) (N (o183 P) z z) z) (N (o149 P) z z)) (N (o98 P) (N (o130 P) (N (o201 P) z z) z) (N (o165 P) z z))))) (N (boot_o_6 P) (N (boot_o_10 P) (N (o54 P) (N (o70 P) (N (o104 P) (N (o171 P) z z) z) (N (o136 P) (N (o207 P) z z) z)) (N (o88 P) (N (o120 P) (N (o189 P) z z) z) (N (o155 P) z z))) (N (o62 P) (N (o80 P) (N (o112 P) (N (o181 P) z z) z) (N (o147 P) (N (o215 P) z z) z)) (N (o96 P) (N (o128 P) (N (o199 P) z z) z) (N (o163 P) z z)))) (N (o46 P) (N (o58 P) (N (o76 P) (N (o108 P) (N (o175 P) z z) z) (N (o143 P) (N (o211 P) z z) z)) (N (o92 P) (N (o124 P) (N (o195 P) z z) z) (N (o159 P) z z))) (N (o66 P) (N (o84 P) (N (o116 P) (N (o185 P) z z) z) (N (o151 P) z z)) (N (o100 P) (N (o132 P) (N (o203 P) z z) z) (N (o167 P) z z)))))))
noncomputable def t238 (P : Params) : BT := (N (boot_o_0 P) (N (boot_o_1 P) (N (o216 P) (N (boot_o_7 P) (N (o51 P) (N (o67 P) (N (o101 P) (N (o168 P) z z) (N (o238 P) z z)) (N (o133 P) (N (o204 P) z z) z)) (N (o85 P) (N (o117 P) (N (o186 P) z z) z) (N (o152 P) (N (o222 P) z z) z))) (N (o59 P) (N (o77 P) (N (o109 P) (N (o176 P) z z) z) (N (o144 P) (N (o212 P) z z) z)) (N (o93 P) (N (o125 P) (N (o196 P) z z) z) (N (o160 P) (N (o230 P) z z) z)))) (N (o43 P) (N (o55 P) (N (o71 P) (N (o105 P) (N (o172 P) z z) z) (N (o140 P) (N (o208 P) z z) z)) (N (o89 P) (N (o121 P) (N (o190 P) z z) z) (N (o156 P) (N (o226 P) z z) z))) (N (o63 P) (N (o81 P) (N (o113 P) (N (o182 P) z z) z) (N (o148 P) (N (o218 P) z z) z)) (N (o97 P) (N (o129 P) (N (o200 P) z z) z) (N (o164 P) (N (o234 P) z z) z))))) (N (boot_o_5 P) (N (boot_o_9 P) (N (o53 P) (N (o69 P) (N (o103 P) (N (o170 P) z z) z) (N (o135 P) (N (o206 P) z z) z)) (N (o87 P) (N (o119 P) (N (o188 P) z z) z) (N (o154 P) (N (o224 P) z z) z))) (N (o61 P) (N (o79 P) (N (o111 P) (N (o180 P) z z) z) (N (o146 P) (N (o214 P) z z) z)) (N (o95 P) (N (o127 P) (N (o198 P) z z) z) (N (o162 P) (N (o232 P) z z) z)))) (N (o45 P) (N (o57 P) (N (o73 P) (N (o107 P) (N (o174 P) z z) z) (N (o142 P) (N (o210 P) z z) z)) (N (o91 P) (N (o123 P) (N (o192 P) z z) z) (N (o158 P) (N (o228 P) z z) z))) (N (o65 P) (N (o83 P) (N (o115 P) (N (o184 P) z z) z) (N (o150 P) (N (o220 P) z z) z)) (N (o99 P) (N (o131 P) (N (o202 P) z z) z) (N (o166 P) (N (o236 P) z z) z)))))) (N (o137 P) (N (boot_o_4 P) (N (boot_o_8 P) (N (o52 P) (N (o68 P) (N (o102 P) (N (o169 P) z z) z) (N (o134 P) (N (o205 P) z z) z)) (N (o86 P) (N (o118 P) (N (o187 P) z z) z) (N (o153 P) (N (o223 P) z z) z))) (N (o60 P) (N (o78 P) (N (o110 P) (N (o179 P) z z) z) (N (o145 P) (N (o213 P) z z) z)) (N (o94 P) (N (o126 P) (N (o197 P) z z) z) (N (o161 P) (N (o231 P) z z) z)))) (N (o217 P) (N (o56 P) (N (o72 P) (N (o106 P) (N (o173 P) z z) z) (N (o141 P) (N (o209 P) z z) z)) (N (o90 P) (N (o122 P) (N (o191 P) z z) z) (N (o157 P) (N (o227 P) z z) z))) (N (o64 P) (N (o82 P) (N (o114 P) (N (o183 P) z z) z) (N (o149 P) (N (o219 P) z z) z)) (N (o98 P) (N (o130 P) (N (o201 P) z z) z) (N (o165 P) (N (o235 P) z z) z))))) (N (boot_o_6 P) (N (boot_o_10 P) (N (o54 P) (N (o70 P) (N (o104 P) (N (o171 P) z z) z) (N (o136 P) (N (o207 P) z z) z)) (N (o88 P) (N (o120 P) (N (o189 P) z z) z) (N (o155 P) (N (o225 P) z z) z))) (N (o62 P) (N (o80 P) (N (o112 P) (N (o181 P) z z) z) (N (o147 P) (N (o215 P) z z) z)) (N (o96 P) (N (o128 P) (N (o199 P) z z) z) (N (o163 P) (N (o233 P) z z) z)))) (N (o46 P) (N (o58 P) (N (o76 P) (N (o108 P) (N (o175 P) z z) z) (N (o143 P) (N (o211 P) z z) z)) (N (o92 P) (N (o124 P) (N (o195 P) z z) z) (N (o159 P) (N (o229 P) z z) z))) (N (o66 P) (N (o84 P) (N (o116 P) (N (o185 P) z z) z) (N (o151 P) (N (o221 P) z z) z)) (N (o100 P) (N (o132 P) (N (o203 P) z z) z) (N (o167 P) (N (o237 P) z z) z)))))))
noncomputable def t296 (P : Params) : BT := (N (boot_o_0 P) (N (boot_o_1 P) (N (o239 P) (N (boot_o_7 P) (N (o51 P) (N (o67 P) (N (o101 P) (N (o168 P) z z) (N (o238 P) z z)) (N (o133 P) (N (o204 P) z z) (N (o272 P) z z))) (N (o85 P) (N (o117 P) (N (o186 P) z z) (N (o256 P) z z)) (N (o152 P) (N (o222 P) z z) (N (o288 P) z z)))) (N (o59 P) (N (o77 P) (N (o109 P) (N (o176 P) z z) (N (o248 P) z z)) (N (o144 P) (N (o212 P) z z) (N (o280 P) z z))) (N (o93 P) (N (o125 P) (N (o196 P) z z) (N (o264 P) z z)) (N (o160 P) (N (o230 P) z z) (N (o296 P) z z))))) (N (o43 P) (N (o55 P) (N (o71 P) (N (o105 P) (N (o172 P) z z) (N (o244 P) z z)) (N (o140 P) (N (o208 P) z z) (N (o276 P) z z))) (N (o89 P) (N (o121 P) (N (o190 P) z z) (N (o260 P) z z)) (N (o156 P) (N (o226 P) z z) (N (o292 P) z z)))) (N (o63 P) (N (o81 P) (N (o113 P) (N (o182 P) z z) (N (o252 P) z z)) (N (o148 P) (N (o218 P) z z) (N (o284 P) z z))) (N (o97 P) (N (o129 P) (N (o200 P) z z) (N (o268 P) z z)) (N (o164 P) (N (o234 P) z z) z))))) (N (boot_o_5 P) (N (boot_o_9 P) (N (o53 P) (N (o69 P) (N (o103 P) (N (o170 P) z z) (N (o242 P) z z)) (N (o135 P) (N (o206 P) z z) (N (o274 P) z z))) (N (o87 P) (N (o119 P) (N (o188 P) z z) (N (o258 P) z z)) (N (o154 P) (N (o224 P) z z) (N (o290 P) z z)))) (N (o61 P) (N (o79 P) (N (o111 P) (N (o180 P) z z) (N (o250 P) z z)) (N (o146 P) (N (o214 P) z z) (N (o282 P) z z))) (N (o95 P) (N (o127 P) (N (o198 P) z z) (N (o266 P) z z)) (N (o162 P) (N (o232 P) z z) z)))) (N (o45 P) (N (o57 P) (N (o73 P) (N (o107 P) (N (o174 P) z z) (N (o246 P) z z)) (N (o142 P) (N (o210 P) z z) (N (o278 P) z z))) (N (o91 P) (N (o123 P) (N (o192 P) z z) (N (o262 P) z z)) (N (o158 P) (N (o228 P) z z) (N (o294 P) z z)))) (N (o65 P) (N (o83 P) (N (o115 P) (N (o184 P) z z) (N (o254 P) z z)) (N (o150 P) (N (o220 P) z z) (N (o286 P) z z))) (N (o99 P) (N (o131 P) (N (o202 P) z z) (N (o270 P) z z)) (N (o166 P) (N (o236 P) z z) z)))))) (N (o137 P) (N (boot_o_4 P) (N (boot_o_8 P) (N (o52 P) (N (o68 P) (N (o102 P) (N (o169 P) z z) (N (o241 P) z z)) (N (o134 P) (N (o205 P) z z) (N (o273 P) z z))) (N (o86 P) (N (o118 P) (N (o187 P) z z) (N (o257 P) z z)) (N (o153 P) (N (o223 P) z z) (N (o289 P) z z)))) (N (o60 P) (N (o78 P) (N (o110 P) (N (o179 P) z z) (N (o249 P) z z)) (N (o145 P) (N (o213 P) z z) (N (o281 P) z z))) (N (o94 P) (N (o126 P) (N (o197 P) z z) (N (o265 P) z z)) (N (o161 P) (N (o231 P) z z) z)))) (N (o240 P) (N (o56 P) (N (o72 P) (N (o106 P) (N (o173 P) z z) (N (o245 P) z z)) (N (o141 P) (N (o209 P) z z) (N (o277 P) z z))) (N (o90 P) (N (o122 P) (N (o191 P) z z) (N (o261 P) z z)) (N (o157 P) (N (o227 P) z z) (N (o293 P) z z)))) (N (o64 P) (N (o82 P) (N (o114 P) (N (o183 P) z z) (N (o253 P) z z)) (N (o149 P) (N (o219 P) z z) (N (o285 P) z z))) (N (o98 P) (N (o130 P) (N (o201 P) z z) (N (o269 P) z z)) (N (o165 P) (N (o235 P) z z) z))))) (N (boot_o_6 P) (N (boot_o_10 P) (N (o54 P) (N (o70 P) (N (o104 P) (N (o171 P) z z) (N (o243 P) z z)) (N (o136 P) (N (o207 P) z z) (N (o275 P) z z))) (N (o88 P) (N (o120 P) (N (o189 P) z z) (N (o259 P) z z)) (N (o155 P) (N (o225 P) z z) (N (o291 P) z z)))) (N (o62 P) (N (o80 P) (N (o112 P) (N (o181 P) z z) (N (o251 P) z z)) (N (o147 P) (N (o215 P) z z) (N (o283 P) z z))) (N (o96 P) (N (o128 P) (N (o199 P) z z) (N (o267 P) z z)) (N (o163 P) (N (o233 P) z z) z)))) (N (o46 P) (N (o58 P) (N (o76 P) (N (o108 P) (N (o175 P) z z) (N (o247 P) z z)) (N (o143 P) (N (o211 P) z z) (N (o279 P) z z))) (N (o92 P) (N (o124 P) (N (o195 P) z z) (N (o263 P) z z)) (N (o159 P) (N (o229 P) z z) (N (o295 P) z z)))) (N (o66 P) (N (o84 P) (N (o116 P) (N (o185 P) z z) (N (o255 P) z z)) (N (o151 P) (N (o221 P) z z) (N (o287 P) z z))) (N (o100 P) (N (o132 P) (N (o203 P) z z) (N (o271 P) z z)) (N (o167 P) (N (o237 P) z z) z)))))))
noncomputable def t371 (P : Params) : BT := (N (boot_o_0 P) (N (boot_o_1 P) (N (o297 P) (N (boot_o_7 P) (N (o51 P) (N (o67 P) (N (o101 P) (N (o168 P) (N (o306 P) z z) z) (N (o238 P) (N (o370 P) z z) z)) (N (o133 P) (N (o204 P) (N (o338 P) z z) z) (N (o272 P) z z))) (N (o85 P) (N (o117 P) (N (o186 P) (N (o322 P) z z) z) (N (o256 P) z z)) (N (o152 P) (N (o222 P) (N (o354 P) z z) z) (N (o288 P) z z)))) (N (o59 P) (N (o77 P) (N (o109 P) (N (o176 P) (N (o314 P) z z) z) (N (o248 P) z z)) (N (o144 P) (N (o212 P) (N (o346 P) z z) z) (N (o280 P) z z))) (N (o93 P) (N (o125 P) (N (o196 P) (N (o330 P) z z) z) (N (o264 P) z z)) (N (o160 P) (N (o230 P) (N (o362 P) z z) z) (N (o296 P) z z))))) (N (o43 P) (N (o55 P) (N (o71 P) (N (o105 P) (N (o172 P) (N (o310 P) z z) z) (N (o244 P) z z)) (N (o140 P) (N (o208 P) (N (o342 P) z z) z) (N (o276 P) z z))) (N (o89 P) (N (o121 P) (N (o190 P) (N (o326 P) z z) z) (N (o260 P) z z)) (N (o156 P) (N (o226 P) (N (o358 P) z z) z) (N (o292 P) z z)))) (N (o63 P) (N (o81 P) (N (o113 P) (N (o182 P) (N (o318 P) z z) z) (N (o252 P) z z)) (N (o148 P) (N (o218 P) (N (o350 P) z z) z) (N (o284 P) z z))) (N (o97 P) (N (o129 P) (N (o200 P) (N (o334 P) z z) z) (N (o268 P) z z)) (N (o164 P) (N (o234 P) (N (o366 P) z z) z) (N (o302 P) z z)))))) (N (boot_o_5 P) (N (boot_o_9 P) (N (o53 P) (N (o69 P) (N (o103 P) (N (o170 P) (N (o308 P) z z) z) (N (o242 P) z z)) (N (o135 P) (N (o206 P) (N (o340 P) z z) z) (N (o274 P) z z))) (N (o87 P) (N (o119 P) (N (o188 P) (N (o324 P) z z) z) (N (o258 P) z z)) (N (o154 P) (N (o224 P) (N (o356 P) z z) z) (N (o290 P) z z)))) (N (o61 P) (N (o79 P) (N (o111 P) (N (o180 P) (N (o316 P) z z) z) (N (o250 P) z z)) (N (o146 P) (N (o214 P) (N (o348 P) z z) z) (N (o282 P) z z))) (N (o95 P) (N (o127 P) (N (o198 P) (N (o332 P) z z) z) (N (o266 P) z z)) (N (o162 P) (N (o232 P) (N (o364 P) z z) z) (N (o300 P) z z))))) (N (o45 P) (N (o57 P) (N (o73 P) (N (o107 P) (N (o174 P) (N (o312 P) z z) z) (N (o246 P) z z)) (N (o142 P) (N (o210 P) (N (o344 P) z z) z) (N (o278 P) z z))) (N (o91 P) (N (o123 P) (N (o192 P) (N (o328 P) z z) z) (N (o262 P) z z)) (N (o158 P) (N (o228 P) (N (o360 P) z z) z) (N (o294 P) z z)))) (N (o65 P) (N (o83 P) (N (o115 P) (N (o184 P) (N (o320 P) z z) z) (N (o254 P) z z)) (N (o150 P) (N (o220 P) (N (o352 P) z z) z) (N (o286 P) z z))) (N (o99 P) (N (o131 P) (N (o202 P) (N (o336 P) z z) z) (N (o270 P) z z)) (N (o166 P) (N (o236 P) (N (o368 P) z z) z) (N (o304 P) z z))))))) (N (o137 P) (N (boot_o_4 P) (N (boot_o_8 P) (N (o52 P) (N (o68 P) (N (o102 P) (N (o169 P) (N (o307 P) z z) z) (N (o241 P) (N (o371 P) z z) z)) (N (o134 P) (N (o205 P) (N (o339 P) z z) z) (N (o273 P) z z))) (N (o86 P) (N (o118 P) (N (o187 P) (N (o323 P) z z) z) (N (o257 P) z z)) (N (o153 P) (N (o223 P) (N (o355 P) z z) z) (N (o289 P) z z)))) (N (o60 P) (N (o78 P) (N (o110 P) (N (o179 P) (N (o315 P) z z) z) (N (o249 P) z z)) (N (o145 P) (N (o213 P) (N (o347 P) z z) z) (N (o281 P) z z))) (N (o94 P) (N (o126 P) (N (o197 P) (N (o331 P) z z) z) (N (o265 P) z z)) (N (o161 P) (N (o231 P) (N (o363 P) z z) z) (N (o299 P) z z))))) (N (o298 P) (N (o56 P) (N (o72 P) (N (o106 P) (N (o173 P) (N (o311 P) z z) z) (N (o245 P) z z)) (N (o141 P) (N (o209 P) (N (o343 P) z z) z) (N (o277 P) z z))) (N (o90 P) (N (o122 P) (N (o191 P) (N (o327 P) z z) z) (N (o261 P) z z)) (N (o157 P) (N (o227 P) (N (o359 P) z z) z) (N (o293 P) z z)))) (N (o64 P) (N (o82 P) (N (o114 P) (N (o183 P) (N (o319 P) z z) z) (N (o253 P) z z)) (N (o149 P) (N (o219 P) (N (o351 P) z z) z) (N (o285 P) z z))) (N (o98 P) (N (o130 P) (N (o201 P) (N (o335 P) z z) z) (N (o269 P) z z)) (N (o165 P) (N (o235 P) (N (o367 P) z z) z) (N (o303 P) z z)))))) (N (boot_o_6 P) (N (boot_o_10 P) (N (o54 P) (N (o70 P) (N (o104 P) (N (o171 P) (N (o309 P) z z) z) (N (o243 P) z z)) (N (o136 P) (N (o207 P) (N (o341 P) z z) z) (N (o275 P) z z))) (N (o88 P) (N (o120 P) (N (o189 P) (N (o325 P) z z) z) (N (o259 P) z z)) (N (o155 P) (N (o225 P) (N (o357 P) z z) z) (N (o291 P) z z)))) (N (o62 P) (N (o80 P) (N (o112 P) (N (o181 P) (N (o317 P) z z) z) (N (o251 P) z z)) (N (o147 P) (N (o215 P) (N (o349 P) z z) z) (N (o283 P) z z))) (N (o96 P) (N (o128 P) (N (o199 P) (N (o333 P) z z) z) (N (o267 P) z z)) (N (o163 P) (N (o233 P) (N (o365 P) z z) z) (N (o301 P) z z))))) (N (o46 P) (N (o58 P) (N (o76 P) (N (o108 P) (N (o175 P) (N (o313 P) z z) z) (N (o247 P) z z)) (N (o143 P) (N (o211 P) (N (o345 P) z z) z) (N (o279 P) z z))) (N (o92 P) (N (o124 P) (N (o195 P) (N (o329 P) z z) z) (N (o263 P) z z)) (N (o159 P) (N (o229 P) (N (o361 P) z z) z) (N (o295 P) z z)))) (N (o66 P) (N (o84 P) (N (o116 P) (N (o185 P) (N (o321 P) z z) z) (N (o255 P) z z)) (N (o151 P) (N (o221 P) (N (o353 P) z z) z) (N (o287 P) z z))) (N (o100 P) (N (o132 P) (N (o203 P) (N (o337 P) z z) z) (N (o271 P) z z)) (N (o167 P) (N (o237 P) (N (o369 P) z z) z) (N (o305 P) z z))))))))
noncomputable def t457 (P : Params) : BT := (N (boot_o_0 P) (N (boot_o_1 P) (N (o372 P) (N (boot_o_7 P) (N (o51 P) (N (o67 P) (N (o101 P) (N (o168 P) (N (o306 P) z z) (N (o436 P) z z)) (N (o238 P) (N (o370 P) z z) z)) (N (o133 P) (N (o204 P) (N (o338 P) z z) z) (N (o272 P) (N (o404 P) z z) z))) (N (o85 P) (N (o117 P) (N (o186 P) (N (o322 P) z z) (N (o452 P) z z)) (N (o256 P) (N (o388 P) z z) z)) (N (o152 P) (N (o222 P) (N (o354 P) z z) z) (N (o288 P) (N (o420 P) z z) z)))) (N (o59 P) (N (o77 P) (N (o109 P) (N (o176 P) (N (o314 P) z z) (N (o444 P) z z)) (N (o248 P) (N (o380 P) z z) z)) (N (o144 P) (N (o212 P) (N (o346 P) z z) z) (N (o280 P) (N (o412 P) z z) z))) (N (o93 P) (N (o125 P) (N (o196 P) (N (o330 P) z z) z) (N (o264 P) (N (o396 P) z z) z)) (N (o160 P) (N (o230 P) (N (o362 P) z z) z) (N (o296 P) (N (o428 P) z z) z))))) (N (o43 P) (N (o55 P) (N (o71 P) (N (o105 P) (N (o172 P) (N (o310 P) z z) (N (o440 P) z z)) (N (o244 P) (N (o376 P) z z) z)) (N (o140 P) (N (o208 P) (N (o342 P) z z) z) (N (o276 P) (N (o408 P) z z) z))) (N (o89 P) (N (o121 P) (N (o190 P) (N (o326 P) z z) (N (o456 P) z z)) (N (o260 P) (N (o392 P) z z) z)) (N (o156 P) (N (o226 P) (N (o358 P) z z) z) (N (o292 P) (N (o424 P) z z) z)))) (N (o63 P) (N (o81 P) (N (o113 P) (N (o182 P) (N (o318 P) z z) (N (o448 P) z z)) (N (o252 P) (N (o384 P) z z) z)) (N (o148 P) (N (o218 P) (N (o350 P) z z) z) (N (o284 P) (N (o416 P) z z) z))) (N (o97 P) (N (o129 P) (N (o200 P) (N (o334 P) z z) z) (N (o268 P) (N (o400 P) z z) z)) (N (o164 P) (N (o234 P) (N (o366 P) z z) z) (N (o302 P) (N (o432 P) z z) z)))))) (N (boot_o_5 P) (N (boot_o_9 P) (N (o53 P) (N (o69 P) (N (o103 P) (N (o170 P) (N (o308 P) z z) (N (o438 P) z z)) (N (o242 P) (N (o374 P) z z) z)) (N (o135 P) (N (o206 P) (N (o340 P) z z) z) (N (o274 P) (N (o406 P) z z) z))) (N (o87 P) (N (o119 P) (N (o188 P) (N (o324 P) z z) (N (o454 P) z z)) (N (o258 P) (N (o390 P) z z) z)) (N (o154 P) (N (o224 P) (N (o356 P) z z) z) (N (o290 P) (N (o422 P) z z) z)))) (N (o61 P) (N (o79 P) (N (o111 P) (N (o180 P) (N (o316 P) z z) (N (o446 P) z z)) (N (o250 P) (N (o382 P) z z) z)) (N (o146 P) (N (o214 P) (N (o348 P) z z) z) (N (o282 P) (N (o414 P) z z) z))) (N (o95 P) (N (o127 P) (N (o198 P) (N (o332 P) z z) z) (N (o266 P) (N (o398 P) z z) z)) (N (o162 P) (N (o232 P) (N (o364 P) z z) z) (N (o300 P) (N (o430 P) z z) z))))) (N (o45 P) (N (o57 P) (N (o73 P) (N (o107 P) (N (o174 P) (N (o312 P) z z) (N (o442 P) z z)) (N (o246 P) (N (o378 P) z z) z)) (N (o142 P) (N (o210 P) (N (o344 P) z z) z) (N (o278 P) (N (o410 P) z z) z))) (N (o91 P) (N (o123 P) (N (o192 P) (N (o328 P) z z) z) (N (o262 P) (N (o394 P) z z) z)) (N (o158 P) (N (o228 P) (N (o360 P) z z) z) (N (o294 P) (N (o426 P) z z) z)))) (N (o65 P) (N (o83 P) (N (o115 P) (N (o184 P) (N (o320 P) z z) (N (o450 P) z z)) (N (o254 P) (N (o386 P) z z) z)) (N (o150 P) (N (o220 P) (N (o352 P) z z) z) (N (o286 P) (N (o418 P) z z) z))) (N (o99 P) (N (o131 P) (N (o202 P) (N (o336 P) z z) z) (N (o270 P) (N (o402 P) z z) z)) (N (o166 P) (N (o236 P) (N (o368 P) z z) z) (N (o304 P) (N (o434 P) z z) z))))))) (N (o137 P) (N (boot_o_4 P) (N (boot_o_8 P) (N (o52 P) (N (o68 P) (N (o102 P) (N (o169 P) (N (o307 P) z z) (N (o437 P) z z)) (N (o241 P) (N (o371 P) z z) z)) (N (o134 P) (N (o205 P) (N (o339 P) z z) z) (N (o273 P) (N (o405 P) z z) z))) (N (o86 P) (N (o118 P) (N (o187 P) (N (o323 P) z z) (N (o453 P) z z)) (N (o257 P) (N (o389 P) z z) z)) (N (o153 P) (N (o223 P) (N (o355 P) z z) z) (N (o289 P) (N (o421 P) z z) z)))) (N (o60 P) (N (o78 P) (N (o110 P) (N (o179 P) (N (o315 P) z z) (N (o445 P) z z)) (N (o249 P) (N (o381 P) z z) z)) (N (o145 P) (N (o213 P) (N (o347 P) z z) z) (N (o281 P) (N (o413 P) z z) z))) (N (o94 P) (N (o126 P) (N (o197 P) (N (o331 P) z z) z) (N (o265 P) (N (o397 P) z z) z)) (N (o161 P) (N (o231 P) (N (o363 P) z z) z) (N (o299 P) (N (o429 P) z z) z))))) (N (o373 P) (N (o56 P) (N (o72 P) (N (o106 P) (N (o173 P) (N (o311 P) z z) (N (o441 P) z z)) (N (o245 P) (N (o377 P) z z) z)) (N (o141 P) (N (o209 P) (N (o343 P) z z) z) (N (o277 P) (N (o409 P) z z) z))) (N (o90 P) (N (o122 P) (N (o191 P) (N (o327 P) z z) (N (o457 P) z z)) (N (o261 P) (N (o393 P) z z) z)) (N (o157 P) (N (o227 P) (N (o359 P) z z) z) (N (o293 P) (N (o425 P) z z) z)))) (N (o64 P) (N (o82 P) (N (o114 P) (N (o183 P) (N (o319 P) z z) (N (o449 P) z z)) (N (o253 P) (N (o385 P) z z) z)) (N (o149 P) (N (o219 P) (N (o351 P) z z) z) (N (o285 P) (N (o417 P) z z) z))) (N (o98 P) (N (o130 P) (N (o201 P) (N (o335 P) z z) z) (N (o269 P) (N (o401 P) z z) z)) (N (o165 P) (N (o235 P) (N (o367 P) z z) z) (N (o303 P) (N (o433 P) z z) z)))))) (N (boot_o_6 P) (N (boot_o_10 P) (N (o54 P) (N (o70 P) (N (o104 P) (N (o171 P) (N (o309 P) z z) (N (o439 P) z z)) (N (o243 P) (N (o375 P) z z) z)) (N (o136 P) (N (o207 P) (N (o341 P) z z) z) (N (o275 P) (N (o407 P) z z) z))) (N (o88 P) (N (o120 P) (N (o189 P) (N (o325 P) z z) (N (o455 P) z z)) (N (o259 P) (N (o391 P) z z) z)) (N (o155 P) (N (o225 P) (N (o357 P) z z) z) (N (o291 P) (N (o423 P) z z) z)))) (N (o62 P) (N (o80 P) (N (o112 P) (N (o181 P) (N (o317 P) z z) (N (o447 P) z z)) (N (o251 P) (N (o383 P) z z) z)) (N (o147 P) (N (o215 P) (N (o349 P) z z) z) (N (o283 P) (N (o415 P) z z) z))) (N (o96 P) (N (o128 P) (N (o199 P) (N (o333 P) z z) z) (N (o267 P) (N (o399 P) z z) z)) (N (o163 P) (N (o233 P) (N (o365 P) z z) z) (N (o301 P) (N (o431 P) z z) z))))) (N (o46 P) (N (o58 P) (N (o76 P) (N (o108 P) (N (o175 P) (N (o313 P) z z) (N (o443 P) z z)) (N (o247 P) (N (o379 P) z z) z)) (N (o143 P) (N (o211 P) (N (o345 P) z z) z) (N (o279 P) (N (o411 P) z z) z))) (N (o92 P) (N (o124 P) (N (o195 P) (N (o329 P) z z) z) (N (o263 P) (N (o395 P) z z) z)) (N (o159 P) (N (o229 P) (N (o361 P) z z) z) (N (o295 P) (N (o427 P) z z) z)))) (N (o66 P) (N (o84 P) (N (o116 P) (N (o185 P) (N (o321 P) z z) (N (o451 P) z z)) (N (o255 P) (N (o387 P) z z) z)) (N (o151 P) (N (o221 P) (N (o353 P) z z) z) (N (o287 P) (N (o419 P) z z) z))) (N (o100 P) (N (o132 P) (N (o203 P) (N (o337 P) z z) z) (N (o271 P) (N (o403 P) z z) z)) (N (o167 P) (N (o237 P) (N (o369 P) z z) z) (N (o305 P) (N (o435 P) z z) z))))))))
noncomputable def t508 (P : Params) : BT := (N (boot_o_0 P) (N (boot_o_1 P) (N (o458 P) (N (boot_o_7 P) (N (o51 P) (N (o67 P) (N (o101 P) (N (o168 P) (N (o306 P) z z) (N (o436 P) z z)) (N (o238 P) (N (o370 P) z z) (N (o502 P) z z))) (N (o133 P) (N (o204 P) (N (o338 P) z z) (N (o470 P) z z)) (N (o272 P) (N (o404 P) z z) z))) (N (o85 P) (N (o117 P) (N (o186 P) (N (o322 P) z z) (N (o452 P) z z)) (N (o256 P) (N (o388 P) z z) z)) (N (o152 P) (N (o222 P) (N (o354 P) z z) (N (o486 P) z z)) (N (o288 P) (N (o420 P) z z) z)))) (N (o59 P) (N (o77 P) (N (o109 P) (N (o176 P) (N (o314 P) z z) (N (o444 P) z z)) (N (o248 P) (N (o380 P) z z) z)) (N (o144 P) (N (o212 P) (N (o346 P) z z) (N (o478 P) z z)) (N (o280 P) (N (o412 P) z z) z))) (N (o93 P) (N (o125 P) (N (o196 P) (N (o330 P) z z) (N (o462 P) z z)) (N (o264 P) (N (o396 P) z z) z)) (N (o160 P) (N (o230 P) (N (o362 P) z z) (N (o494 P) z z)) (N (o296 P) (N (o428 P) z z) z))))) (N (o43 P) (N (o55 P) (N (o71 P) (N (o105 P) (N (o172 P) (N (o310 P) z z) (N (o440 P) z z)) (N (o244 P) (N (o376 P) z z) (N (o506 P) z z))) (N (o140 P) (N (o208 P) (N (o342 P) z z) (N (o474 P) z z)) (N (o276 P) (N (o408 P) z z) z))) (N (o89 P) (N (o121 P) (N (o190 P) (N (o326 P) z z) (N (o456 P) z z)) (N (o260 P) (N (o392 P) z z) z)) (N (o156 P) (N (o226 P) (N (o358 P) z z) (N (o490 P) z z)) (N (o292 P) (N (o424 P) z z) z)))) (N (o63 P) (N (o81 P) (N (o113 P) (N (o182 P) (N (o318 P) z z) (N (o448 P) z z)) (N (o252 P) (N (o384 P) z z) z)) (N (o148 P) (N (o218 P) (N (o350 P) z z) (N (o482 P) z z)) (N (o284 P) (N (o416 P) z z) z))) (N (o97 P) (N (o129 P) (N (o200 P) (N (o334 P) z z) (N (o466 P) z z)) (N (o268 P) (N (o400 P) z z) z)) (N (o164 P) (N (o234 P) (N (o366 P) z z) (N (o498 P) z z)) (N (o302 P) (N (o432 P) z z) z)))))) (N (boot_o_5 P) (N (boot_o_9 P) (N (o53 P) (N (o69 P) (N (o103 P) (N (o170 P) (N (o308 P) z z) (N (o438 P) z z)) (N (o242 P) (N (o374 P) z z) (N (o504 P) z z))) (N (o135 P) (N (o206 P) (N (o340 P) z z) (N (o472 P) z z)) (N (o274 P) (N (o406 P) z z) z))) (N (o87 P) (N (o119 P) (N (o188 P) (N (o324 P) z z) (N (o454 P) z z)) (N (o258 P) (N (o390 P) z z) z)) (N (o154 P) (N (o224 P) (N (o356 P) z z) (N (o488 P) z z)) (N (o290 P) (N (o422 P) z z) z)))) (N (o61 P) (N (o79 P) (N (o111 P) (N (o180 P) (N (o316 P) z z) (N (o446 P) z z)) (N (o250 P) (N (o382 P) z z) z)) (N (o146 P) (N (o214 P) (N (o348 P) z z) (N (o480 P) z z)) (N (o282 P) (N (o414 P) z z) z))) (N (o95 P) (N (o127 P) (N (o198 P) (N (o332 P) z z) (N (o464 P) z z)) (N (o266 P) (N (o398 P) z z) z)) (N (o162 P) (N (o232 P) (N (o364 P) z z) (N (o496 P) z z)) (N (o300 P) (N (o430 P) z z) z))))) (N (o45 P) (N (o57 P) (N (o73 P) (N (o107 P) (N (o174 P) (N (o312 P) z z) (N (o442 P) z z)) (N (o246 P) (N (o378 P) z z) (N (o508 P) z z))) (N (o142 P) (N (o210 P) (N (o344 P) z z) (N (o476 P) z z)) (N (o278 P) (N (o410 P) z z) z))) (N (o91 P) (N (o123 P) (N (o192 P) (N (o328 P) z z) (N (o460 P) z z)) (N (o262 P) (N (o394 P) z z) z)) (N (o158 P) (N (o228 P) (N (o360 P) z z) (N (o492 P) z z)) (N (o294 P) (N (o426 P) z z) z)))) (N (o65 P) (N (o83 P) (N (o115 P) (N (o184 P) (N (o320 P) z z) (N (o450 P) z z)) (N (o254 P) (N (o386 P) z z) z)) (N (o150 P) (N (o220 P) (N (o352 P) z z) (N (o484 P) z z)) (N (o286 P) (N (o418 P) z z) z))) (N (o99 P) (N (o131 P) (N (o202 P) (N (o336 P) z z) (N (o468 P) z z)) (N (o270 P) (N (o402 P) z z) z)) (N (o166 P) (N (o236 P) (N (o368 P) z z) (N (o500 P) z z)) (N (o304 P) (N (o434 P) z z) z))))))) (N (o137 P) (N (boot_o_4 P) (N (boot_o_8 P) (N (o52 P) (N (o68 P) (N (o102 P) (N (o169 P) (N (o307 P) z z) (N (o437 P) z z)) (N (o241 P) (N (o371 P) z z) (N (o503 P) z z))) (N (o134 P) (N (o205 P) (N (o339 P) z z) (N (o471 P) z z)) (N (o273 P) (N (o405 P) z z) z))) (N (o86 P) (N (o118 P) (N (o187 P) (N (o323 P) z z) (N (o453 P) z z)) (N (o257 P) (N (o389 P) z z) z)) (N (o153 P) (N (o223 P) (N (o355 P) z z) (N (o487 P) z z)) (N (o289 P) (N (o421 P) z z) z)))) (N (o60 P) (N (o78 P) (N (o110 P) (N (o179 P) (N (o315 P) z z) (N (o445 P) z z)) (N (o249 P) (N (o381 P) z z) z)) (N (o145 P) (N (o213 P) (N (o347 P) z z) (N (o479 P) z z)) (N (o281 P) (N (o413 P) z z) z))) (N (o94 P) (N (o126 P) (N (o197 P) (N (o331 P) z z) (N (o463 P) z z)) (N (o265 P) (N (o397 P) z z) z)) (N (o161 P) (N (o231 P) (N (o363 P) z z) (N (o495 P) z z)) (N (o299 P) (N (o429 P) z z) z))))) (N (o459 P) (N (o56 P) (N (o72 P) (N (o106 P) (N (o173 P) (N (o311 P) z z) (N (o441 P) z z)) (N (o245 P) (N (o377 P) z z) (N (o507 P) z z))) (N (o141 P) (N (o209 P) (N (o343 P) z z) (N (o475 P) z z)) (N (o277 P) (N (o409 P) z z) z))) (N (o90 P) (N (o122 P) (N (o191 P) (N (o327 P) z z) (N (o457 P) z z)) (N (o261 P) (N (o393 P) z z) z)) (N (o157 P) (N (o227 P) (N (o359 P) z z) (N (o491 P) z z)) (N (o293 P) (N (o425 P) z z) z)))) (N (o64 P) (N (o82 P) (N (o114 P) (N (o183 P) (N (o319 P) z z) (N (o449 P) z z)) (N (o253 P) (N (o385 P) z z) z)) (N (o149 P) (N (o219 P) (N (o351 P) z z) (N (o483 P) z z)) (N (o285 P) (N (o417 P) z z) z))) (N (o98 P) (N (o130 P) (N (o201 P) (N (o335 P) z z) (N (o467 P) z z)) (N (o269 P) (N (o401 P) z z) z)) (N (o165 P) (N (o235 P) (N (o367 P) z z) (N (o499 P) z z)) (N (o303 P) (N (o433 P) z z) z)))))) (N (boot_o_6 P) (N (boot_o_10 P) (N (o54 P) (N (o70 P) (N (o104 P) (N (o171 P) (N (o309 P) z z) (N (o439 P) z z)) (N (o243 P) (N (o375 P) z z) (N (o505 P) z z))) (N (o136 P) (N (o207 P) (N (o341 P) z z) (N (o473 P) z z)) (N (o275 P) (N (o407 P) z z) z))) (N (o88 P) (N (o120 P) (N (o189 P) (N (o325 P) z z) (N (o455 P) z z)) (N (o259 P) (N (o391 P) z z) z)) (N (o155 P) (N (o225 P) (N (o357 P) z z) (N (o489 P) z z)) (N (o291 P) (N (o423 P) z z) z)))) (N (o62 P) (N (o80 P) (N (o112 P) (N (o181 P) (N (o317 P) z z) (N (o447 P) z z)) (N (o251 P) (N (o383 P) z z) z)) (N (o147 P) (N (o215 P) (N (o349 P) z z) (N (o481 P) z z)) (N (o283 P) (N (o415 P) z z) z))) (N (o96 P) (N (o128 P) (N (o199 P) (N (o333 P) z z) (N (o465 P) z z)) (N (o267 P) (N (o399 P) z z) z)) (N (o163 P) (N (o233 P) (N (o365 P) z z) (N (o497 P) z z)) (N (o301 P) (N (o431 P) z z) z))))) (N (o46 P) (N (o58 P) (N (o76 P) (N (o108 P) (N (o175 P) (N (o313 P) z z) (N (o443 P) z z)) (N (o247 P) (N (o379 P) z z) z)) (N (o143 P) (N (o211 P) (N (o345 P) z z) (N (o477 P) z z)) (N (o279 P) (N (o411 P) z z) z))) (N (o92 P) (N (o124 P) (N (o195 P) (N (o329 P) z z) (N (o461 P) z z)) (N (o263 P) (N (o395 P) z z) z)) (N (o159 P) (N (o229 P) (N (o361 P) z z) (N (o493 P) z z)) (N (o295 P) (N (o427 P) z z) z)))) (N (o66 P) (N (o84 P) (N (o116 P) (N (o185 P) (N (o321 P) z z) (N (o451 P) z z)) (N (o255 P) (N (o387 P) z z) z)) (N (o151 P) (N (o221 P) (N (o353 P) z z) (N (o485 P) z z)) (N (o287 P) (N (o419 P) z z) z))) (N (o100 P) (N (o132 P) (N (o203 P) (N (o337 P) z z) (N (o469 P) z z)) (N (o271 P) (N (o403 P) z z) z)) (N (o167 P) (N (o237 P) (N (o369 P) z z) (N (o501 P) z z)) (N (o305 P) (N (o435 P) z z) z))))))))
noncomputable def t587 (P : Params) : BT := (N (boot_o_0 P) (N (boot_o_1 P) (N (o509 P) (N (boot_o_7 P) (N (o51 P) (N (o67 P) (N (o101 P) (N (o168 P) (N (o306 P) (N (o568 P) z z) z) (N (o436 P) z z)) (N (o238 P) (N (o370 P) z z) (N (o502 P) z z))) (N (o133 P) (N (o204 P) (N (o338 P) z z) (N (o470 P) z z)) (N (o272 P) (N (o404 P) z z) (N (o536 P) z z)))) (N (o85 P) (N (o117 P) (N (o186 P) (N (o322 P) (N (o584 P) z z) z) (N (o452 P) z z)) (N (o256 P) (N (o388 P) z z) (N (o520 P) z z))) (N (o152 P) (N (o222 P) (N (o354 P) z z) (N (o486 P) z z)) (N (o288 P) (N (o420 P) z z) (N (o552 P) z z))))) (N (o59 P) (N (o77 P) (N (o109 P) (N (o176 P) (N (o314 P) (N (o576 P) z z) z) (N (o444 P) z z)) (N (o248 P) (N (o380 P) z z) (N (o512 P) z z))) (N (o144 P) (N (o212 P) (N (o346 P) z z) (N (o478 P) z z)) (N (o280 P) (N (o412 P) z z) (N (o544 P) z z)))) (N (o93 P) (N (o125 P) (N (o196 P) (N (o330 P) z z) (N (o462 P) z z)) (N (o264 P) (N (o396 P) z z) (N (o528 P) z z))) (N (o160 P) (N (o230 P) (N (o362 P) z z) (N (o494 P) z z)) (N (o296 P) (N (o428 P) z z) (N (o560 P) z z)))))) (N (o43 P) (N (o55 P) (N (o71 P) (N (o105 P) (N (o172 P) (N (o310 P) (N (o572 P) z z) z) (N (o440 P) z z)) (N (o244 P) (N (o376 P) z z) (N (o506 P) z z))) (N (o140 P) (N (o208 P) (N (o342 P) z z) (N (o474 P) z z)) (N (o276 P) (N (o408 P) z z) (N (o540 P) z z)))) (N (o89 P) (N (o121 P) (N (o190 P) (N (o326 P) z z) (N (o456 P) z z)) (N (o260 P) (N (o392 P) z z) (N (o524 P) z z))) (N (o156 P) (N (o226 P) (N (o358 P) z z) (N (o490 P) z z)) (N (o292 P) (N (o424 P) z z) (N (o556 P) z z))))) (N (o63 P) (N (o81 P) (N (o113 P) (N (o182 P) (N (o318 P) (N (o580 P) z z) z) (N (o448 P) z z)) (N (o252 P) (N (o384 P) z z) (N (o516 P) z z))) (N (o148 P) (N (o218 P) (N (o350 P) z z) (N (o482 P) z z)) (N (o284 P) (N (o416 P) z z) (N (o548 P) z z)))) (N (o97 P) (N (o129 P) (N (o200 P) (N (o334 P) z z) (N (o466 P) z z)) (N (o268 P) (N (o400 P) z z) (N (o532 P) z z))) (N (o164 P) (N (o234 P) (N (o366 P) z z) (N (o498 P) z z)) (N (o302 P) (N (o432 P) z z) (N (o564 P) z z))))))) (N (boot_o_5 P) (N (boot_o_9 P) (N (o53 P) (N (o69 P) (N (o103 P) (N (o170 P) (N (o308 P) (N (o570 P) z z) z) (N (o438 P) z z)) (N (o242 P) (N (o374 P) z z) (N (o504 P) z z))) (N (o135 P) (N (o206 P) (N (o340 P) z z) (N (o472 P) z z)) (N (o274 P) (N (o406 P) z z) (N (o538 P) z z)))) (N (o87 P) (N (o119 P) (N (o188 P) (N (o324 P) (N (o586 P) z z) z) (N (o454 P) z z)) (N (o258 P) (N (o390 P) z z) (N (o522 P) z z))) (N (o154 P) (N (o224 P) (N (o356 P) z z) (N (o488 P) z z)) (N (o290 P) (N (o422 P) z z) (N (o554 P) z z))))) (N (o61 P) (N (o79 P) (N (o111 P) (N (o180 P) (N (o316 P) (N (o578 P) z z) z) (N (o446 P) z z)) (N (o250 P) (N (o382 P) z z) (N (o514 P) z z))) (N (o146 P) (N (o214 P) (N (o348 P) z z) (N (o480 P) z z)) (N (o282 P) (N (o414 P) z z) (N (o546 P) z z)))) (N (o95 P) (N (o127 P) (N (o198 P) (N (o332 P) z z) (N (o464 P) z z)) (N (o266 P) (N (o398 P) z z) (N (o530 P) z z))) (N (o162 P) (N (o232 P) (N (o364 P) z z) (N (o496 P) z z)) (N (o300 P) (N (o430 P) z z) (N (o562 P) z z)))))) (N (o45 P) (N (o57 P) (N (o73 P) (N (o107 P) (N (o174 P) (N (o312 P) (N (o574 P) z z) z) (N (o442 P) z z)) (N (o246 P) (N (o378 P) z z) (N (o508 P) z z))) (N (o142 P) (N (o210 P) (N (o344 P) z z) (N (o476 P) z z)) (N (o278 P) (N (o410 P) z z) (N (o542 P) z z)))) (N (o91 P) (N (o123 P) (N (o192 P) (N (o328 P) z z) (N (o460 P) z z)) (N (o262 P) (N (o394 P) z z) (N (o526 P) z z))) (N (o158 P) (N (o228 P) (N (o360 P) z z) (N (o492 P) z z)) (N (o294 P) (N (o426 P) z z) (N (o558 P) z z))))) (N (o65 P) (N (o83 P) (N (o115 P) (N (o184 P) (N (o320 P) (N (o582 P) z z) z) (N (o450 P) z z)) (N (o254 P) (N (o386 P) z z) (N (o518 P) z z))) (N (o150 P) (N (o220 P) (N (o352 P) z z) (N (o484 P) z z)) (N (o286 P) (N (o418 P) z z) (N (o550 P) z z)))) (N (o99 P) (N (o131 P) (N (o202 P) (N (o336 P) z z) (N (o468 P) z z)) (N (o270 P) (N (o402 P) z z) (N (o534 P) z z))) (N (o166 P) (N (o236 P) (N (o368 P) z z) (N (o500 P) z z)) (N (o304 P) (N (o434 P) z z) (N (o566 P) z z)))))))) (N (o137 P) (N (boot_o_4 P) (N (boot_o_8 P) (N (o52 P) (N (o68 P) (N (o102 P) (N (o169 P) (N (o307 P) (N (o569 P) z z) z) (N (o437 P) z z)) (N (o241 P) (N (o371 P) z z) (N (o503 P) z z))) (N (o134 P) (N (o205 P) (N (o339 P) z z) (N (o471 P) z z)) (N (o273 P) (N (o405 P) z z) (N (o537 P) z z)))) (N (o86 P) (N (o118 P) (N (o187 P) (N (o323 P) (N (o585 P) z z) z) (N (o453 P) z z)) (N (o257 P) (N (o389 P) z z) (N (o521 P) z z))) (N (o153 P) (N (o223 P) (N (o355 P) z z) (N (o487 P) z z)) (N (o289 P) (N (o421 P) z z) (N (o553 P) z z))))) (N (o60 P) (N (o78 P) (N (o110 P) (N (o179 P) (N (o315 P) (N (o577 P) z z) z) (N (o445 P) z z)) (N (o249 P) (N (o381 P) z z) (N (o513 P) z z))) (N (o145 P) (N (o213 P) (N (o347 P) z z) (N (o479 P) z z)) (N (o281 P) (N (o413 P) z z) (N (o545 P) z z)))) (N (o94 P) (N (o126 P) (N (o197 P) (N (o331 P) z z) (N (o463 P) z z)) (N (o265 P) (N (o397 P) z z) (N (o529 P) z z))) (N (o161 P) (N (o231 P) (N (o363 P) z z) (N (o495 P) z z)) (N (o299 P) (N (o429 P) z z) (N (o561 P) z z)))))) (N (o510 P) (N (o56 P) (N (o72 P) (N (o106 P) (N (o173 P) (N (o311 P) (N (o573 P) z z) z) (N (o441 P) z z)) (N (o245 P) (N (o377 P) z z) (N (o507 P) z z))) (N (o141 P) (N (o209 P) (N (o343 P) z z) (N (o475 P) z z)) (N (o277 P) (N (o409 P) z z) (N (o541 P) z z)))) (N (o90 P) (N (o122 P) (N (o191 P) (N (o327 P) z z) (N (o457 P) z z)) (N (o261 P) (N (o393 P) z z) (N (o525 P) z z))) (N (o157 P) (N (o227 P) (N (o359 P) z z) (N (o491 P) z z)) (N (o293 P) (N (o425 P) z z) (N (o557 P) z z))))) (N (o64 P) (N (o82 P) (N (o114 P) (N (o183 P) (N (o319 P) (N (o581 P) z z) z) (N (o449 P) z z)) (N (o253 P) (N (o385 P) z z) (N (o517 P) z z))) (N (o149 P) (N (o219 P) (N (o351 P) z z) (N (o483 P) z z)) (N (o285 P) (N (o417 P) z z) (N (o549 P) z z)))) (N (o98 P) (N (o130 P) (N (o201 P) (N (o335 P) z z) (N (o467 P) z z)) (N (o269 P) (N (o401 P) z z) (N (o533 P) z z))) (N (o165 P) (N (o235 P) (N (o367 P) z z) (N (o499 P) z z)) (N (o303 P) (N (o433 P) z z) (N (o565 P) z z))))))) (N (boot_o_6 P) (N (boot_o_10 P) (N (o54 P) (N (o70 P) (N (o104 P) (N (o171 P) (N (o309 P) (N (o571 P) z z) z) (N (o439 P) z z)) (N (o243 P) (N (o375 P) z z) (N (o505 P) z z))) (N (o136 P) (N (o207 P) (N (o341 P) z z) (N (o473 P) z z)) (N (o275 P) (N (o407 P) z z) (N (o539 P) z z)))) (N (o88 P) (N (o120 P) (N (o189 P) (N (o325 P) (N (o587 P) z z) z) (N (o455 P) z z)) (N (o259 P) (N (o391 P) z z) (N (o523 P) z z))) (N (o155 P) (N (o225 P) (N (o357 P) z z) (N (o489 P) z z)) (N (o291 P) (N (o423 P) z z) (N (o555 P) z z))))) (N (o62 P) (N (o80 P) (N (o112 P) (N (o181 P) (N (o317 P) (N (o579 P) z z) z) (N (o447 P) z z)) (N (o251 P) (N (o383 P) z z) (N (o515 P) z z))) (N (o147 P) (N (o215 P) (N (o349 P) z z) (N (o481 P) z z)) (N (o283 P) (N (o415 P) z z) (N (o547 P) z z)))) (N (o96 P) (N (o128 P) (N (o199 P) (N (o333 P) z z) (N (o465 P) z z)) (N (o267 P) (N (o399 P) z z) (N (o531 P) z z))) (N (o163 P) (N (o233 P) (N (o365 P) z z) (N (o497 P) z z)) (N (o301 P) (N (o431 P) z z) (N (o563 P) z z)))))) (N (o46 P) (N (o58 P) (N (o76 P) (N (o108 P) (N (o175 P) (N (o313 P) (N (o575 P) z z) z) (N (o443 P) z z)) (N (o247 P) (N (o379 P) z z) (N (o511 P) z z))) (N (o143 P) (N (o211 P) (N (o345 P) z z) (N (o477 P) z z)) (N (o279 P) (N (o411 P) z z) (N (o543 P) z z)))) (N (o92 P) (N (o124 P) (N (o195 P) (N (o329 P) z z) (N (o461 P) z z)) (N (o263 P) (N (o395 P) z z) (N (o527 P) z z))) (N (o159 P) (N (o229 P) (N (o361 P) z z) (N (o493 P) z z)) (N (o295 P) (N (o427 P) z z) (N (o559 P) z z))))) (N (o66 P) (N (o84 P) (N (o116 P) (N (o185 P) (N (o321 P) (N (o583 P) z z) z) (N (o451 P) z z)) (N (o255 P) (N (o387 P) z z) (N (o519 P) z z))) (N (o151 P) (N (o221 P) (N (o353 P) z z) (N (o485 P) z z)) (N (o287 P) (N (o419 P) z z) (N (o551 P) z z)))) (N (o100 P) (N (o132 P) (N (o203 P) (N (o337 P) z z) (N (o469 P) z z)) (N (o271 P) (N (o403 P) z z) (N (o535 P) z z))) (N (o167 P) (N (o237 P) (N (o369 P) z z) (N (o501 P) z z)) (N (o305 P) (N (o435 P) z z) (N (o567 P) z z)))))))))
noncomputable def t610 (P : Params) : BT := (N (boot_o_0 P) (N (boot_o_1 P) (N (o588 P) (N (boot_o_7 P) (N (o51 P) (N (o67 P) (N (o101 P) (N (o168 P) (N (o306 P) (N (o568 P) z z) z) (N (o436 P) z z)) (N (o238 P) (N (o370 P) z z) (N (o502 P) z z))) (N (o133 P) (N (o204 P) (N (o338 P) (N (o602 P) z z) z) (N (o470 P) z z)) (N (o272 P) (N (o404 P) z z) (N (o536 P) z z)))) (N (o85 P) (N (o117 P) (N (o186 P) (N (o322 P) (N (o584 P) z z) z) (N (o452 P) z z)) (N (o256 P) (N (o388 P) z z) (N (o520 P) z z))) (N (o152 P) (N (o222 P) (N (o354 P) z z) (N (o486 P) z z)) (N (o288 P) (N (o420 P) z z) (N (o552 P) z z))))) (N (o59 P) (N (o77 P) (N (o109 P) (N (o176 P) (N (o314 P) (N (o576 P) z z) z) (N (o444 P) z z)) (N (o248 P) (N (o380 P) z z) (N (o512 P) z z))) (N (o144 P) (N (o212 P) (N (o346 P) (N (o610 P) z z) z) (N (o478 P) z z)) (N (o280 P) (N (o412 P) z z) (N (o544 P) z z)))) (N (o93 P) (N (o125 P) (N (o196 P) (N (o330 P) (N (o594 P) z z) z) (N (o462 P) z z)) (N (o264 P) (N (o396 P) z z) (N (o528 P) z z))) (N (o160 P) (N (o230 P) (N (o362 P) z z) (N (o494 P) z z)) (N (o296 P) (N (o428 P) z z) (N (o560 P) z z)))))) (N (o43 P) (N (o55 P) (N (o71 P) (N (o105 P) (N (o172 P) (N (o310 P) (N (o572 P) z z) z) (N (o440 P) z z)) (N (o244 P) (N (o376 P) z z) (N (o506 P) z z))) (N (o140 P) (N (o208 P) (N (o342 P) (N (o606 P) z z) z) (N (o474 P) z z)) (N (o276 P) (N (o408 P) z z) (N (o540 P) z z)))) (N (o89 P) (N (o121 P) (N (o190 P) (N (o326 P) (N (o590 P) z z) z) (N (o456 P) z z)) (N (o260 P) (N (o392 P) z z) (N (o524 P) z z))) (N (o156 P) (N (o226 P) (N (o358 P) z z) (N (o490 P) z z)) (N (o292 P) (N (o424 P) z z) (N (o556 P) z z))))) (N (o63 P) (N (o81 P) (N (o113 P) (N (o182 P) (N (o318 P) (N (o580 P) z z) z) (N (o448 P) z z)) (N (o252 P) (N (o384 P) z z) (N (o516 P) z z))) (N (o148 P) (N (o218 P) (N (o350 P) z z) (N (o482 P) z z)) (N (o284 P) (N (o416 P) z z) (N (o548 P) z z)))) (N (o97 P) (N (o129 P) (N (o200 P) (N (o334 P) (N (o598 P) z z) z) (N (o466 P) z z)) (N (o268 P) (N (o400 P) z z) (N (o532 P) z z))) (N (o164 P) (N (o234 P) (N (o366 P) z z) (N (o498 P) z z)) (N (o302 P) (N (o432 P) z z) (N (o564 P) z z))))))) (N (boot_o_5 P) (N (boot_o_9 P) (N (o53 P) (N (o69 P) (N (o103 P) (N (o170 P) (N (o308 P) (N (o570 P) z z) z) (N (o438 P) z z)) (N (o242 P) (N (o374 P) z z) (N (o504 P) z z))) (N (o135 P) (N (o206 P) (N (o340 P) (N (o604 P) z z) z) (N (o472 P) z z)) (N (o274 P) (N (o406 P) z z) (N (o538 P) z z)))) (N (o87 P) (N (o119 P) (N (o188 P) (N (o324 P) (N (o586 P) z z) z) (N (o454 P) z z)) (N (o258 P) (N (o390 P) z z) (N (o522 P) z z))) (N (o154 P) (N (o224 P) (N (o356 P) z z) (N (o488 P) z z)) (N (o290 P) (N (o422 P) z z) (N (o554 P) z z))))) (N (o61 P) (N (o79 P) (N (o111 P) (N (o180 P) (N (o316 P) (N (o578 P) z z) z) (N (o446 P) z z)) (N (o250 P) (N (o382 P) z z) (N (o514 P) z z))) (N (o146 P) (N (o214 P) (N (o348 P) z z) (N (o480 P) z z)) (N (o282 P) (N (o414 P) z z) (N (o546 P) z z)))) (N (o95 P) (N (o127 P) (N (o198 P) (N (o332 P) (N (o596 P) z z) z) (N (o464 P) z z)) (N (o266 P) (N (o398 P) z z) (N (o530 P) z z))) (N (o162 P) (N (o232 P) (N (o364 P) z z) (N (o496 P) z z)) (N (o300 P) (N (o430 P) z z) (N (o562 P) z z)))))) (N (o45 P) (N (o57 P) (N (o73 P) (N (o107 P) (N (o174 P) (N (o312 P) (N (o574 P) z z) z) (N (o442 P) z z)) (N (o246 P) (N (o378 P) z z) (N (o508 P) z z))) (N (o142 P) (N (o210 P) (N (o344 P) (N (o608 P) z z) z) (N (o476 P) z z)) (N (o278 P) (N (o410 P) z z) (N (o542 P) z z)))) (N (o91 P) (N (o123 P) (N (o192 P) (N (o328 P) (N (o592 P) z z) z) (N (o460 P) z z)) (N (o262 P) (N (o394 P) z z) (N (o526 P) z z))) (N (o158 P) (N (o228 P) (N (o360 P) z z) (N (o492 P) z z)) (N (o294 P) (N (o426 P) z z) (N (o558 P) z z))))) (N (o65 P) (N (o83 P) (N (o115 P) (N (o184 P) (N (o320 P) (N (o582 P) z z) z) (N (o450 P) z z)) (N (o254 P) (N (o386 P) z z) (N (o518 P) z z))) (N (o150 P) (N (o220 P) (N (o352 P) z z) (N (o484 P) z z)) (N (o286 P) (N (o418 P) z z) (N (o550 P) z z)))) (N (o99 P) (N (o131 P) (N (o202 P) (N (o336 P) (N (o600 P) z z) z) (N (o468 P) z z)) (N (o270 P) (N (o402 P) z z) (N (o534 P) z z))) (N (o166 P) (N (o236 P) (N (o368 P) z z) (N (o500 P) z z)) (N (o304 P) (N (o434 P) z z) (N (o566 P) z z)))))))) (N (o137 P) (N (boot_o_4 P) (N (boot_o_8 P) (N (o52 P) (N (o68 P) (N (o102 P) (N (o169 P) (N (o307 P) (N (o569 P) z z) z) (N (o437 P) z z)) (N (o241 P) (N (o371 P) z z) (N (o503 P) z z))) (N (o134 P) (N (o205 P) (N (o339 P) (N (o603 P) z z) z) (N (o471 P) z z)) (N (o273 P) (N (o405 P) z z) (N (o537 P) z z)))) (N (o86 P) (N (o118 P) (N (o187 P) (N (o323 P) (N (o585 P) z z) z) (N (o453 P) z z)) (N (o257 P) (N (o389 P) z z) (N (o521 P) z z))) (N (o153 P) (N (o223 P) (N (o355 P) z z) (N (o487 P) z z)) (N (o289 P) (N (o421 P) z z) (N (o553 P) z z))))) (N (o60 P) (N (o78 P) (N (o110 P) (N (o179 P) (N (o315 P) (N (o577 P) z z) z) (N (o445 P) z z)) (N (o249 P) (N (o381 P) z z) (N (o513 P) z z))) (N (o145 P) (N (o213 P) (N (o347 P) z z) (N (o479 P) z z)) (N (o281 P) (N (o413 P) z z) (N (o545 P) z z)))) (N (o94 P) (N (o126 P) (N (o197 P) (N (o331 P) (N (o595 P) z z) z) (N (o463 P) z z)) (N (o265 P) (N (o397 P) z z) (N (o529 P) z z))) (N (o161 P) (N (o231 P) (N (o363 P) z z) (N (o495 P) z z)) (N (o299 P) (N (o429 P) z z) (N (o561 P) z z)))))) (N (o589 P) (N (o56 P) (N (o72 P) (N (o106 P) (N (o173 P) (N (o311 P) (N (o573 P) z z) z) (N (o441 P) z z)) (N (o245 P) (N (o377 P) z z) (N (o507 P) z z))) (N (o141 P) (N (o209 P) (N (o343 P) (N (o607 P) z z) z) (N (o475 P) z z)) (N (o277 P) (N (o409 P) z z) (N (o541 P) z z)))) (N (o90 P) (N (o122 P) (N (o191 P) (N (o327 P) (N (o591 P) z z) z) (N (o457 P) z z)) (N (o261 P) (N (o393 P) z z) (N (o525 P) z z))) (N (o157 P) (N (o227 P) (N (o359 P) z z) (N (o491 P) z z)) (N (o293 P) (N (o425 P) z z) (N (o557 P) z z))))) (N (o64 P) (N (o82 P) (N (o114 P) (N (o183 P) (N (o319 P) (N (o581 P) z z) z) (N (o449 P) z z)) (N (o253 P) (N (o385 P) z z) (N (o517 P) z z))) (N (o149 P) (N (o219 P) (N (o351 P) z z) (N (o483 P) z z)) (N (o285 P) (N (o417 P) z z) (N (o549 P) z z)))) (N (o98 P) (N (o130 P) (N (o201 P) (N (o335 P) (N (o599 P) z z) z) (N (o467 P) z z)) (N (o269 P) (N (o401 P) z z) (N (o533 P) z z))) (N (o165 P) (N (o235 P) (N (o367 P) z z) (N (o499 P) z z)) (N (o303 P) (N (o433 P) z z) (N (o565 P) z z))))))) (N (boot_o_6 P) (N (boot_o_10 P) (N (o54 P) (N (o70 P) (N (o104 P) (N (o171 P) (N (o309 P) (N (o571 P) z z) z) (N (o439 P) z z)) (N (o243 P) (N (o375 P) z z) (N (o505 P) z z))) (N (o136 P) (N (o207 P) (N (o341 P) (N (o605 P) z z) z) (N (o473 P) z z)) (N (o275 P) (N (o407 P) z z) (N (o539 P) z z)))) (N (o88 P) (N (o120 P) (N (o189 P) (N (o325 P) (N (o587 P) z z) z) (N (o455 P) z z)) (N (o259 P) (N (o391 P) z z) (N (o523 P) z z))) (N (o155 P) (N (o225 P) (N (o357 P) z z) (N (o489 P) z z)) (N (o291 P) (N (o423 P) z z) (N (o555 P) z z))))) (N (o62 P) (N (o80 P) (N (o112 P) (N (o181 P) (N (o317 P) (N (o579 P) z z) z) (N (o447 P) z z)) (N (o251 P) (N (o383 P) z z) (N (o515 P) z z))) (N (o147 P) (N (o215 P) (N (o349 P) z z) (N (o481 P) z z)) (N (o283 P) (N (o415 P) z z) (N (o547 P) z z)))) (N (o96 P) (N (o128 P) (N (o199 P) (N (o333 P) (N (o597 P) z z) z) (N (o465 P) z z)) (N (o267 P) (N (o399 P) z z) (N (o531 P) z z))) (N (o163 P) (N (o233 P) (N (o365 P) z z) (N (o497 P) z z)) (N (o301 P) (N (o431 P) z z) (N (o563 P) z z)))))) (N (o46 P) (N (o58 P) (N (o76 P) (N (o108 P) (N (o175 P) (N (o313 P) (N (o575 P) z z) z) (N (o443 P) z z)) (N (o247 P) (N (o379 P) z z) (N (o511 P) z z))) (N (o143 P) (N (o211 P) (N (o345 P) (N (o609 P) z z) z) (N (o477 P) z z)) (N (o279 P) (N (o411 P) z z) (N (o543 P) z z)))) (N (o92 P) (N (o124 P) (N (o195 P) (N (o329 P) (N (o593 P) z z) z) (N (o461 P) z z)) (N (o263 P) (N (o395 P) z z) (N (o527 P) z z))) (N (o159 P) (N (o229 P) (N (o361 P) z z) (N (o493 P) z z)) (N (o295 P) (N (o427 P) z z) (N (o559 P) z z))))) (N (o66 P) (N (o84 P) (N (o116 P) (N (o185 P) (N (o321 P) (N (o583 P) z z) z) (N (o451 P) z z)) (N (o255 P) (N (o387 P) z z) (N (o519 P) z z))) (N (o151 P) (N (o221 P) (N (o353 P) z z) (N (o485 P) z z)) (N (o287 P) (N (o419 P) z z) (N (o551 P) z z)))) (N (o100 P) (N (o132 P) (N (o203 P) (N (o337 P) (N (o601 P) z z) z) (N (o469 P) z z)) (N (o271 P) (N (o403 P) z z) (N (o535 P) z z))) (N (o167 P) (N (o237 P) (N (o369 P) z z) (N (o501 P) z z)) (N (o305 P) (N (o435 P) z z) (N (o567 P) z z)))))))))
noncomputable def t661 (P : Params) : BT := (N (boot_o_0 P) (N (boot_o_1 P) (N (o611 P) (N (boot_o_7 P) (N (o51 P) (N (o67 P) (N (o101 P) (N (o168 P) (N (o306 P) (N (o568 P) z z) z) (N (o436 P) z z)) (N (o238 P) (N (o370 P) (N (o636 P) z z) z) (N (o502 P) z z))) (N (o133 P) (N (o204 P) (N (o338 P) (N (o602 P) z z) z) (N (o470 P) z z)) (N (o272 P) (N (o404 P) z z) (N (o536 P) z z)))) (N (o85 P) (N (o117 P) (N (o186 P) (N (o322 P) (N (o584 P) z z) z) (N (o452 P) z z)) (N (o256 P) (N (o388 P) (N (o652 P) z z) z) (N (o520 P) z z))) (N (o152 P) (N (o222 P) (N (o354 P) (N (o620 P) z z) z) (N (o486 P) z z)) (N (o288 P) (N (o420 P) z z) (N (o552 P) z z))))) (N (o59 P) (N (o77 P) (N (o109 P) (N (o176 P) (N (o314 P) (N (o576 P) z z) z) (N (o444 P) z z)) (N (o248 P) (N (o380 P) (N (o644 P) z z) z) (N (o512 P) z z))) (N (o144 P) (N (o212 P) (N (o346 P) (N (o610 P) z z) z) (N (o478 P) z z)) (N (o280 P) (N (o412 P) z z) (N (o544 P) z z)))) (N (o93 P) (N (o125 P) (N (o196 P) (N (o330 P) (N (o594 P) z z) z) (N (o462 P) z z)) (N (o264 P) (N (o396 P) (N (o660 P) z z) z) (N (o528 P) z z))) (N (o160 P) (N (o230 P) (N (o362 P) (N (o628 P) z z) z) (N (o494 P) z z)) (N (o296 P) (N (o428 P) z z) (N (o560 P) z z)))))) (N (o43 P) (N (o55 P) (N (o71 P) (N (o105 P) (N (o172 P) (N (o310 P) (N (o572 P) z z) z) (N (o440 P) z z)) (N (o244 P) (N (o376 P) (N (o640 P) z z) z) (N (o506 P) z z))) (N (o140 P) (N (o208 P) (N (o342 P) (N (o606 P) z z) z) (N (o474 P) z z)) (N (o276 P) (N (o408 P) z z) (N (o540 P) z z)))) (N (o89 P) (N (o121 P) (N (o190 P) (N (o326 P) (N (o590 P) z z) z) (N (o456 P) z z)) (N (o260 P) (N (o392 P) (N (o656 P) z z) z) (N (o524 P) z z))) (N (o156 P) (N (o226 P) (N (o358 P) (N (o624 P) z z) z) (N (o490 P) z z)) (N (o292 P) (N (o424 P) z z) (N (o556 P) z z))))) (N (o63 P) (N (o81 P) (N (o113 P) (N (o182 P) (N (o318 P) (N (o580 P) z z) z) (N (o448 P) z z)) (N (o252 P) (N (o384 P) (N (o648 P) z z) z) (N (o516 P) z z))) (N (o148 P) (N (o218 P) (N (o350 P) (N (o616 P) z z) z) (N (o482 P) z z)) (N (o284 P) (N (o416 P) z z) (N (o548 P) z z)))) (N (o97 P) (N (o129 P) (N (o200 P) (N (o334 P) (N (o598 P) z z) z) (N (o466 P) z z)) (N (o268 P) (N (o400 P) z z) (N (o532 P) z z))) (N (o164 P) (N (o234 P) (N (o366 P) (N (o632 P) z z) z) (N (o498 P) z z)) (N (o302 P) (N (o432 P) z z) (N (o564 P) z z))))))) (N (boot_o_5 P) (N (boot_o_9 P) (N (o53 P) (N (o69 P) (N (o103 P) (N (o170 P) (N (o308 P) (N (o570 P) z z) z) (N (o438 P) z z)) (N (o242 P) (N (o374 P) (N (o638 P) z z) z) (N (o504 P) z z))) (N (o135 P) (N (o206 P) (N (o340 P) (N (o604 P) z z) z) (N (o472 P) z z)) (N (o274 P) (N (o406 P) z z) (N (o538 P) z z)))) (N (o87 P) (N (o119 P) (N (o188 P) (N (o324 P) (N (o586 P) z z) z) (N (o454 P) z z)) (N (o258 P) (N (o390 P) (N (o654 P) z z) z) (N (o522 P) z z))) (N (o154 P) (N (o224 P) (N (o356 P) (N (o622 P) z z) z) (N (o488 P) z z)) (N (o290 P) (N (o422 P) z z) (N (o554 P) z z))))) (N (o61 P) (N (o79 P) (N (o111 P) (N (o180 P) (N (o316 P) (N (o578 P) z z) z) (N (o446 P) z z)) (N (o250 P) (N (o382 P) (N (o646 P) z z) z) (N (o514 P) z z))) (N (o146 P) (N (o214 P) (N (o348 P) (N (o614 P) z z) z) (N (o480 P) z z)) (N (o282 P) (N (o414 P) z z) (N (o546 P) z z)))) (N (o95 P) (N (o127 P) (N (o198 P) (N (o332 P) (N (o596 P) z z) z) (N (o464 P) z z)) (N (o266 P) (N (o398 P) z z) (N (o530 P) z z))) (N (o162 P) (N (o232 P) (N (o364 P) (N (o630 P) z z) z) (N (o496 P) z z)) (N (o300 P) (N (o430 P) z z) (N (o562 P) z z)))))) (N (o45 P) (N (o57 P) (N (o73 P) (N (o107 P) (N (o174 P) (N (o312 P) (N (o574 P) z z) z) (N (o442 P) z z)) (N (o246 P) (N (o378 P) (N (o642 P) z z) z) (N (o508 P) z z))) (N (o142 P) (N (o210 P) (N (o344 P) (N (o608 P) z z) z) (N (o476 P) z z)) (N (o278 P) (N (o410 P) z z) (N (o542 P) z z)))) (N (o91 P) (N (o123 P) (N (o192 P) (N (o328 P) (N (o592 P) z z) z) (N (o460 P) z z)) (N (o262 P) (N (o394 P) (N (o658 P) z z) z) (N (o526 P) z z))) (N (o158 P) (N (o228 P) (N (o360 P) (N (o626 P) z z) z) (N (o492 P) z z)) (N (o294 P) (N (o426 P) z z) (N (o558 P) z z))))) (N (o65 P) (N (o83 P) (N (o115 P) (N (o184 P) (N (o320 P) (N (o582 P) z z) z) (N (o450 P) z z)) (N (o254 P) (N (o386 P) (N (o650 P) z z) z) (N (o518 P) z z))) (N (o150 P) (N (o220 P) (N (o352 P) (N (o618 P) z z) z) (N (o484 P) z z)) (N (o286 P) (N (o418 P) z z) (N (o550 P) z z)))) (N (o99 P) (N (o131 P) (N (o202 P) (N (o336 P) (N (o600 P) z z) z) (N (o468 P) z z)) (N (o270 P) (N (o402 P) z z) (N (o534 P) z z))) (N (o166 P) (N (o236 P) (N (o368 P) (N (o634 P) z z) z) (N (o500 P) z z)) (N (o304 P) (N (o434 P) z z) (N (o566 P) z z)))))))) (N (o137 P) (N (boot_o_4 P) (N (boot_o_8 P) (N (o52 P) (N (o68 P) (N (o102 P) (N (o169 P) (N (o307 P) (N (o569 P) z z) z) (N (o437 P) z z)) (N (o241 P) (N (o371 P) (N (o637 P) z z) z) (N (o503 P) z z))) (N (o134 P) (N (o205 P) (N (o339 P) (N (o603 P) z z) z) (N (o471 P) z z)) (N (o273 P) (N (o405 P) z z) (N (o537 P) z z)))) (N (o86 P) (N (o118 P) (N (o187 P) (N (o323 P) (N (o585 P) z z) z) (N (o453 P) z z)) (N (o257 P) (N (o389 P) (N (o653 P) z z) z) (N (o521 P) z z))) (N (o153 P) (N (o223 P) (N (o355 P) (N (o621 P) z z) z) (N (o487 P) z z)) (N (o289 P) (N (o421 P) z z) (N (o553 P) z z))))) (N (o60 P) (N (o78 P) (N (o110 P) (N (o179 P) (N (o315 P) (N (o577 P) z z) z) (N (o445 P) z z)) (N (o249 P) (N (o381 P) (N (o645 P) z z) z) (N (o513 P) z z))) (N (o145 P) (N (o213 P) (N (o347 P) (N (o613 P) z z) z) (N (o479 P) z z)) (N (o281 P) (N (o413 P) z z) (N (o545 P) z z)))) (N (o94 P) (N (o126 P) (N (o197 P) (N (o331 P) (N (o595 P) z z) z) (N (o463 P) z z)) (N (o265 P) (N (o397 P) (N (o661 P) z z) z) (N (o529 P) z z))) (N (o161 P) (N (o231 P) (N (o363 P) (N (o629 P) z z) z) (N (o495 P) z z)) (N (o299 P) (N (o429 P) z z) (N (o561 P) z z)))))) (N (o612 P) (N (o56 P) (N (o72 P) (N (o106 P) (N (o173 P) (N (o311 P) (N (o573 P) z z) z) (N (o441 P) z z)) (N (o245 P) (N (o377 P) (N (o641 P) z z) z) (N (o507 P) z z))) (N (o141 P) (N (o209 P) (N (o343 P) (N (o607 P) z z) z) (N (o475 P) z z)) (N (o277 P) (N (o409 P) z z) (N (o541 P) z z)))) (N (o90 P) (N (o122 P) (N (o191 P) (N (o327 P) (N (o591 P) z z) z) (N (o457 P) z z)) (N (o261 P) (N (o393 P) (N (o657 P) z z) z) (N (o525 P) z z))) (N (o157 P) (N (o227 P) (N (o359 P) (N (o625 P) z z) z) (N (o491 P) z z)) (N (o293 P) (N (o425 P) z z) (N (o557 P) z z))))) (N (o64 P) (N (o82 P) (N (o114 P) (N (o183 P) (N (o319 P) (N (o581 P) z z) z) (N (o449 P) z z)) (N (o253 P) (N (o385 P) (N (o649 P) z z) z) (N (o517 P) z z))) (N (o149 P) (N (o219 P) (N (o351 P) (N (o617 P) z z) z) (N (o483 P) z z)) (N (o285 P) (N (o417 P) z z) (N (o549 P) z z)))) (N (o98 P) (N (o130 P) (N (o201 P) (N (o335 P) (N (o599 P) z z) z) (N (o467 P) z z)) (N (o269 P) (N (o401 P) z z) (N (o533 P) z z))) (N (o165 P) (N (o235 P) (N (o367 P) (N (o633 P) z z) z) (N (o499 P) z z)) (N (o303 P) (N (o433 P) z z) (N (o565 P) z z))))))) (N (boot_o_6 P) (N (boot_o_10 P) (N (o54 P) (N (o70 P) (N (o104 P) (N (o171 P) (N (o309 P) (N (o571 P) z z) z) (N (o439 P) z z)) (N (o243 P) (N (o375 P) (N (o639 P) z z) z) (N (o505 P) z z))) (N (o136 P) (N (o207 P) (N (o341 P) (N (o605 P) z z) z) (N (o473 P) z z)) (N (o275 P) (N (o407 P) z z) (N (o539 P) z z)))) (N (o88 P) (N (o120 P) (N (o189 P) (N (o325 P) (N (o587 P) z z) z) (N (o455 P) z z)) (N (o259 P) (N (o391 P) (N (o655 P) z z) z) (N (o523 P) z z))) (N (o155 P) (N (o225 P) (N (o357 P) (N (o623 P) z z) z) (N (o489 P) z z)) (N (o291 P) (N (o423 P) z z) (N (o555 P) z z))))) (N (o62 P) (N (o80 P) (N (o112 P) (N (o181 P) (N (o317 P) (N (o579 P) z z) z) (N (o447 P) z z)) (N (o251 P) (N (o383 P) (N (o647 P) z z) z) (N (o515 P) z z))) (N (o147 P) (N (o215 P) (N (o349 P) (N (o615 P) z z) z) (N (o481 P) z z)) (N (o283 P) (N (o415 P) z z) (N (o547 P) z z)))) (N (o96 P) (N (o128 P) (N (o199 P) (N (o333 P) (N (o597 P) z z) z) (N (o465 P) z z)) (N (o267 P) (N (o399 P) z z) (N (o531 P) z z))) (N (o163 P) (N (o233 P) (N (o365 P) (N (o631 P) z z) z) (N (o497 P) z z)) (N (o301 P) (N (o431 P) z z) (N (o563 P) z z)))))) (N (o46 P) (N (o58 P) (N (o76 P) (N (o108 P) (N (o175 P) (N (o313 P) (N (o575 P) z z) z) (N (o443 P) z z)) (N (o247 P) (N (o379 P) (N (o643 P) z z) z) (N (o511 P) z z))) (N (o143 P) (N (o211 P) (N (o345 P) (N (o609 P) z z) z) (N (o477 P) z z)) (N (o279 P) (N (o411 P) z z) (N (o543 P) z z)))) (N (o92 P) (N (o124 P) (N (o195 P) (N (o329 P) (N (o593 P) z z) z) (N (o461 P) z z)) (N (o263 P) (N (o395 P) (N (o659 P) z z) z) (N (o527 P) z z))) (N (o159 P) (N (o229 P) (N (o361 P) (N (o627 P) z z) z) (N (o493 P) z z)) (N (o295 P) (N (o427 P) z z) (N (o559 P) z z))))) (N (o66 P) (N (o84 P) (N (o116 P) (N (o185 P) (N (o321 P) (N (o583 P) z z) z) (N (o451 P) z z)) (N (o255 P) (N (o387 P) (N (o651 P) z z) z) (N (o519 P) z z))) (N (o151 P) (N (o221 P) (N (o353 P) (N (o619 P) z z) z) (N (o485 P) z z)) (N (o287 P) (N (o419 P) z z) (N (o551 P) z z)))) (N (o100 P) (N (o132 P) (N (o203 P) (N (o337 P) (N (o601 P) z z) z) (N (o469 P) z z)) (N (o271 P) (N (o403 P) z z) (N (o535 P) z z))) (N (o167 P) (N (o237 P) (N (o369 P) (N (o635 P) z z) z) (N (o501 P) z z)) (N (o305 P) (N (o435 P) z z) (N (o567 P) z z)))))))))
noncomputable def t736 (P : Params) : BT := (N (boot_o_0 P) (N (boot_o_1 P) (N (o662 P) (N (boot_o_7 P) (N (o51 P) (N (o67 P) (N (o101 P) (N (o168 P) (N (o306 P) (N (o568 P) z z) z) (N (o436 P) (N (o702 P) z z) z)) (N (o238 P) (N (o370 P) (N (o636 P) z z) z) (N (o502 P) z z))) (N (o133 P) (N (o204 P) (N (o338 P) (N (o602 P) z z) z) (N (o470 P) (N (o734 P) z z) z)) (N (o272 P) (N (o404 P) (N (o670 P) z z) z) (N (o536 P) z z)))) (N (o85 P) (N (o117 P) (N (o186 P) (N (o322 P) (N (o584 P) z z) z) (N (o452 P) (N (o718 P) z z) z)) (N (o256 P) (N (o388 P) (N (o652 P) z z) z) (N (o520 P) z z))) (N (o152 P) (N (o222 P) (N (o354 P) (N (o620 P) z z) z) (N (o486 P) z z)) (N (o288 P) (N (o420 P) (N (o686 P) z z) z) (N (o552 P) z z))))) (N (o59 P) (N (o77 P) (N (o109 P) (N (o176 P) (N (o314 P) (N (o576 P) z z) z) (N (o444 P) (N (o710 P) z z) z)) (N (o248 P) (N (o380 P) (N (o644 P) z z) z) (N (o512 P) z z))) (N (o144 P) (N (o212 P) (N (o346 P) (N (o610 P) z z) z) (N (o478 P) z z)) (N (o280 P) (N (o412 P) (N (o678 P) z z) z) (N (o544 P) z z)))) (N (o93 P) (N (o125 P) (N (o196 P) (N (o330 P) (N (o594 P) z z) z) (N (o462 P) (N (o726 P) z z) z)) (N (o264 P) (N (o396 P) (N (o660 P) z z) z) (N (o528 P) z z))) (N (o160 P) (N (o230 P) (N (o362 P) (N (o628 P) z z) z) (N (o494 P) z z)) (N (o296 P) (N (o428 P) (N (o694 P) z z) z) (N (o560 P) z z)))))) (N (o43 P) (N (o55 P) (N (o71 P) (N (o105 P) (N (o172 P) (N (o310 P) (N (o572 P) z z) z) (N (o440 P) (N (o706 P) z z) z)) (N (o244 P) (N (o376 P) (N (o640 P) z z) z) (N (o506 P) z z))) (N (o140 P) (N (o208 P) (N (o342 P) (N (o606 P) z z) z) (N (o474 P) z z)) (N (o276 P) (N (o408 P) (N (o674 P) z z) z) (N (o540 P) z z)))) (N (o89 P) (N (o121 P) (N (o190 P) (N (o326 P) (N (o590 P) z z) z) (N (o456 P) (N (o722 P) z z) z)) (N (o260 P) (N (o392 P) (N (o656 P) z z) z) (N (o524 P) z z))) (N (o156 P) (N (o226 P) (N (o358 P) (N (o624 P) z z) z) (N (o490 P) z z)) (N (o292 P) (N (o424 P) (N (o690 P) z z) z) (N (o556 P) z z))))) (N (o63 P) (N (o81 P) (N (o113 P) (N (o182 P) (N (o318 P) (N (o580 P) z z) z) (N (o448 P) (N (o714 P) z z) z)) (N (o252 P) (N (o384 P) (N (o648 P) z z) z) (N (o516 P) z z))) (N (o148 P) (N (o218 P) (N (o350 P) (N (o616 P) z z) z) (N (o482 P) z z)) (N (o284 P) (N (o416 P) (N (o682 P) z z) z) (N (o548 P) z z)))) (N (o97 P) (N (o129 P) (N (o200 P) (N (o334 P) (N (o598 P) z z) z) (N (o466 P) (N (o730 P) z z) z)) (N (o268 P) (N (o400 P) (N (o666 P) z z) z) (N (o532 P) z z))) (N (o164 P) (N (o234 P) (N (o366 P) (N (o632 P) z z) z) (N (o498 P) z z)) (N (o302 P) (N (o432 P) (N (o698 P) z z) z) (N (o564 P) z z))))))) (N (boot_o_5 P) (N (boot_o_9 P) (N (o53 P) (N (o69 P) (N (o103 P) (N (o170 P) (N (o308 P) (N (o570 P) z z) z) (N (o438 P) (N (o704 P) z z) z)) (N (o242 P) (N (o374 P) (N (o638 P) z z) z) (N (o504 P) z z))) (N (o135 P) (N (o206 P) (N (o340 P) (N (o604 P) z z) z) (N (o472 P) (N (o736 P) z z) z)) (N (o274 P) (N (o406 P) (N (o672 P) z z) z) (N (o538 P) z z)))) (N (o87 P) (N (o119 P) (N (o188 P) (N (o324 P) (N (o586 P) z z) z) (N (o454 P) (N (o720 P) z z) z)) (N (o258 P) (N (o390 P) (N (o654 P) z z) z) (N (o522 P) z z))) (N (o154 P) (N (o224 P) (N (o356 P) (N (o622 P) z z) z) (N (o488 P) z z)) (N (o290 P) (N (o422 P) (N (o688 P) z z) z) (N (o554 P) z z))))) (N (o61 P) (N (o79 P) (N (o111 P) (N (o180 P) (N (o316 P) (N (o578 P) z z) z) (N (o446 P) (N (o712 P) z z) z)) (N (o250 P) (N (o382 P) (N (o646 P) z z) z) (N (o514 P) z z))) (N (o146 P) (N (o214 P) (N (o348 P) (N (o614 P) z z) z) (N (o480 P) z z)) (N (o282 P) (N (o414 P) (N (o680 P) z z) z) (N (o546 P) z z)))) (N (o95 P) (N (o127 P) (N (o198 P) (N (o332 P) (N (o596 P) z z) z) (N (o464 P) (N (o728 P) z z) z)) (N (o266 P) (N (o398 P) (N (o664 P) z z) z) (N (o530 P) z z))) (N (o162 P) (N (o232 P) (N (o364 P) (N (o630 P) z z) z) (N (o496 P) z z)) (N (o300 P) (N (o430 P) (N (o696 P) z z) z) (N (o562 P) z z)))))) (N (o45 P) (N (o57 P) (N (o73 P) (N (o107 P) (N (o174 P) (N (o312 P) (N (o574 P) z z) z) (N (o442 P) (N (o708 P) z z) z)) (N (o246 P) (N (o378 P) (N (o642 P) z z) z) (N (o508 P) z z))) (N (o142 P) (N (o210 P) (N (o344 P) (N (o608 P) z z) z) (N (o476 P) z z)) (N (o278 P) (N (o410 P) (N (o676 P) z z) z) (N (o542 P) z z)))) (N (o91 P) (N (o123 P) (N (o192 P) (N (o328 P) (N (o592 P) z z) z) (N (o460 P) (N (o724 P) z z) z)) (N (o262 P) (N (o394 P) (N (o658 P) z z) z) (N (o526 P) z z))) (N (o158 P) (N (o228 P) (N (o360 P) (N (o626 P) z z) z) (N (o492 P) z z)) (N (o294 P) (N (o426 P) (N (o692 P) z z) z) (N (o558 P) z z))))) (N (o65 P) (N (o83 P) (N (o115 P) (N (o184 P) (N (o320 P) (N (o582 P) z z) z) (N (o450 P) (N (o716 P) z z) z)) (N (o254 P) (N (o386 P) (N (o650 P) z z) z) (N (o518 P) z z))) (N (o150 P) (N (o220 P) (N (o352 P) (N (o618 P) z z) z) (N (o484 P) z z)) (N (o286 P) (N (o418 P) (N (o684 P) z z) z) (N (o550 P) z z)))) (N (o99 P) (N (o131 P) (N (o202 P) (N (o336 P) (N (o600 P) z z) z) (N (o468 P) (N (o732 P) z z) z)) (N (o270 P) (N (o402 P) (N (o668 P) z z) z) (N (o534 P) z z))) (N (o166 P) (N (o236 P) (N (o368 P) (N (o634 P) z z) z) (N (o500 P) z z)) (N (o304 P) (N (o434 P) (N (o700 P) z z) z) (N (o566 P) z z)))))))) (N (o137 P) (N (boot_o_4 P) (N (boot_o_8 P) (N (o52 P) (N (o68 P) (N (o102 P) (N (o169 P) (N (o307 P) (N (o569 P) z z) z) (N (o437 P) (N (o703 P) z z) z)) (N (o241 P) (N (o371 P) (N (o637 P) z z) z) (N (o503 P) z z))) (N (o134 P) (N (o205 P) (N (o339 P) (N (o603 P) z z) z) (N (o471 P) (N (o735 P) z z) z)) (N (o273 P) (N (o405 P) (N (o671 P) z z) z) (N (o537 P) z z)))) (N (o86 P) (N (o118 P) (N (o187 P) (N (o323 P) (N (o585 P) z z) z) (N (o453 P) (N (o719 P) z z) z)) (N (o257 P) (N (o389 P) (N (o653 P) z z) z) (N (o521 P) z z))) (N (o153 P) (N (o223 P) (N (o355 P) (N (o621 P) z z) z) (N (o487 P) z z)) (N (o289 P) (N (o421 P) (N (o687 P) z z) z) (N (o553 P) z z))))) (N (o60 P) (N (o78 P) (N (o110 P) (N (o179 P) (N (o315 P) (N (o577 P) z z) z) (N (o445 P) (N (o711 P) z z) z)) (N (o249 P) (N (o381 P) (N (o645 P) z z) z) (N (o513 P) z z))) (N (o145 P) (N (o213 P) (N (o347 P) (N (o613 P) z z) z) (N (o479 P) z z)) (N (o281 P) (N (o413 P) (N (o679 P) z z) z) (N (o545 P) z z)))) (N (o94 P) (N (o126 P) (N (o197 P) (N (o331 P) (N (o595 P) z z) z) (N (o463 P) (N (o727 P) z z) z)) (N (o265 P) (N (o397 P) (N (o661 P) z z) z) (N (o529 P) z z))) (N (o161 P) (N (o231 P) (N (o363 P) (N (o629 P) z z) z) (N (o495 P) z z)) (N (o299 P) (N (o429 P) (N (o695 P) z z) z) (N (o561 P) z z)))))) (N (o663 P) (N (o56 P) (N (o72 P) (N (o106 P) (N (o173 P) (N (o311 P) (N (o573 P) z z) z) (N (o441 P) (N (o707 P) z z) z)) (N (o245 P) (N (o377 P) (N (o641 P) z z) z) (N (o507 P) z z))) (N (o141 P) (N (o209 P) (N (o343 P) (N (o607 P) z z) z) (N (o475 P) z z)) (N (o277 P) (N (o409 P) (N (o675 P) z z) z) (N (o541 P) z z)))) (N (o90 P) (N (o122 P) (N (o191 P) (N (o327 P) (N (o591 P) z z) z) (N (o457 P) (N (o723 P) z z) z)) (N (o261 P) (N (o393 P) (N (o657 P) z z) z) (N (o525 P) z z))) (N (o157 P) (N (o227 P) (N (o359 P) (N (o625 P) z z) z) (N (o491 P) z z)) (N (o293 P) (N (o425 P) (N (o691 P) z z) z) (N (o557 P) z z))))) (N (o64 P) (N (o82 P) (N (o114 P) (N (o183 P) (N (o319 P) (N (o581 P) z z) z) (N (o449 P) (N (o715 P) z z) z)) (N (o253 P) (N (o385 P) (N (o649 P) z z) z) (N (o517 P) z z))) (N (o149 P) (N (o219 P) (N (o351 P) (N (o617 P) z z) z) (N (o483 P) z z)) (N (o285 P) (N (o417 P) (N (o683 P) z z) z) (N (o549 P) z z)))) (N (o98 P) (N (o130 P) (N (o201 P) (N (o335 P) (N (o599 P) z z) z) (N (o467 P) (N (o731 P) z z) z)) (N (o269 P) (N (o401 P) (N (o667 P) z z) z) (N (o533 P) z z))) (N (o165 P) (N (o235 P) (N (o367 P) (N (o633 P) z z) z) (N (o499 P) z z)) (N (o303 P) (N (o433 P) (N (o699 P) z z) z) (N (o565 P) z z))))))) (N (boot_o_6 P) (N (boot_o_10 P) (N (o54 P) (N (o70 P) (N (o104 P) (N (o171 P) (N (o309 P) (N (o571 P) z z) z) (N (o439 P) (N (o705 P) z z) z)) (N (o243 P) (N (o375 P) (N (o639 P) z z) z) (N (o505 P) z z))) (N (o136 P) (N (o207 P) (N (o341 P) (N (o605 P) z z) z) (N (o473 P) z z)) (N (o275 P) (N (o407 P) (N (o673 P) z z) z) (N (o539 P) z z)))) (N (o88 P) (N (o120 P) (N (o189 P) (N (o325 P) (N (o587 P) z z) z) (N (o455 P) (N (o721 P) z z) z)) (N (o259 P) (N (o391 P) (N (o655 P) z z) z) (N (o523 P) z z))) (N (o155 P) (N (o225 P) (N (o357 P) (N (o623 P) z z) z) (N (o489 P) z z)) (N (o291 P) (N (o423 P) (N (o689 P) z z) z) (N (o555 P) z z))))) (N (o62 P) (N (o80 P) (N (o112 P) (N (o181 P) (N (o317 P) (N (o579 P) z z) z) (N (o447 P) (N (o713 P) z z) z)) (N (o251 P) (N (o383 P) (N (o647 P) z z) z) (N (o515 P) z z))) (N (o147 P) (N (o215 P) (N (o349 P) (N (o615 P) z z) z) (N (o481 P) z z)) (N (o283 P) (N (o415 P) (N (o681 P) z z) z) (N (o547 P) z z)))) (N (o96 P) (N (o128 P) (N (o199 P) (N (o333 P) (N (o597 P) z z) z) (N (o465 P) (N (o729 P) z z) z)) (N (o267 P) (N (o399 P) (N (o665 P) z z) z) (N (o531 P) z z))) (N (o163 P) (N (o233 P) (N (o365 P) (N (o631 P) z z) z) (N (o497 P) z z)) (N (o301 P) (N (o431 P) (N (o697 P) z z) z) (N (o563 P) z z)))))) (N (o46 P) (N (o58 P) (N (o76 P) (N (o108 P) (N (o175 P) (N (o313 P) (N (o575 P) z z) z) (N (o443 P) (N (o709 P) z z) z)) (N (o247 P) (N (o379 P) (N (o643 P) z z) z) (N (o511 P) z z))) (N (o143 P) (N (o211 P) (N (o345 P) (N (o609 P) z z) z) (N (o477 P) z z)) (N (o279 P) (N (o411 P) (N (o677 P) z z) z) (N (o543 P) z z)))) (N (o92 P) (N (o124 P) (N (o195 P) (N (o329 P) (N (o593 P) z z) z) (N (o461 P) (N (o725 P) z z) z)) (N (o263 P) (N (o395 P) (N (o659 P) z z) z) (N (o527 P) z z))) (N (o159 P) (N (o229 P) (N (o361 P) (N (o627 P) z z) z) (N (o493 P) z z)) (N (o295 P) (N (o427 P) (N (o693 P) z z) z) (N (o559 P) z z))))) (N (o66 P) (N (o84 P) (N (o116 P) (N (o185 P) (N (o321 P) (N (o583 P) z z) z) (N (o451 P) (N (o717 P) z z) z)) (N (o255 P) (N (o387 P) (N (o651 P) z z) z) (N (o519 P) z z))) (N (o151 P) (N (o221 P) (N (o353 P) (N (o619 P) z z) z) (N (o485 P) z z)) (N (o287 P) (N (o419 P) (N (o685 P) z z) z) (N (o551 P) z z)))) (N (o100 P) (N (o132 P) (N (o203 P) (N (o337 P) (N (o601 P) z z) z) (N (o469 P) (N (o733 P) z z) z)) (N (o271 P) (N (o403 P) (N (o669 P) z z) z) (N (o535 P) z z))) (N (o167 P) (N (o237 P) (N (o369 P) (N (o635 P) z z) z) (N (o501 P) z z)) (N (o305 P) (N (o435 P) (N (o701 P) z z) z) (N (o567 P) z z)))))))))
noncomputable def h46 (P : Params) : Heap := ⟨⟨[(boot_o_0 P), (boot_o_1 P), (boot_o_2 P), (boot_o_3 P), (boot_o_4 P), (boot_o_5 P), (boot_o_6 P), (boot_o_7 P), (boot_o_8 P), (boot_o_9 P), (boot_o_10 P), (o43 P), (o44 P), (o45 P), (o46 P)]⟩, {}⟩
noncomputable def h737 (P : Params) : Heap := ⟨⟨[(boot_o_0 P), (boot_o_1 P), (o137 P), (o662 P), (boot_o_4 P), (boot_o_5 P), (boot_o_6 P), (boot_o_7 P), (boot_o_8 P), (boot_o_9 P), (boot_o_10 P), (o43 P), (o663 P), (o45 P), (o46 P), (o51 P), (o52 P), (o53 P), (o54 P), (o55 P), (o56 P), (o57 P), (o58 P), (o59 P), (o60 P), (o61 P), (o62 P), (o63 P), (o64 P), (o65 P), (o66 P), (o67 P), (o68 P), (o69 P), (o70 P), (o71 P), (o72 P), (o73 P), (o76 P), (o77 P), (o78 P), (o79 P), (o80 P), (o81 P), (o82 P), (o83 P), (o84 P), (o85 P), (o86 P), (o87 P), (o88 P), (o89 P), (o90 P), (o91 P), (o92 P), (o93 P), (o94 P), (o95 P), (o96 P), (o97 P), (o98 P), (o99 P), (o100 P), (o101 P), (o102 P), (o103 P), (o104 P), (o105 P), (o106 P), (o107 P), (o108 P), (o109 P), (o110 P), (o111 P), (o112 P), (o113 P), (o114 P), (o115 P), (o116 P), (o117 P), (o118 P), (o119 P), (o120 P), (o121 P), (o122 P), (o123 P), (o124 P), (o125 P), (o126 P), (o127 P), (o128 P), (o129 P), (o130 P), (o131 P), (o132 P), (o133 P), (o134 P), (o135 P), (o136 P), (o140 P), (o141 P), (o142 P), (o143 P), (o144 P), (o145 P), (o146 P), (o147 P), (o148 P), (o149 P), (o150 P), (o151 P), (o152 P), (o153 P), (o154 P), (o155 P), (o156 P), (o157 P), (o158 P), (o159 P), (o160 P), (o161 P), (o162 P), (o163 P), (o164 P), (o165 P), (o166 P), (o167 P), (o168 P), (o169 P), (o170 P), (o171 P), (o172 P), (o173 P), (o174 P), (o175 P), (o176 P), (o179 P), (o180 P), (o181 P), (o182 P), (o183 P), (o184 P), (o185 P), (o186 P), (o187 P), (o188 P), (o189 P), (o190 P), (o191 P), (o192 P), (o195 P), (o196 P), (o197 P), (o198 P), (o199 P), (o200 P), (o201 P), (o202 P), (o203 P), (o204 P), (o205 P), (o206 P), (o207 P), (o208 P), (o209 P), (o210 P), (o211 P), (o212 P), (o213 P), (o214 P), (o215 P), (o218 P), (o219 P), (o220 P), (o221 P), (o222 P), (o223 P), (o224 P), (o225 P), (o226 P), (o227 P), (o228 P), (o229 P), (o230 P), (o231 P), (o232 P), (o233 P), (o234 P), (o235 P), (o236 P), (o237 P), (o238 P), (o241 P), (o242 P), (o243 P), (o244 P), (o245 P), (o246 P), (o247 P), (o248 P), (o249 P), (o250 P), (o251 P), (o252 P), (o253 P), (o254 P), (o255 P), (o256 P), (o257 P), (o258 P), (o259 P), (o260 P), (o261 P), (o262 P), (o263 P), (o264 P), (o265 P), (o266 P), (o267 P), (o268 P), (o269 P), (o270 P), (o271 P), (o272 P), (o273 P), (o274 P), (o275 P), (o276 P), (o277 P), (o278 P), (o279 P), (o280 P), (o281 P), (o282 P), (o283 P), (o284 P), (o285 P), (o286 P), (o287 P), (o288 P), (o289 P), (o290 P), (o291 P), (o292 P), (o293 P), (o294 P), (o295 P), (o296 P), (o299 P), (o300 P), (o301 P), (o302 P), (o303 P), (o304 P), (o305 P), (o306 P), (o307 P), (o308 P), (o309 P), (o310 P), (o311 P), (o312 P), (o313 P), (o314 P), (o315 P), (o316 P), (o317 P), (o318 P), (o319 P), (o320 P), (o321 P), (o322 P), (o323 P), (o324 P), (o325 P), (o326 P), (o327 P), (o328 P), (o329 P), (o330 P), (o331 P), (o332 P), (o333 P), (o334 P), (o335 P), (o336 P), (o337 P), (o338 P), (o339 P), (o340 P), (o341 P), (o342 P), (o343 P), (o344 P), (o345 P), (o346 P), (o347 P), (o348 P), (o349 P), (o350 P), (o351 P), (o352 P), (o353 P), (o354 P), (o355 P), (o356 P), (o357 P), (o358 P), (o359 P), (o360 P), (o361 P), (o362 P), (o363 P), (o364 P), (o365 P), (o366 P), (o367 P), (o368 P), (o369 P), (o370 P), (o371 P), (o374 P), (o375 P), (o376 P), (o377 P), (o378 P), (o379 P), (o380 P), (o381 P), (o382 P), (o383 P), (o384 P), (o385 P), (o386 P), (o387 P), (o388 P), (o389 P), (o390 P), (o391 P), (o392 P), (o393 P), (o394 P), (o395 P), (o396 P), (o397 P), (o398 P), (o399 P), (o400 P), (o401 P), (o402 P), (o403 P), (o404 P), (o405 P), (o406 P), (o407 P), (o408 P), (o409 P), (o410 P), (o411 P), (o412 P), (o413 P), (o414 P), (o415 P), (o416 P), (o417 P), (o418 P), (o419 P), (o420 P), (o421 P), (o422 P), (o423 P), (o424 P), (o425 P), (o426 P), (o427 P), (o428 P), (o429 P), (o430 P), (o431 P), (o432 P), (o433 P), (o434 P), (o435 P), (o436 P), (o437 P), (o438 P), (o439 P), (o440 P), (o441 P), (o442 P), (o443 P), (o444 P), (o445 P), (o446 P), (o447 P), (o448 P), (o449 P), (o450 P), (o451 P), (o452 P), (o453 P), (o454 P), (o455 P), (o456 P), (o457 P), (o460 P), (o461 P), (o462 P), (o463 P), (o464 P), (o465 P), (o466 P), (o467 P), (o468 P), (o469 P), (o470 P), (o471 P), (o472 P), (o473 P), (o474 P), (o475 P), (o476 P), (o477 P), (o478 P), (o479 P), (o480 P), (o481 P), (o482 P), (o483 P), (o484 P), (o485 P), (o486 P), (o487 P), (o488 P), (o489 P), (o490 P), (o491 P), (o492 P), (o493 P), (o494 P), (o495 P), (o496 P), (o497 P), (o498 P), (o499 P), (o500 P), (o501 P), (o502 P), (o503 P), (o504 P), (o505 P), (o506 P), (o507 P), (o508 P), (o511 P), (o512 P), (o513 P), (o514 P), (o515 P), (o516 P), (o517 P), (o518 P), (o519 P), (o520 P), (o521 P), (o522 P), (o523 P), (o524 P), (o525 P), (o526 P), (o527 P), (o528 P), (o529 P), (o530 P), (o531 P), (o532 P), (o533 P), (o534 P), (o535 P), (o536 P), (o537 P), (o538 P), (o539 P), (o540 P), (o541 P), (o542 P), (o543 P), (o544 P), (o545 P), (o546 P), (o547 P), (o548 P), (o549 P), (o550 P), (o551 P), (o552 P), (o553 P), (o554 P), (o555 P), (o556 P), (o557 P), (o558 P), (o559 P), (o560 P), (o561 P), (o562 P), (o563 P), (o564 P), (o565 P), (o566 P), (o567 P), (o568 P), (o569 P), (o570 P), (o571 P), (o572 P), (o573 P), (o574 P), (o575 P), (o576 P), (o577 P), (o578 P), (o579 P), (o580 P), (o581 P), (o582 P), (o583 P), (o584 P), (o585 P), (o586 P), (o587 P), (o590 P), (o591 P), (o592 P), (o593 P), (o594 P), (o595 P), (o596 P), (o597 P), (o598 P), (o599 P), (o600 P), (o601 P), (o602 P), (o603 P), (o604 P), (o605 P), (o606 P), (o607 P), (o608 P), (o609 P), (o610 P), (o613 P), (o614 P), (o615 P), (o616 P), (o617 P), (o618 P), (o619 P), (o620 P), (o621 P), (o622 P), (o623 P), (o624 P), (o625 P), (o626 P), (o627 P), (o628 P), (o629 P), (o630 P), (o631 P), (o632 P), (o633 P), (o634 P), (o635 P), (o636 P), (o637 P), (o638 P), (o639 P), (o640 P), (o641 P), (o642 P), (o643 P), (o644 P), (o645 P), (o646 P), (o647 P), (o648 P), (o649 P), (o650 P), (o651 P), (o652 P), (o653 P), (o654 P), (o655 P), (o656 P), (o657 P), (o658 P), (o659 P), (o660 P), (o661 P), (o664 P), (o665 P), (o666 P), (o667 P), (o668 P), (o669 P), (o670 P), (o671 P), (o672 P), (o673 P), (o674 P), (o675 P), (o676 P), (o677 P), (o678 P), (o679 P), (o680 P), (o681 P), (o682 P), (o683 P), (o684 P), (o685 P), (o686 P), (o687 P), (o688 P), (o689 P), (o690 P), (o691 P), (o692 P), (o693 P), (o694 P), (o695 P), (o696 P), (o697 P), (o698 P), (o699 P), (o700 P), (o701 P), (o702 P), (o703 P), (o704 P), (o705 P), (o706 P), (o707 P), (o708 P), (o709 P), (o710 P), (o711 P), (o712 P), (o713 P), (o714 P), (o715 P), (o716 P), (o717 P), (o718 P), (o719 P), (o720 P), (o721 P), (o722 P), (o723 P), (o724 P), (o725 P), (o726 P), (o727 P), (o728 P), (o729 P), (o730 P), (o731 P), (o732 P), (o733 P), (o734 P), (o735 P), (o736 P)]⟩, {}⟩
noncomputable def sts49 : List Stmt := ((behindTheImports PW).drop 0).take 26
noncomputable def sts74 : List Stmt := ((behindTheImports PW).drop 26).take 1
noncomputable def sts137 : List Stmt := ((behindTheImports PW).drop 27).take 4
noncomputable def sts177 : List Stmt := ((behindTheImports PW).drop 31).take 1
noncomputable def sts193 : List Stmt := ((behindTheImports PW).drop 32).take 1
noncomputable def sts216 : List Stmt := ((behindTheImports PW).drop 33).take 1
noncomputable def sts239 : List Stmt := ((behindTheImports PW).drop 34).take 6
noncomputable def sts297 : List Stmt := ((behindTheImports PW).drop 40).take 17
noncomputable def sts372 : List Stmt := ((behindTheImports PW).drop 57).take 12
noncomputable def sts458 : List Stmt := ((behindTheImports PW).drop 69).take 8
noncomputable def sts509 : List Stmt := ((behindTheImports PW).drop 77).take 1
noncomputable def sts588 : List Stmt := ((behindTheImports PW).drop 78).take 4
noncomputable def sts611 : List Stmt := ((behindTheImports PW).drop 82).take 4
noncomputable def sts662 : List Stmt := ((behindTheImports PW).drop 86).take 12
noncomputable def env : Env := ⟨PW.main.scope, mainNs, mainNs, [], Str.empty, none, (r 13), (some 14), 0⟩
noncomputable def bdK (l : List Stmt) : List Nat → List Stmt | [] => [] | k :: r => l.getD k default :: bdK l r
noncomputable def view : Program := { PW with main := { PW.main with body := bdK PW.main.body [1, 2, 3, 4, 5, 6, 7, 8, 9, 10, 11, 12, 13, 14, 15, 16, 17, 18, 19, 20, 21, 22, 23, 24, 25, 26, 27, 28, 30, 31, 32, 33, 34, 35, 36, 37, 38, 39, 40, 41, 43, 44, 45, 47, 48, 49, 50, 52, 53, 54, 55, 56, 57, 58, 59, 60, 61, 62, 63, 64, 65, 66, 67, 68, 69, 70, 71, 73, 74, 75, 76, 77, 78, 79, 80, 82, 84, 85, 86, 87, 88, 89, 90, 91, 92, 94, 95, 96, 97] } }
noncomputable def c0 : Code := .body (behindTheImports PW) env
noncomputable def KF (P : Params) : Frag := [(2, o137 P), (3, o662 P), (15, o51 P), (16, o52 P), (17, o53 P), (19, o55 P), (20, o56 P), (22, o58 P), (23, o59 P), (24, o60 P), (26, o62 P), (27, o63 P), (29, o65 P), (30, o66 P), (31, o67 P), (33, o69 P), (34, o70 P), (36, o72 P), (37, o73 P), (45, o83 P), (47, o85 P), (48, o86 P), (50, o88 P), (51, o89 P), (52, o90 P), (54, o92 P), (55, o93 P), (57, o95 P), (58, o96 P), (59, o97 P), (61, o99 P), (62, o100 P), (64, o102 P), (65, o103 P), (66, o104 P), (69, o107 P), (70, o108 P), (71, o109 P), (73, o111 P), (74, o112 P), (76, o114 P), (77, o115 P), (78, o116 P), (80, o118 P), (81, o119 P), (83, o121 P), (84, o122 P), (85, o123 P), (87, o125 P), (88, o126 P), (90, o128 P), (91, o129 P), (92, o130 P), (93, o131 P), (94, o132 P), (95, o133 P), (96, o134 P), (99, o140 P), (101, o142 P), (102, o143 P), (104, o145 P), (105, o146 P), (106, o147 P), (108, o149 P), (109, o150 P), (111, o152 P), (112, o153 P), (113, o154 P), (116, o157 P), (121, o162 P), (122, o163 P), (123, o164 P), (125, o166 P), (126, o167 P), (128, o169 P), (129, o170 P), (130, o171 P), (131, o172 P), (132, o173 P), (133, o174 P), (143, o186 P), (144, o187 P), (145, o188 P), (146, o189 P), (147, o190 P), (157, o202 P), (159, o204 P), (160, o205 P), (162, o207 P), (163, o208 P), (164, o209 P), (165, o210 P), (166, o211 P), (167, o212 P), (168, o213 P), (178, o225 P), (180, o227 P), (181, o228 P), (183, o230 P), (184, o231 P), (185, o232 P), (186, o233 P), (187, o234 P), (188, o235 P), (189, o236 P), (199, o248 P), (201, o250 P), (202, o251 P), (204, o253 P), (205, o254 P), (206, o255 P), (207, o256 P), (208, o257 P), (209, o258 P), (210, o259 P), (213, o262 P), (215, o264 P), (216, o265 P), (218, o267 P), (219, o268 P), (220, o269 P), (222, o271 P), (223, o272 P), (225, o274 P), (226, o275 P), (227, o276 P), (229, o278 P), (230, o279 P), (232, o281 P), (233, o282 P), (234, o283 P), (236, o285 P), (237, o286 P), (239, o288 P), (240, o289 P), (241, o290 P), (243, o292 P), (244, o293 P), (246, o295 P), (247, o296 P), (248, o299 P), (250, o301 P), (251, o302 P), (253, o304 P), (254, o305 P), (255, o306 P), (257, o308 P), (258, o309 P), (260, o311 P), (261, o312 P), (262, o313 P), (263, o314 P), (264, o315 P), (265, o316 P), (267, o318 P), (268, o319 P), (270, o321 P), (271, o322 P), (272, o323 P), (274, o325 P), (275, o326 P), (277, o328 P), (278, o329 P), (279, o330 P), (281, o332 P), (282, o333 P), (284, o335 P), (285, o336 P), (286, o337 P), (288, o339 P), (289, o340 P), (291, o342 P), (292, o343 P), (293, o344 P), (295, o346 P), (296, o347 P), (298, o349 P), (299, o350 P), (300, o351 P), (302, o353 P), (303, o354 P), (305, o356 P), (306, o357 P), (307, o358 P), (309, o360 P), (310, o361 P), (312, o363 P), (313, o364 P), (314, o365 P), (316, o367 P), (317, o368 P), (319, o370 P), (320, o371 P), (321, o374 P), (323, o376 P), (324, o377 P), (326, o379 P), (327, o380 P), (328, o381 P), (330, o383 P), (331, o384 P), (333, o386 P), (334, o387 P), (335, o388 P), (337, o390 P), (338, o391 P), (340, o393 P), (341, o394 P), (342, o395 P), (344, o397 P), (345, o398 P), (347, o400 P), (348, o401 P), (349, o402 P), (351, o404 P), (352, o405 P), (354, o407 P), (355, o408 P), (356, o409 P), (358, o411 P), (359, o412 P), (361, o414 P), (362, o415 P), (363, o416 P), (365, o418 P), (366, o419 P), (368, o421 P), (369, o422 P), (370, o423 P), (372, o425 P), (373, o426 P), (375, o428 P), (376, o429 P), (377, o430 P), (379, o432 P), (380, o433 P), (382, o435 P), (383, o436 P), (384, o437 P), (386, o439 P), (387, o440 P), (389, o442 P), (390, o443 P), (391, o444 P), (393, o446 P), (394, o447 P), (396, o449 P), (397, o450 P), (398, o451 P), (400, o453 P), (401, o454 P), (403, o456 P), (404, o457 P), (405, o460 P), (407, o462 P), (408, o463 P), (410, o465 P), (411, o466 P), (412, o467 P), (414, o469 P), (415, o470 P), (417, o472 P), (418, o473 P), (419, o474 P), (421, o476 P), (422, o477 P), (424, o479 P), (425, o480 P), (433, o488 P), (435, o490 P), (436, o491 P), (438, o493 P), (439, o494 P), (440, o495 P), (442, o497 P), (443, o498 P), (445, o500 P), (446, o501 P), (447, o502 P), (448, o503 P), (449, o504 P), (450, o505 P), (451, o506 P), (461, o518 P), (463, o520 P), (464, o521 P), (466, o523 P), (467, o524 P), (468, o525 P), (470, o527 P), (471, o528 P), (473, o530 P), (474, o531 P), (475, o532 P), (477, o534 P), (478, o535 P), (480, o537 P), (481, o538 P), (482, o539 P), (484, o541 P), (485, o542 P), (487, o544 P), (488, o545 P), (489, o546 P), (491, o548 P), (492, o549 P), (494, o551 P), (495, o552 P), (496, o553 P), (498, o555 P), (499, o556 P), (501, o558 P), (502, o559 P), (503, o560 P), (505, o562 P), (506, o563 P), (508, o565 P), (509, o566 P), (510, o567 P), (512, o569 P), (513, o570 P), (515, o572 P), (516, o573 P), (517, o574 P), (519, o576 P), (520, o577 P), (522, o579 P), (523, o580 P), (524, o581 P), (525, o582 P), (526, o583 P), (527, o584 P), (528, o585 P), (531, o590 P), (533, o592 P), (534, o593 P), (536, o595 P), (537, o596 P), (538, o597 P), (540, o599 P), (541, o600 P), (543, o602 P), (544, o603 P), (545, o604 P), (547, o606 P), (548, o607 P), (550, o609 P), (551, o610 P), (559, o620 P), (561, o622 P), (562, o623 P), (564, o625 P), (565, o626 P), (566, o627 P), (568, o629 P), (569, o630 P), (571, o632 P), (572, o633 P), (573, o634 P), (575, o636 P), (576, o637 P), (578, o639 P), (579, o640 P), (580, o641 P), (582, o643 P), (583, o644 P), (585, o646 P), (586, o647 P), (587, o648 P), (588, o649 P), (589, o650 P), (590, o651 P), (591, o652 P), (594, o655 P), (596, o657 P), (597, o658 P), (599, o660 P), (600, o661 P), (601, o664 P), (603, o666 P), (604, o667 P), (606, o669 P), (607, o670 P), (608, o671 P), (610, o673 P), (611, o674 P), (613, o676 P), (614, o677 P), (615, o678 P), (617, o680 P), (618, o681 P), (620, o683 P), (621, o684 P), (622, o685 P), (624, o687 P), (625, o688 P), (627, o690 P), (628, o691 P), (629, o692 P), (631, o694 P), (632, o695 P), (634, o697 P), (635, o698 P), (636, o699 P), (638, o701 P), (639, o702 P), (641, o704 P), (642, o705 P), (643, o706 P), (645, o708 P), (646, o709 P), (648, o711 P), (649, o712 P), (650, o713 P), (652, o715 P), (653, o716 P), (655, o718 P), (656, o719 P), (657, o720 P), (660, o723 P), (661, o724 P), (662, o725 P), (664, o727 P), (665, o728 P), (667, o730 P), (668, o731 P), (669, o732 P), (672, o735 P), (673, o736 P)]
noncomputable def KA : List Nat := [2, 3, 15, 16, 17, 19, 20, 22, 23, 24, 26, 27, 29, 30, 31, 33, 34, 36, 37, 45, 47, 48, 50, 51, 52, 54, 55, 57, 58, 59, 61, 62, 64, 65, 66, 69, 70, 71, 73, 74, 76, 77, 78, 80, 81, 83, 84, 85, 87, 88, 90, 91, 92, 93, 94, 95, 96, 99, 101, 102, 104, 105, 106, 108, 109, 111, 112, 113, 116, 121, 122, 123, 125, 126, 128, 129, 130, 131, 132, 133, 143, 144, 145, 146, 147, 157, 159, 160, 162, 163, 164, 165, 166, 167, 168, 178, 180, 181, 183, 184, 185, 186, 187, 188, 189, 199, 201, 202, 204, 205, 206, 207, 208, 209, 210, 213, 215, 216, 218, 219, 220, 222, 223, 225, 226, 227, 229, 230, 232, 233, 234, 236, 237, 239, 240, 241, 243, 244, 246, 247, 248, 250, 251, 253, 254, 255, 257, 258, 260, 261, 262, 263, 264, 265, 267, 268, 270, 271, 272, 274, 275, 277, 278, 279, 281, 282, 284, 285, 286, 288, 289, 291, 292, 293, 295, 296, 298, 299, 300, 302, 303, 305, 306, 307, 309, 310, 312, 313, 314, 316, 317, 319, 320, 321, 323, 324, 326, 327, 328, 330, 331, 333, 334, 335, 337, 338, 340, 341, 342, 344, 345, 347, 348, 349, 351, 352, 354, 355, 356, 358, 359, 361, 362, 363, 365, 366, 368, 369, 370, 372, 373, 375, 376, 377, 379, 380, 382, 383, 384, 386, 387, 389, 390, 391, 393, 394, 396, 397, 398, 400, 401, 403, 404, 405, 407, 408, 410, 411, 412, 414, 415, 417, 418, 419, 421, 422, 424, 425, 433, 435, 436, 438, 439, 440, 442, 443, 445, 446, 447, 448, 449, 450, 451, 461, 463, 464, 466, 467, 468, 470, 471, 473, 474, 475, 477, 478, 480, 481, 482, 484, 485, 487, 488, 489, 491, 492, 494, 495, 496, 498, 499, 501, 502, 503, 505, 506, 508, 509, 510, 512, 513, 515, 516, 517, 519, 520, 522, 523, 524, 525, 526, 527, 528, 531, 533, 534, 536, 537, 538, 540, 541, 543, 544, 545, 547, 548, 550, 551, 559, 561, 562, 564, 565, 566, 568, 569, 571, 572, 573, 575, 576, 578, 579, 580, 582, 583, 585, 586, 587, 588, 589, 590, 591, 594, 596, 597, 599, 600, 601, 603, 604, 606, 607, 608, 610, 611, 613, 614, 615, 617, 618, 620, 621, 622, 624, 625, 627, 628, 629, 631, 632, 634, 635, 636, 638, 639, 641, 642, 643, 645, 646, 648, 649, 650, 652, 653, 655, 656, 657, 660, 661, 662, 664, 665, 667, 668, 669, 672, 673]
theorem kok : ∀ P, KA = (KF P).map (·.1) := fun _ => by kernel_rfl
noncomputable abbrev H : Hook := kHook KF KA kok
noncomputable abbrev q0 : Pos := ⟨0, 0, 0, 0⟩
noncomputable abbrev B0 : List Frame := [topFrame q0]
noncomputable abbrev an : Option Value := some (.ref 6)
noncomputable def T (t : Params → BT) (n k : Nat) (w : World) (os : OsState) : SharedT := ⟨t w.params, n, {}, ⟨[]⟩, {}, k, os⟩
noncomputable def F1 (w : World) (os : OsState) : Shared := ⟨h737 w.params, ⟨[]⟩, {}, 1226, os⟩
noncomputable def loose : List Str := [S "SnobolError", S "plain_count"]
noncomputable def Xt (s : Shared) : Bool := xlAt view [] s && recOk PySem.Challenge.rw_sa0605_04.row.records s
theorem segT_via {p w m0 ann one n s th r} (h : Fast.tw10110043849684766642 Fast.tw14364793385576792824 p w m0 ann one n s th = r) : segRunT treeTable p w m0 ann one n s th = r := by
  rw [Fast.te10110043849684766642, Fast.te14364793385576792824]; exact h
theorem p0 (w : World) (os : OsState) : segRunT treeTable PW w 11 an 1 318 (T t47 15 187 w os) (piecesOf sts49 env c0 ⟨0, 0, 0, 0⟩ B0) = some (.next, T t73 38 273 w os, c0, ⟨35, 0, 44, 16⟩) := segT_via (by kernel_rfl)
theorem p1 (w : World) (os : OsState) : segRunT treeTable PW w 11 an 1 420 (T t73 38 273 w os) (piecesOf sts74 env c0 ⟨35, 0, 44, 16⟩ B0) = some (.next, T t136 99 357 w os, c0, ⟨45, 0, 105, 58⟩) := segT_via (by kernel_rfl)
theorem p2 (w : World) (os : OsState) : segRunT treeTable PW w 11 an 1 320 (T t136 99 357 w os) (piecesOf sts137 env c0 ⟨45, 0, 105, 58⟩ B0) = some (.next, T t176 136 411 w os, c0, ⟨122, 0, 127, 24⟩) := segT_via (by kernel_rfl)
theorem p3 (w : World) (os : OsState) : segRunT treeTable PW w 11 an 1 191 (T t176 136 411 w os) (piecesOf sts177 env c0 ⟨122, 0, 127, 24⟩ B0) = some (.next, T t192 150 431 w os, c0, ⟨128, 0, 129, 8⟩) := segT_via (by kernel_rfl)
theorem p4 (w : World) (os : OsState) : segRunT treeTable PW w 11 an 1 223 (T t192 150 431 w os) (piecesOf sts193 env c0 ⟨128, 0, 129, 8⟩ B0) = some (.next, T t215 171 460 w os, c0, ⟨130, 0, 133, 24⟩) := segT_via (by kernel_rfl)
theorem p5 (w : World) (os : OsState) : segRunT treeTable PW w 11 an 1 223 (T t215 171 460 w os) (piecesOf sts216 env c0 ⟨130, 0, 133, 24⟩ B0) = some (.next, T t238 192 489 w os, c0, ⟨134, 0, 137, 24⟩) := segT_via (by kernel_rfl)
theorem p6 (w : World) (os : OsState) : segRunT treeTable PW w 11 an 1 380 (T t238 192 489 w os) (piecesOf sts239 env c0 ⟨134, 0, 137, 24⟩ B0) = some (.next, T t296 248 565 w os, c0, ⟨167, 0, 170, 74⟩) := segT_via (by kernel_rfl)
theorem p7 (w : World) (os : OsState) : segRunT treeTable PW w 11 an 1 383 (T t296 248 565 w os) (piecesOf sts297 env c0 ⟨167, 0, 170, 74⟩ B0) = some (.next, T t371 321 671 w os, c0, ⟨224, 0, 225, 38⟩) := segT_via (by kernel_rfl)
theorem p8 (w : World) (os : OsState) : segRunT treeTable PW w 11 an 1 375 (T t371 321 671 w os) (piecesOf sts372 env c0 ⟨224, 0, 225, 38⟩ B0) = some (.next, T t457 405 781 w os, c0, ⟨264, 0, 269, 16⟩) := segT_via (by kernel_rfl)
theorem p9 (w : World) (os : OsState) : segRunT treeTable PW w 11 an 1 397 (T t457 405 781 w os) (piecesOf sts458 env c0 ⟨264, 0, 269, 16⟩ B0) = some (.next, T t508 454 866 w os, c0, ⟨305, 0, 316, 80⟩) := segT_via (by kernel_rfl)
theorem p10 (w : World) (os : OsState) : segRunT treeTable PW w 11 an 1 501 (T t508 454 866 w os) (piecesOf sts509 env c0 ⟨305, 0, 316, 80⟩ B0) = some (.next, T t587 531 981 w os, c0, ⟨317, 0, 424, 19⟩) := segT_via (by kernel_rfl)
theorem p11 (w : World) (os : OsState) : segRunT treeTable PW w 11 an 1 108 (T t587 531 981 w os) (piecesOf sts588 env c0 ⟨317, 0, 424, 19⟩ B0) = some (.next, T t610 552 1015 w os, c0, ⟨442, 0, 442, 8⟩) := segT_via (by kernel_rfl)
theorem p12 (w : World) (os : OsState) : segRunT treeTable PW w 11 an 1 378 (T t610 552 1015 w os) (piecesOf sts611 env c0 ⟨442, 0, 442, 8⟩ B0) = some (.next, T t661 601 1091 w os, c0, ⟨471, 0, 476, 15⟩) := segT_via (by kernel_rfl)
theorem p13 (w : World) (os : OsState) : segRunT treeTable PW w 11 an 1 381 (T t661 601 1091 w os) (piecesOf sts662 env c0 ⟨471, 0, 476, 15⟩ B0) = some (.next, T t736 674 1226 w os, c0, ⟨575, 0, 591, 74⟩) := segT_via (by kernel_rfl)
theorem pre (w : World) (os : OsState) : topGo treeTable PW w 11 an 12 ⟨boot_heap w.params, ⟨[]⟩, boot_drawn, boot_toks, os⟩ (topStub PW) = some (⟨h46 w.params, ⟨[]⟩, {}, 187, os⟩, ⟨denote treeTable (.body (behindTheImports PW) env), c0, q0, B0⟩) := by
  rw [Fast.te15667345088766844465, Fast.te14364793385576792824, Fast.te11892475500146522536]; kernel_rfl
theorem blk (w : World) (os : OsState) : segRun treeTable PW w 11 an 1 1 ⟨h46 w.params, ⟨[]⟩, {}, 187, os⟩ (blockOf (behindTheImports PW) env c0 q0 B0) = some (.next, (T t47 15 187 w os).abs, c0, ⟨0, 0, 0, 0⟩) := by
  rw [Fast.te14374325043358763698, Fast.te14364793385576792824]; kernel_rfl
theorem fin (w : World) (os : OsState) : topRun treeTable PW w 11 an 2 (T t736 674 1226 w os).abs ⟨doneF .next, c0, ⟨575, 0, 591, 74⟩, B0⟩ = some (F1 w os) := by
  rw [Fast.te14082659384304107361, Fast.te14364793385576792824]; kernel_rfl
theorem stm : behindTheImports PW = sts49 ++ (sts74 ++ (sts137 ++ (sts177 ++ (sts193 ++ (sts216 ++ (sts239 ++ (sts297 ++ (sts372 ++ (sts458 ++ (sts509 ++ (sts588 ++ (sts611 ++ (sts662 ++ ([])))))))))))))) := by kernel_rfl
theorem run (w : World) (os : OsState) : topRun treeTable PW w 11 an (12 + (1 + (318 + (420 + (320 + (191 + (223 + (223 + (380 + (383 + (375 + (397 + (501 + (108 + (378 + (381 + (2))))))))))))))))) ⟨boot_heap w.params, ⟨[]⟩, boot_drawn, boot_toks, os⟩ (topStub PW) = some (F1 w os) :=
  go_top (pre w os) (piece_block (blk w os) (by rw [stm]; exact piece_app (segRun_of (p0 w os)) (piece_app (segRun_of (p1 w os)) (piece_app (segRun_of (p2 w os)) (piece_app (segRun_of (p3 w os)) (piece_app (segRun_of (p4 w os)) (piece_app (segRun_of (p5 w os)) (piece_app (segRun_of (p6 w os)) (piece_app (segRun_of (p7 w os)) (piece_app (segRun_of (p8 w os)) (piece_app (segRun_of (p9 w os)) (piece_app (segRun_of (p10 w os)) (piece_app (segRun_of (p11 w os)) (piece_app (segRun_of (p12 w os)) (piece_app (segRun_of (p13 w os)) (fin w os))))))))))))))))
theorem e1 : opening PW = plainProg PW.main.scope.names := by kernel_rfl
theorem e2 (s : Shared) : fenceModules? PW s = some s := by kernel_rfl
theorem size (w : World) : ((boot_heap w.params).isNs mainGlobals && (⟨[]⟩ : Array GenState).size == 0, (boot_heap w.params).objs.size, (boot_heap w.params).nsMap mainGlobals (S "__annotations__")) = (true, 11, an) := by kernel_rfl
theorem l1 (w : World) (os : OsState) : (staticsOk (importedModules PW.main.body) (boot_heap w.params) (h737 w.params) && namesBound PW (h737 w.params) && gensDone (F1 w os) && laidKept (boot_heap w.params) (h737 w.params)) = true := by kernel_rfl
theorem l2 (w : World) (os : OsState) : seen ((recsOf view).map (·.name)) (ownsOf view) [] { F1 w os with gens := #[] } = expectedOf view := by rw [Fast.te5160383126252970620]; kernel_rfl
theorem l3 (w : World) (os : OsState) : (F1 w os).heap.bltView = bltViewBooted := by kernel_rfl
theorem l4 (w : World) (os : OsState) : ((F1 w os).heap.keysOk (looseW view loose) ((recsOf view).map (·.name)) ((litsOf view).map (·.1)) ((clssOf view (looseW view loose)).map (·.name)) && (F1 w os).heap.accountedOkI (importedModules PW.main.body) && (F1 w os).heap.isNs mainGlobals && (F1 w os).heap.isNs builtinsNs && tablesOk view (F1 w os).heap && Xt (F1 w os) && (if true then (F1 w os).gens.size == 0 else !leftWithCleanup (F1 w os).gens)) = true := by kernel_rfl
theorem l5 (w : World) (os : OsState) : tabsOk view (F1 w os) = true := by rw [Fast.te479339242167458305]; kernel_rfl
theorem l6 (w : World) (os : OsState) : pinSeenD view (drecsOf view) (F1 w os) = pinGoodD (drecsOf view) := by kernel_rfl
theorem l7 (w : World) (os : OsState) : plainSeenE view (looseW view loose) (F1 w os) = plainGoodE view (looseW view loose) := by rw [Fast.te2386780881361962483]; kernel_rfl
theorem l8 (w : World) (os : OsState) : plainSeenD view loose (F1 w os) = plainGoodD view loose := by kernel_rfl
theorem l9 (w : World) (os : OsState) : wideSeen view (F1 w os) = wideGood view := by rw [Fast.te7317090234206586261]; kernel_rfl
theorem l10 (w : World) (os : OsState) : clsSeenW view loose (F1 w os) = clsGoodW view loose := by kernel_rfl
theorem l11 (w : World) (os : OsState) : H.obs (F1 w os) = H.val w := by kernel_rfl
theorem hl : LeftO PW view loose Xt H.obs H.val 9294 true :=
  LeftO.of_pieces (H₀ := boot_heap) (H₁ := h737) (gs₀ := ⟨[]⟩) (gs₁ := ⟨[]⟩) (d₀ := boot_drawn) (d₁ := {}) (k₀ := boot_toks) (k₁ := 1226) (m₀ := 11) (ann := an) (M := 12 + (1 + (318 + (420 + (320 + (191 + (223 + (223 + (380 + (383 + (375 + (397 + (501 + (108 + (378 + (381 + (2))))))))))))))))) (boot_open e1 (by decide) e2) size run (by decide)
    fun w => funext fun os => looks_pair (l1 w os) (looks_pair (looks_pair (l2 w os) (looks_pair (l3 w os) (looks_pair (l4 w os) (looks_pair (l5 w os) (looks_pair (l6 w os) (looks_pair (l7 w os) (looks_pair (l8 w os) (looks_pair (l9 w os) (l10 w os))))))))) (l11 w os))
theorem well : PySem.Challenge.rw_sa0605_04.wellSaid = true := by kernel_rfl
theorem dsome : (defOf view PySem.Challenge.rw_sa0605_04.row.name).isSome = true := by kernel_rfl
noncomputable def dk : DefRec × List (Str × Expr) := (defOf view PySem.Challenge.rw_sa0605_04.row.name).get dsome
set_option maxHeartbeats 8000000 in
theorem top (hc : WalkO view loose (PySem.W.XL view []) H.says PySem.Challenge.rw_sa0605_04.row.toRowW dk.1 dk.2 fun f vs => PySem.call f vs) : PySem.Challenge.rw_sa0605_04.Holds := by
  refine holds_law well fun said => ?_
  refine PySem.W.holds_open (q := view) (loose := loose) (Xt := Xt) (XP := PySem.W.XL view []) (Yf := H.obs) (Ya := H.val) (YP := H.says) (d := dk.1) (kwd := dk.2) hl H.of H.keeps (fun s e => xl_of s (Bool.and_eq_true_iff.mp e).1) PySem.W.XL.keeps (Option.some_get dsome).symm (by kernel_rfl) (by kernel_rfl) (fun s e => recFacts_of (Bool.and_eq_true_iff.mp e).2) (by rfl) said (by decide +kernel) ⟨rfl, rfl, rfl, rfl, rfl, by decide +kernel⟩ ?hw hc
  case hw => w_witness2
end HD
end Mine

namespace Mine
namespace L4
noncomputable def ca : List Nat := [94, 208, 449, 526, 589, 145, 166, 187, 132]
noncomputable def GG (x : Str) : Option GV := Mine.lookG x gl
set_option maxRecDepth 100000 in
theorem ok1 (P : Params) : surOk (HD.KF P) fa ca gl pg.cls = true := by kernel_rfl
set_option maxRecDepth 100000 in
theorem ok2 (P : Params) : chkFns GG (HD.KF P) fns fa = true := by kernel_rfl
set_option maxRecDepth 100000 in
theorem lawAt (P : Params) : nsIn (HD.KF P) mainGlobals (Str.ofString "law") = some (some (.ref 673)) := by kernel_rfl
end L4
end Mine
set_option maxRecDepth 100000 in
set_option maxHeartbeats 8000000 in
theorem PySem.Challenge.cw_sa0605_04_holds : PySem.Challenge.rw_sa0605_04.Holds := by
  refine Mine.HD.top ?_
  intro w s₀ s₁ mg mb G Y fa o pm cd doc dV kV ho hd hcd hD hmg hg args vals as hpre hlay hrd hwl hlo
  have KX := kIn_of Y
  refine Ground.open G ?_
  intro T B D TE TW
  wrow_args hpre hlay hrd hwl hlo
  rename_i ns _ _ _ _ _ _ _ p ws _ hL _ _ _ hI _ hlen _
  have hfa : fa = 673 := by
    have h1 := mg_of KX T.g (Mine.L4.lawAt w.params)
    have h2 : mg (Str.ofString "law") = some (.ref fa) := hmg
    rw [h1] at h2
    cases h2
    rfl
  have hn : ns.length ≤ 63 := by omega
  obtain ⟨H', hc⟩ := Mine.L4.plain ns
  clear hd hcd hD Y hmg ho
  subst hfa
  let S : Mine.Sur := ⟨PySem.Challenge.rw_sa0605_04.row.prog, w, Mine.L4.pg, Mine.HD.KF w.params, Mine.L4.fa, Mine.L4.ca, Mine.L4.GG, Mine.T0of (Mine.HD.KF w.params) p ws, s₁.heap⟩
  have C : Mine.Cx S := Mine.cx_of (gl := Mine.L4.gl) (p := p) (ws := ws) (fun _ => rfl) rfl KX T.nolimit T.g T.b T.builtins (Mine.L4.ok1 w.params) (Mine.L4.ok2 w.params)
  refine Mine.entry (S := S) C (p := p) (ws := ws) (ns := ns) (k := 75) (d := 100) (a := 673) rfl rfl hL hI (Nat.le_trans hn (by decide)) ⟨rfl, by decide +kernel, by decide +kernel⟩ rfl hc fun h' tk kp => ?_
  have hpost : PySem.Challenge.rw_sa0605_04.row.claim.post [ofPy (PyData.list (List.map PyData.int ns))] (WData.bool true) [ofPy (PyData.list (List.map PyData.int ns))] = true := by
    first | rfl | wrow_post
  exact ⟨.inl ⟨_, _, [], rfl, fun _ => rfl, ReadsW.bool true, hpost, fun _ => ⟨List.nodup_nil, fun _ hm => (nomatch hm)⟩⟩, .of_keep kp, rfl, by rw [hg]; exact AllBare.empty⟩
