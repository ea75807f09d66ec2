import PyProof.Rows.All
import PySem.Challenge.RW_askedback_k50_rows_by_hand_and_refused
import PySem.Str
import HandS.ForMost
import HandS.ForExc
import HandS.IsInst
import HandS.Deep
import HandS.TupAny
import HandS.Flow
import HandS.TupMul
import HandS.Conv
import HandS.Zip
import KE.SortData
import KE.DataCmp
import HandS.TupLe
import PyProof.ListMulRoad
import PyProof.FactsAll.tuple_2
import HandS.Style
import HandS.Small
import HandS.Defaults
import HandS.ExcOwn
import HandS.Iter
import KE.GoesEnum
import HandS.TryOnly
import PyProof.ExcBaseAll.ValueError
import HandS.TryMany
import HandS.Head0
import HandS.Head1
import HandS.Head2
import HandS.HeadEnd
import HandS.HeadHook1
import HandS.HeadHook2
import HandS.Words
import KE.KStateDown
set_option Elab.async false
set_option linter.all false
set_option maxRecDepth 100000
set_option maxHeartbeats 0
/-! Ev, part A: own values, store, results, combinators. Plain Lean over PySem.Str alone. -/
namespace Ev
open PySem

/-- a value: immutable ones by content; loc: a mutable object of the store -/
inductive D where
  | non
  | bl (b : Bool)
  | int (i : Int)
  | str (x : Str)
  | ty (n : String)
  | tup (xs : List D)
  | lis (xs : List D)
  | scr (xs : List D)
  | dic (ks vs : List D)
  | loc (l : Nat)
  | fn (i : Nat)
  | exc (c : Nat) (v : D)

/-- what stands in the store -/
inductive SO where
  | lst (xs : List D)
  | dic (ks vs : List D)
  | ins (c : Nat) (ns : List Str) (vs : List D)

abbrev Sto := List (Nat × SO)
def sGet : Sto → Nat → Option SO
  | [], _ => none
  | p :: r, l => match Nat.beq p.1 l with
    | true => some p.2
    | false => sGet r l
def sSet : Sto → Nat → SO → Sto
  | [], _, _ => []
  | p :: r, l, o => match Nat.beq p.1 l with
    | true => (p.1, o) :: r
    | false => p :: sSet r l o
def sNext : Sto → Nat
  | [] => 0
  | p :: _ => Nat.succ p.1

/-- an expression's result -/
inductive Res where
  | ok (d : D) (S : Sto)
  | exc (c : Nat) (v : D) (S : Sto)
  | bad
/-- several values -/
inductive ResL where
  | ok (ds : List D) (S : Sto)
  | exc (c : Nat) (v : D) (S : Sto)
  | bad
abbrev Sl := List (Option D)
/-- a statement's result -/
inductive SR where
  | nx (σ : Sl) (S : Sto)
  | rt (d : D) (S : Sto)
  | bk (σ : Sl) (S : Sto)
  | ct (σ : Sl) (S : Sto)
  | exc (c : Nat) (v : D) (σ : Sl) (S : Sto)
  | bad

def Res.bind (r : Res) (k : D → Sto → Res) : Res := match r with
  | .ok d S => k d S
  | .exc c v S => .exc c v S
  | .bad => .bad
def Res.bindL (r : Res) (k : D → Sto → ResL) : ResL := match r with
  | .ok d S => k d S
  | .exc c v S => .exc c v S
  | .bad => .bad
def ResL.bind (r : ResL) (k : List D → Sto → Res) : Res := match r with
  | .ok d S => k d S
  | .exc c v S => .exc c v S
  | .bad => .bad
def ResL.bindL (r : ResL) (k : List D → Sto → ResL) : ResL := match r with
  | .ok d S => k d S
  | .exc c v S => .exc c v S
  | .bad => .bad
def Res.bindS (σ : Sl) (r : Res) (k : D → Sto → SR) : SR := match r with
  | .ok d S => k d S
  | .exc c v S => .exc c v σ S
  | .bad => .bad
def ResL.bindS (σ : Sl) (r : ResL) (k : List D → Sto → SR) : SR := match r with
  | .ok d S => k d S
  | .exc c v S => .exc c v σ S
  | .bad => .bad

abbrev Calls := Nat → List D → Sto → Res
abbrev Code := Calls → Sl → Sto → Res
abbrev CodeL := Calls → Sl → Sto → ResL
abbrev SCode := Calls → Sl → Sto → SR

/-! ### numbers in normal form -/
def nForce {α : Sort _} (n : Nat) (k : Nat → α) : α := match n with
  | 0 => k 0
  | Nat.succ m => k (Nat.succ m)
theorem nForce_eq {α : Sort _} (n : Nat) (k : Nat → α) : nForce n k = k n := by cases n <;> rfl
def iForce {α : Sort _} (i : Int) (k : Int → α) : α := match i with
  | .ofNat n => nForce n fun m => k (.ofNat m)
  | .negSucc n => nForce n fun m => k (.negSucc m)
theorem iForce_eq {α : Sort _} (i : Int) (k : Int → α) : iForce i k = k i := by cases i <;> simp only [iForce, nForce_eq]
def okI (i : Int) (S : Sto) : Res := iForce i fun j => .ok (.int j) S
theorem okI_eq (i : Int) (S : Sto) : okI i S = .ok (.int i) S := iForce_eq ..

/-- comparisons of ints that the kernel reduces quickly -/
def iLt : Int → Int → Bool
  | .ofNat a, .ofNat b => Nat.blt a b
  | .negSucc _, .ofNat _ => true
  | .ofNat _, .negSucc _ => false
  | .negSucc a, .negSucc b => Nat.blt b a
theorem blt_dec (a b : Nat) : Nat.blt a b = decide (a < b) := by
  by_cases h : a < b
  · rw [decide_eq_true h]; exact Nat.ble_eq_true_of_le h
  · rw [decide_eq_false h]
    cases q : Nat.blt a b with
    | false => rfl
    | true => exact absurd (Nat.le_of_ble_eq_true q) h
theorem iLt_eq (i j : Int) : iLt i j = decide (i < j) := by
  cases i <;> cases j <;> rw [Bool.eq_iff_iff, decide_eq_true_iff] <;>
    simp only [iLt, blt_dec, decide_eq_true_eq, Bool.false_eq_true, true_iff, false_iff, Int.ofNat_eq_natCast] <;> omega
def iEq : Int → Int → Bool
  | .ofNat a, .ofNat b => Nat.beq a b
  | .negSucc _, .ofNat _ => false
  | .ofNat _, .negSucc _ => false
  | .negSucc a, .negSucc b => Nat.beq a b
theorem beq_dec (a b : Nat) : Nat.beq a b = decide (a = b) := by
  by_cases h : a = b
  · rw [decide_eq_true h, h]; exact Nat.beq_refl b
  · rw [decide_eq_false h]
    cases q : Nat.beq a b with
    | false => rfl
    | true => exact absurd (Nat.eq_of_beq_eq_true q) h
theorem iEq_eq (i j : Int) : iEq i j = decide (i = j) := by
  cases i <;> cases j <;> rw [Bool.eq_iff_iff, decide_eq_true_iff] <;>
    simp only [iEq, beq_dec, decide_eq_true_eq, Bool.false_eq_true, true_iff, false_iff, Int.ofNat_eq_natCast] <;> omega

/-! ### lists by place -/
def lGet {α : Type} : List α → Nat → Option α
  | [], _ => none
  | x :: r, n => match n with
    | 0 => some x
    | Nat.succ m => lGet r m
theorem lGet_eq {α : Type} : ∀ (l : List α) (n : Nat), lGet l n = l[n]?
  | [], n => by simp [lGet]
  | x :: r, 0 => rfl
  | x :: r, n + 1 => by show lGet r n = _; rw [lGet_eq r n]; rfl
def lSet {α : Type} : List α → Nat → α → List α
  | [], _, _ => []
  | x :: r, n, y => match n with
    | 0 => y :: r
    | Nat.succ m => x :: lSet r m y
theorem lSet_eq {α : Type} : ∀ (l : List α) (n : Nat) (y : α), lSet l n y = l.set n y
  | [], n, y => by simp [lSet]
  | x :: r, 0, y => rfl
  | x :: r, n + 1, y => by show x :: lSet r n y = _; rw [lSet_eq r n y]; rfl
def σGet (σ : Sl) (i : Nat) : Option D := match lGet σ i with
  | some o => o
  | none => none
/-- Python's place: negative ones from the end -/
def ixOf (n : Nat) (i : Int) : Option Nat := match i with
  | .ofNat k => match Nat.blt k n with
    | true => some k
    | false => none
  | .negSucc k => match Nat.blt k n with
    | true => some (n - Nat.succ k)
    | false => none
/-- a slice's bound -/
def cutOf (n dflt : Nat) (i : Option Int) : Nat := match i with
  | none => dflt
  | some (.ofNat k) => Nat.min k n
  | some (.negSucc k) => n - Nat.succ k
def cutL {α : Type} (xs : List α) (lo hi : Option Int) : List α :=
  (xs.drop (cutOf xs.length 0 lo)).take (cutOf xs.length xs.length hi - cutOf xs.length 0 lo)

/-! ### what a value holds -/
/-- the items of a sequence -/
def seqOf (S : Sto) : D → Option (List D)
  | .tup xs => some xs
  | .lis xs => some xs
  | .scr xs => some xs
  | .loc l => match sGet S l with
    | some (.lst xs) => some xs
    | _ => none
  | _ => none

/-! ### strings -/
def strEq (a b : Str) : Bool := go a.cps.toList b.cps.toList
where go : List Nat → List Nat → Bool
  | [], [] => true
  | x :: r, y :: t => match Nat.beq x y with
    | true => go r t
    | false => false
  | _, _ => false
theorem strEq_go : ∀ l m : List Nat, strEq.go l m = decide (l = m)
  | [], [] => rfl
  | [], _ :: _ => by simp [strEq.go]
  | _ :: _, [] => by simp [strEq.go]
  | x :: r, y :: t => by
    show (match Nat.beq x y with | true => strEq.go r t | false => false) = _
    rw [beq_dec, strEq_go r t]
    by_cases h : x = y
    · subst h; simp
    · simp [h]
theorem strEq_eq (a b : Str) : strEq a b = decide (a = b) := by
  show strEq.go _ _ = _
  rw [strEq_go]
  apply decide_eq_decide.mpr
  constructor
  · intro h
    cases a; cases b
    congr
    exact Array.ext' h
  · intro h; rw [h]

/-! ### data compared -/
def natsLt : List Nat → List Nat → Bool
  | [], [] => false
  | [], _ :: _ => true
  | _ :: _, [] => false
  | x :: r, y :: t => match Nat.beq x y with
    | true => natsLt r t
    | false => Nat.blt x y
def b2 (b : Bool) : Int := match b with
  | true => 1
  | false => 0
mutual
/-- equal data (True is 1) -/
def dEq : D → D → Bool
  | .non, y => match y with
    | .non => true
    | _ => false
  | .bl a, y => match y with
    | .bl b => match a with
      | true => b
      | false => !b
    | .int j => iEq (b2 a) j
    | _ => false
  | .int i, y => match y with
    | .int j => iEq i j
    | .bl b => iEq i (b2 b)
    | _ => false
  | .str a, y => match y with
    | .str b => strEq a b
    | _ => false
  | .tup xs, y => match y with
    | .tup ys => dEqs xs ys
    | _ => false
  | .lis xs, y => match y with
    | .lis ys => dEqs xs ys
    | _ => false
  | _, _ => false
def dEqs : List D → List D → Bool
  | [], ys => match ys with
    | [] => true
    | _ :: _ => false
  | x :: xs, ys => match ys with
    | [] => false
    | y :: ys => match dEq x y with
      | true => dEqs xs ys
      | false => false
end
mutual
/-- the less, of data that can be compared -/
def dLt : D → D → Bool
  | .int i, y => match y with
    | .int j => iLt i j
    | _ => false
  | .bl a, y => match y with
    | .bl b => iLt (b2 a) (b2 b)
    | _ => false
  | .str a, y => match y with
    | .str b => natsLt a.cps.toList b.cps.toList
    | _ => false
  | .tup xs, y => match y with
    | .tup ys => dLts xs ys
    | _ => false
  | .lis xs, y => match y with
    | .lis ys => dLts xs ys
    | _ => false
  | _, _ => false
def dLts : List D → List D → Bool
  | [], ys => match ys with
    | [] => false
    | _ :: _ => true
  | x :: xs, ys => match ys with
    | [] => false
    | y :: ys => match dEq x y with
      | true => dLts xs ys
      | false => dLt x y
end
mutual
/-- what can be compared, place by place -/
def dAl : D → D → Bool
  | .non, y => match y with
    | .non => true
    | _ => false
  | .int _, y => match y with
    | .int _ => true
    | _ => false
  | .bl _, y => match y with
    | .bl _ => true
    | _ => false
  | .str _, y => match y with
    | .str _ => true
    | _ => false
  | .tup xs, y => match y with
    | .tup ys => dAls xs ys
    | _ => false
  | .lis xs, y => match y with
    | .lis ys => dAls xs ys
    | _ => false
  | _, _ => false
def dAls : List D → List D → Bool
  | [], _ => true
  | x :: xs, ys => match ys with
    | [] => true
    | y :: ys => match dAl x y with
      | true => dAls xs ys
      | false => false
end
mutual
/-- data, nested no deeper than n -/
def dOk : D → Nat → Bool
  | .non, _ => true
  | .bl _, _ => true
  | .int _, _ => true
  | .str x, _ => x.cps.all fun c => Nat.blt c 1114112
  | .tup xs, n => match n with
    | 0 => false
    | Nat.succ m => dOks xs m
  | .lis xs, n => match n with
    | 0 => false
    | Nat.succ m => dOks xs m
  | _, _ => false
def dOks : List D → Nat → Bool
  | [], _ => true
  | x :: xs, n => match dOk x n with
    | true => dOks xs n
    | false => false
end
/-- a list of the store as it stands -/
def frz (S : Sto) (d : D) : D := match d with
  | .loc l => match sGet S l with
    | some (.lst xs) => .lis xs
    | _ => .loc l
  | .scr xs => .scr xs
  | d => d
end Ev
/-! Ev, part B: how own values lie in the hand layer's heap; the reading of own code. -/
namespace Ev
open PySem L2

/-- where the program's things stand -/
structure Ads where
  fn : Nat → Addr
  ec : Nat → Addr
  fld : Nat → Option Str

/-- what is known of the heap: what never changes, where the store's objects lie -/
structure Wd where
  F : Hp
  ρ : Nat → Option Addr
  /-- objects that are under way -/
  Y : Hp
structure Wd.Le (W V : Wd) : Prop where
  f : ∀ a o, W.F a = some o → V.F a = some o
  r : ∀ l a, W.ρ l = some a → V.ρ l = some a
  y : ∀ a o, W.Y a = some o → V.Y a = some o
theorem Wd.Le.refl (W : Wd) : W.Le W := ⟨fun _ _ h => h, fun _ _ h => h, fun _ _ h => h⟩
theorem Wd.Le.trans {U V W : Wd} (h : U.Le V) (k : V.Le W) : U.Le W := ⟨fun a o e => k.f a o (h.f a o e), fun l a e => k.r l a (h.r l a e), fun a o e => k.y a o (h.y a o e)⟩

section
variable (K : PySem.W.Frag) (T : Ads)
mutual
/-- the own value d lies at v -/
def Rv (W : Wd) : D → V → Prop
  | .non, v => v = .non
  | .bl b, v => v = .bl b
  | .int i, v => v = .int i
  | .str x, v => v = .str x
  | .ty n, v => v = .ty n
  | .tup ds, v => ∃ a vs, v = .ref a ∧ SqT K W.F a vs ∧ Rvs W ds vs
  | .lis ds, v => ∃ a vs, v = .ref a ∧ W.F a = some (.lst vs) ∧ Rvs W ds vs
  | .scr ds, v => ∃ a vs, v = .ref a ∧ SqL K W.F a vs ∧ Rvs W ds vs
  | .dic _ _, _ => False
  | .loc l, v => ∃ a, v = .ref a ∧ W.ρ l = some a
  | .fn i, v => v = .ref (T.fn i)
  | .exc _ _, _ => False
def Rvs (W : Wd) : List D → List V → Prop
  | [], vs => vs = []
  | d :: ds, vs => ∃ v r, vs = v :: r ∧ Rv W d v ∧ Rvs W ds r
end
end
section
variable {K : PySem.W.Frag} {T : Ads}
theorem Rd.up {F G : Hp} (h : ∀ a o, F a = some o → G a = some o) {a : Addr} {o : HO} (r : L2.Rd F a o) : L2.Rd G a o := by
  rcases r with r | ⟨x, r⟩
  · exact .inl (h _ _ r)
  · exact .inr ⟨x, h _ _ r⟩
theorem SqT.up {F G : Hp} (h : ∀ a o, F a = some o → G a = some o) {a : Addr} {xs : List V} (r : SqT K F a xs) : SqT K G a xs := r.imp (Rd.up h) id
theorem SqL.up {F G : Hp} (h : ∀ a o, F a = some o → G a = some o) {a : Addr} {xs : List V} (r : SqL K F a xs) : SqL K G a xs := r.imp (Rd.up h) id
mutual
theorem Rv.up {W U : Wd} (h : W.Le U) : ∀ (d : D) (v : V), Rv K T W d v → Rv K T U d v
  | .non, _, r => r
  | .bl _, _, r => r
  | .int _, _, r => r
  | .str _, _, r => r
  | .ty _, _, r => r
  | .tup ds, v, ⟨a, vs, e, q, r⟩ => ⟨a, vs, e, SqT.up h.f q, Rvs.up h ds vs r⟩
  | .lis ds, v, ⟨a, vs, e, q, r⟩ => ⟨a, vs, e, h.f _ _ q, Rvs.up h ds vs r⟩
  | .scr ds, v, ⟨a, vs, e, q, r⟩ => ⟨a, vs, e, SqL.up h.f q, Rvs.up h ds vs r⟩
  | .loc l, v, ⟨a, e, q⟩ => ⟨a, e, h.r _ _ q⟩
  | .fn _, _, r => r
  | .dic _ _, _, r => r.elim
  | .exc _ _, _, r => r.elim
theorem Rvs.up {W U : Wd} (h : W.Le U) : ∀ (ds : List D) (vs : List V), Rvs K T W ds vs → Rvs K T U ds vs
  | [], _, r => r
  | d :: ds, _, ⟨v, r, e, h1, h2⟩ => ⟨v, r, e, Rv.up h d v h1, Rvs.up h ds r h2⟩
end
theorem Rvs.len {W : Wd} : ∀ {ds : List D} {vs : List V}, Rvs K T W ds vs → vs.length = ds.length
  | [], _, r => by cases r; rfl
  | _ :: _, _, ⟨_, _, e, _, h2⟩ => by subst e; simp [Rvs.len h2]
theorem Rvs.get {W : Wd} : ∀ {ds : List D} {vs : List V} {i : Nat} {d : D}, Rvs K T W ds vs → ds[i]? = some d → ∃ v, vs[i]? = some v ∧ Rv K T W d v
  | [], _, _, _, _, e => by simp at e
  | _ :: _, _, 0, _, ⟨v, r, e, h1, _⟩, q => by subst e; simp at q; subst q; exact ⟨v, rfl, h1⟩
  | _ :: _, _, i + 1, _, ⟨v, r, e, _, h2⟩, q => by
    subst e
    obtain ⟨w, a, b⟩ := Rvs.get (i := i) h2 (by simpa using q)
    exact ⟨w, by simpa using a, b⟩
theorem Rvs.app {W : Wd} : ∀ {ds es : List D} {vs ws : List V}, Rvs K T W ds vs → Rvs K T W es ws → Rvs K T W (ds ++ es) (vs ++ ws)
  | [], _, _, _, r, q => by cases r; exact q
  | d :: ds, _, _, _, ⟨v, r, e, h1, h2⟩, q => by subst e; exact ⟨v, _, rfl, h1, Rvs.app h2 q⟩
theorem Rvs.drop {W : Wd} : ∀ {ds : List D} {vs : List V} (n : Nat), Rvs K T W ds vs → Rvs K T W (ds.drop n) (vs.drop n)
  | _, _, 0, r => r
  | [], _, n + 1, r => by cases r; exact rfl
  | d :: ds, _, n + 1, ⟨v, r, e, h1, h2⟩ => by subst e; exact Rvs.drop n h2
theorem Rvs.take {W : Wd} : ∀ {ds : List D} {vs : List V} (n : Nat), Rvs K T W ds vs → Rvs K T W (ds.take n) (vs.take n)
  | _, _, 0, r => rfl
  | [], _, n + 1, r => by cases r; exact rfl
  | d :: ds, _, n + 1, ⟨v, r, e, h1, h2⟩ => by subst e; exact ⟨v, _, rfl, h1, Rvs.take n h2⟩
theorem Rvs.snoc {W : Wd} {ds : List D} {vs : List V} {d : D} {v : V} (h : Rvs K T W ds vs) (r : Rv K T W d v) : Rvs K T W (ds ++ [d]) (vs ++ [v]) := h.app ⟨v, [], rfl, r, rfl⟩
theorem Rvs.set {W : Wd} {d : D} {v : V} (r : Rv K T W d v) : ∀ {ds : List D} {vs : List V} (n : Nat), Rvs K T W ds vs → Rvs K T W (ds.set n d) (vs.set n v)
  | [], _, n, h => by cases h; exact rfl
  | _ :: _, _, 0, ⟨_, _, e, _, h2⟩ => by subst e; exact ⟨_, _, rfl, r, h2⟩
  | _ :: _, _, n + 1, ⟨_, _, e, h1, h2⟩ => by subst e; exact ⟨_, _, rfl, h1, Rvs.set r n h2⟩
end

/-! ### the store -/
section
variable (K : PySem.W.Frag) (T : Ads)
/-- the store's object at a -/
def Ro (W : Wd) (H : Hp) (a : Addr) : SO → Prop
  | .lst ds => ∃ vs, H a = some (.lst vs) ∧ Rvs K T W ds vs
  | .dic _ _ => False
  | .ins _ _ _ => False
structure Rh (W : Wd) (S : Sto) (H : Hp) : Prop where
  sub : ∀ a o, W.F a = some o → H a = some o
  obj : ∀ l o, sGet S l = some o → ∃ a, W.ρ l = some a ∧ Ro K T W H a o
  off : ∀ l a, W.ρ l = some a → W.F a = none
  inj : ∀ l m a, W.ρ l = some a → W.ρ m = some a → l = m
  low : ∀ l a, W.ρ l = some a → l < sNext S
  trk : ∀ l a, W.ρ l = some a → H a ≠ none
  way : ∀ a o, W.Y a = some o → H a = some o ∧ W.F a = none ∧ ∀ l, W.ρ l ≠ some a
/-- an exception of the class c, with its field -/
def Rx (W : Wd) (H : Hp) (c : Nat) (x : D) (cls : Value) (d : Option Addr) : Prop :=
  cls = .ref (T.ec c) ∧ match T.fld c with
    | none => x = .non ∧ d = none
    | some f => ∃ p v, d = some p ∧ H p = some (.xd [(f, v)]) ∧ Rv K T W x v
/-- the slots -/
def Rs (W : Wd) (σ : Sl) (τ : St) : Prop := σ.length = τ.length ∧ ∀ (i : Nat) (d : D), σ[i]? = some (some d) → ∃ v, τ[i]? = some (some v) ∧ Rv K T W d v

def Post (W : Wd) (r : Res) (Q : VK) (E : XK) : Prop := match r with
  | .ok d S => ∀ (U : Wd) (H : Hp) (v : V), W.Le U → Rh K T U S H → Rv K T U d v → Q v H
  | .exc c x S => ∀ (U : Wd) (H : Hp) (cls : Value) (p : Option Addr), W.Le U → Rh K T U S H → Rx K T U H c x cls p → E cls p H
  | .bad => False
def PostL (W : Wd) (r : ResL) (Q : List V → Hp → Prop) (E : XK) : Prop := match r with
  | .ok ds S => ∀ (U : Wd) (H : Hp) (vs : List V), W.Le U → Rh K T U S H → Rvs K T U ds vs → Q vs H
  | .exc c x S => ∀ (U : Wd) (H : Hp) (cls : Value) (p : Option Addr), W.Le U → Rh K T U S H → Rx K T U H c x cls p → E cls p H
  | .bad => False
/-- statements: Wx is the wish about exceptions -/
def PostS (W : Wd) (r : SR) (D : Ends) (Wx : WX) : Prop := match r with
  | .nx σ S => ∀ (U : Wd) (H : Hp) (τ : St), W.Le U → Rh K T U S H → Rs K T U σ τ → D.nx τ H
  | .rt d S => ∀ (U : Wd) (H : Hp) (v : V), W.Le U → Rh K T U S H → Rv K T U d v → D.rt v H
  | .bk σ S => ∀ (U : Wd) (H : Hp) (τ : St), W.Le U → Rh K T U S H → Rs K T U σ τ → D.bk τ H
  | .ct σ S => ∀ (U : Wd) (H : Hp) (τ : St), W.Le U → Rh K T U S H → Rs K T U σ τ → D.ct τ H
  | .exc c x σ S => ∀ (U : Wd) (H : Hp) (τ : St) (cls : Value) (p : Option Addr), W.Le U → Rh K T U S H → Rs K T U σ τ → Rx K T U H c x cls p → Wx cls p τ H
  | .bad => False

abbrev C1 := Sl → Sto → Res
abbrev C1L := Sl → Sto → ResL
abbrev C1S := Sl → Sto → SR
/-- the reading of own code -/
def tE (Wx : WX) (c : C1) : TE := fun τ H Q => ∃ W σ S, Rs K T W σ τ ∧ Rh K T W S H ∧ Post K T W (c σ S) Q (fun cls p H' => Wx cls p τ H')
def tA (Wx : WX) (c : C1L) : TA := fun τ H Q => ∃ W σ S, Rs K T W σ τ ∧ Rh K T W S H ∧ PostL K T W (c σ S) Q (fun cls p H' => Wx cls p τ H')
def tT (Wx : WX) (c : C1) : TT := fun τ H Q => ∃ W σ S, Rs K T W σ τ ∧ Rh K T W S H ∧ Post K T W (c σ S) (fun v H' => ∃ b, v = .bl b ∧ Q b H') (fun cls p H' => Wx cls p τ H')
def tS (Wx : WX) (c : C1S) : TS := fun D τ H => ∃ W σ S, Rs K T W σ τ ∧ Rh K T W S H ∧ PostS K T W (c σ S) D Wx
end

section
variable {K : PySem.W.Frag} {T : Ads} {W U : Wd} {Q Q' : VK} {E E' : XK}
theorem Rs.up {σ : Sl} {τ : St} (h : W.Le U) (r : Rs K T W σ τ) : Rs K T U σ τ := ⟨r.1, fun i d e => let ⟨v, a, b⟩ := r.2 i d e; ⟨v, a, Rv.up h d v b⟩⟩
theorem Post.up {r : Res} (h : W.Le U) (p : Post K T W r Q E) : Post K T U r Q E := by
  cases r with
  | ok d S => exact fun U' H v l => p U' H v (h.trans l)
  | exc c x S => exact fun U' H v q l => p U' H v q (h.trans l)
  | bad => exact p
theorem PostL.up {r : ResL} {Q : List V → Hp → Prop} (h : W.Le U) (p : PostL K T W r Q E) : PostL K T U r Q E := by
  cases r with
  | ok d S => exact fun U' H v l => p U' H v (h.trans l)
  | exc c x S => exact fun U' H v q l => p U' H v q (h.trans l)
  | bad => exact p
theorem PostS.up {r : SR} {D : Ends} {Wx : WX} (h : W.Le U) (p : PostS K T W r D Wx) : PostS K T U r D Wx := by
  cases r with
  | nx σ S => exact fun U' H v l => p U' H v (h.trans l)
  | rt d S => exact fun U' H v l => p U' H v (h.trans l)
  | bk σ S => exact fun U' H v l => p U' H v (h.trans l)
  | ct σ S => exact fun U' H v l => p U' H v (h.trans l)
  | exc c x σ S => exact fun U' H τ v q l => p U' H τ v q (h.trans l)
  | bad => exact p
theorem Post.bind {r : Res} {k : D → Sto → Res} (p : Post K T W (r.bind k) Q E) :
    Post K T W r (fun v H => ∃ U d S, W.Le U ∧ Rh K T U S H ∧ Rv K T U d v ∧ Post K T U (k d S) Q E) E := by
  cases r with
  | ok d S => exact fun U H v l h r => ⟨U, d, S, l, h, r, p.up l⟩
  | exc c x S => exact p
  | bad => exact p
theorem Post.bindL {r : Res} {k : D → Sto → ResL} {Q : List V → Hp → Prop} (p : PostL K T W (r.bindL k) Q E) :
    Post K T W r (fun v H => ∃ U d S, W.Le U ∧ Rh K T U S H ∧ Rv K T U d v ∧ PostL K T U (k d S) Q E) E := by
  cases r with
  | ok d S => exact fun U H v l h r => ⟨U, d, S, l, h, r, p.up l⟩
  | exc c x S => exact p
  | bad => exact p
theorem PostL.bind {r : ResL} {k : List D → Sto → Res} (p : Post K T W (r.bind k) Q E) :
    PostL K T W r (fun vs H => ∃ U ds S, W.Le U ∧ Rh K T U S H ∧ Rvs K T U ds vs ∧ Post K T U (k ds S) Q E) E := by
  cases r with
  | ok d S => exact fun U H v l h r => ⟨U, d, S, l, h, r, p.up l⟩
  | exc c x S => exact p
  | bad => exact p
theorem PostL.bindL {r : ResL} {k : List D → Sto → ResL} {Q : List V → Hp → Prop} (p : PostL K T W (r.bindL k) Q E) :
    PostL K T W r (fun vs H => ∃ U ds S, W.Le U ∧ Rh K T U S H ∧ Rvs K T U ds vs ∧ PostL K T U (k ds S) Q E) E := by
  cases r with
  | ok d S => exact fun U H v l h r => ⟨U, d, S, l, h, r, p.up l⟩
  | exc c x S => exact p
  | bad => exact p
theorem Post.bindS {r : Res} {k : D → Sto → SR} {σ : Sl} {τ : St} {D : Ends} {Wx : WX} (hs : Rs K T W σ τ) (p : PostS K T W (r.bindS σ k) D Wx) :
    Post K T W r (fun v H => ∃ U d S, W.Le U ∧ Rh K T U S H ∧ Rv K T U d v ∧ PostS K T U (k d S) D Wx) (fun cls q H => Wx cls q τ H) := by
  cases r with
  | ok d S => exact fun U H v l h r => ⟨U, d, S, l, h, r, p.up l⟩
  | exc c x S => exact fun U H cls q l h rx => p U H τ cls q l h (hs.up l) rx
  | bad => exact p
theorem Post.imp {r : Res} (h : ∀ v H, Q v H → Q' v H) (p : Post K T W r Q E) : Post K T W r Q' E := by
  cases r with
  | ok d S => exact fun U H v l a b => h _ _ (p U H v l a b)
  | exc c x S => exact p
  | bad => exact p
theorem PostL.imp {r : ResL} {Q Q' : List V → Hp → Prop} (h : ∀ v H, Q v H → Q' v H) (p : PostL K T W r Q E) : PostL K T W r Q' E := by
  cases r with
  | ok d S => exact fun U H v l a b => h _ _ (p U H v l a b)
  | exc c x S => exact p
  | bad => exact p

/-! ### a new object that stays as it is; a new one of the store; one changed -/
theorem Ro.keep {H H' : Hp} {a : Addr} {o : SO} (h : W.Le U) (k : ∀ u, H a = some u → H' a = some u) (r : Ro K T W H a o) : Ro K T U H' a o := by
  cases o with
  | lst ds => obtain ⟨vs, e, q⟩ := r; exact ⟨vs, k _ e, Rvs.up h ds vs q⟩
  | dic _ _ => exact r
  | ins _ _ _ => exact r
theorem Rh.mem {S : Sto} {H : Hp} (h : Rh K T W S H) {l : Nat} {o : SO} (e : sGet S l = some o) : ∃ a, W.ρ l = some a ∧ Ro K T W H a o := h.obj l o e
/-- a heap that has more -/
theorem Rh.more {S : Sto} {H H' : Hp} (h : Rh K T W S H) (k : ∀ a o, H a = some o → H' a = some o) : Rh K T W S H' := by
  refine ⟨fun a o e => k _ _ (h.sub a o e), fun l o e => ?_, h.off, h.inj, h.low, fun l a e z => ?_, fun a o e => ⟨k _ _ (h.way a o e).1, (h.way a o e).2⟩⟩
  · obtain ⟨a, q, r⟩ := h.obj l o e
    exact ⟨a, q, r.keep (Wd.Le.refl W) fun u z => k _ _ z⟩
  · cases q : H a with
    | none => exact h.trk l a e q
    | some o => rw [k _ _ q] at z; cases z
def Wd.put (W : Wd) (p : Addr) (o : HO) : Wd := ⟨upd W.F p o, W.ρ, W.Y⟩
theorem Rh.fresh {S : Sto} {H : Hp} (h : Rh K T W S H) {p : Addr} (hp : H p = none) : W.F p = none := by
  cases q : W.F p with
  | none => rfl
  | some o => have := h.sub p o q; rw [hp] at this; cases this
theorem Wd.le_put {p : Addr} {o : HO} (h : W.F p = none) : W.Le (W.put p o) := ⟨fun a x e => by
  show upd W.F p o a = _
  rw [upd_ne (fun z => by subst z; rw [h] at e; cases e)]; exact e, fun _ _ e => e, fun _ _ e => e⟩
/-- a new object that never changes -/
theorem Rh.lay {S : Sto} {H : Hp} (h : Rh K T W S H) {p : Addr} (o : HO) (hp : H p = none) : W.Le (W.put p o) ∧ Rh K T (W.put p o) S (upd H p o) := by
  have le := Wd.le_put (o := o) (h.fresh hp)
  have ne : ∀ l a, W.ρ l = some a → a ≠ p := fun l a e z => h.trk l a e (z ▸ hp)
  refine ⟨le, fun a x e => ?_, fun l x e => ?_, fun l a e => ?_, h.inj, h.low, fun l a e => ?_, fun a x e => ?_⟩
  · have e' : upd W.F p o a = some x := e
    by_cases z : a = p
    · subst z; rw [upd_same] at e' ⊢; exact e'
    · rw [upd_ne z] at e' ⊢; exact h.sub a x e'
  · obtain ⟨a, q, r⟩ := h.obj l x e
    exact ⟨a, q, r.keep le fun u z => by rw [upd_ne (ne l a q)]; exact z⟩
  · show upd W.F p o a = none
    rw [upd_ne (ne l a e)]; exact h.off l a e
  · rw [upd_ne (ne l a e)]; exact h.trk l a e
  · obtain ⟨y1, y2, y3⟩ := h.way a x e
    have ne' : a ≠ p := fun z => by rw [z, hp] at y1; cases y1
    exact ⟨by rw [upd_ne ne']; exact y1, by show upd W.F p o a = none; rw [upd_ne ne']; exact y2, y3⟩
def Wd.own (W : Wd) (n : Nat) (p : Addr) : Wd := ⟨W.F, fun l => if l = n then some p else W.ρ l, W.Y⟩
theorem sGet_cons (n : Nat) (o : SO) (S : Sto) (l : Nat) : sGet ((n, o) :: S) l = if n = l then some o else sGet S l := by
  show (match Nat.beq n l with | true => some o | false => sGet S l) = _
  rw [beq_dec]
  by_cases h : n = l
  · rw [decide_eq_true h, if_pos h]
  · rw [decide_eq_false h, if_neg h]
theorem sGet_set : ∀ (S : Sto) (l m : Nat) (o : SO), sGet (sSet S l o) m = if l = m then (sGet S l).map fun _ => o else sGet S m
  | [], l, m, o => by simp [sSet, sGet]
  | (n, x) :: r, l, m, o => by
    have e : sSet ((n, x) :: r) l o = if n = l then (n, o) :: r else (n, x) :: sSet r l o := by
      show (match Nat.beq n l with | true => (n, o) :: r | false => (n, x) :: sSet r l o) = _
      rw [beq_dec]
      by_cases h : n = l
      · rw [decide_eq_true h, if_pos h]
      · rw [decide_eq_false h, if_neg h]
    rw [e]
    by_cases h : n = l
    · subst h
      rw [if_pos rfl, sGet_cons, sGet_cons, sGet_cons]
      by_cases q : n = m
      · simp [q]
      · simp [q]
    · rw [if_neg h, sGet_cons, sGet_set r l m o, sGet_cons, sGet_cons, if_neg h]
      by_cases q : n = m
      · subst q; rw [if_pos rfl, if_neg (fun z => h z.symm), if_pos rfl]
      · rw [if_neg q, if_neg q]
theorem sNext_set (S : Sto) (l : Nat) (o : SO) : sNext (sSet S l o) = sNext S := by
  cases S with
  | nil => rfl
  | cons p r =>
    show sNext (match Nat.beq p.1 l with | true => (p.1, o) :: r | false => p :: sSet r l o) = _
    cases Nat.beq p.1 l <;> rfl
/-- a new object of the store -/
theorem Rh.new {S : Sto} {H : Hp} (h : Rh K T W S H) {p : Addr} {o : HO} {x : SO} (hp : H p = none) (hx : ∀ U, W.Le U → U.F = W.F → Ro K T U (upd H p o) p x) :
    W.Le (W.own (sNext S) p) ∧ Rh K T (W.own (sNext S) p) ((sNext S, x) :: S) (upd H p o) ∧ (W.own (sNext S) p).ρ (sNext S) = some p := by
  have low : ∀ l a, W.ρ l = some a → l ≠ sNext S := fun l a e z => absurd (h.low l a e) (by rw [z]; exact Nat.lt_irrefl _)
  have le : W.Le (W.own (sNext S) p) := ⟨fun _ _ e => e, fun l a e => by show (if l = sNext S then some p else W.ρ l) = _; rw [if_neg (low l a e)]; exact e, fun _ _ e => e⟩
  have ne : ∀ l a, W.ρ l = some a → a ≠ p := fun l a e z => h.trk l a e (z ▸ hp)
  have at_ : ∀ l a, (W.own (sNext S) p).ρ l = some a → (l = sNext S ∧ a = p) ∨ (l ≠ sNext S ∧ W.ρ l = some a) := fun l a e => by
    have e' : (if l = sNext S then some p else W.ρ l) = some a := e
    by_cases z : l = sNext S
    · rw [if_pos z] at e'; exact .inl ⟨z, (Option.some.inj e').symm⟩
    · rw [if_neg z] at e'; exact .inr ⟨z, e'⟩
  refine ⟨le, ⟨fun a u e => ?_, fun l u e => ?_, fun l a e => ?_, fun l m a e1 e2 => ?_, fun l a e => ?_, fun l a e => ?_, fun a u e => ?_⟩, by show (if sNext S = sNext S then some p else W.ρ (sNext S)) = some p; rw [if_pos rfl]⟩
  · rw [upd_ne (fun z => by subst z; have := h.sub _ _ e; rw [hp] at this; cases this)]
    exact h.sub a u e
  · rw [sGet_cons] at e
    by_cases z : sNext S = l
    · rw [if_pos z] at e; cases e
      refine ⟨p, by show (if l = sNext S then some p else W.ρ l) = _; rw [if_pos z.symm], hx _ le rfl⟩
    · rw [if_neg z] at e
      obtain ⟨a, q, r⟩ := h.obj l u e
      exact ⟨a, le.r _ _ q, r.keep le fun y k => by rw [upd_ne (ne l a q)]; exact k⟩
  · rcases at_ l a e with ⟨_, rfl⟩ | ⟨_, q⟩
    · exact h.fresh hp
    · exact h.off l a q
  · rcases at_ l a e1 with ⟨z1, r1⟩ | ⟨z1, q1⟩
    · rcases at_ m a e2 with ⟨z2, r2⟩ | ⟨z2, q2⟩
      · rw [z1, z2]
      · exact absurd r1 (ne m a q2)
    · rcases at_ m a e2 with ⟨z2, r2⟩ | ⟨z2, q2⟩
      · exact absurd r2 (ne l a q1)
      · exact h.inj l m a q1 q2
  · show l < Nat.succ (sNext S)
    rcases at_ l a e with ⟨z, _⟩ | ⟨_, q⟩
    · rw [z]; exact Nat.lt_succ_self _
    · exact Nat.lt_succ_of_lt (h.low l a q)
  · rcases at_ l a e with ⟨_, rfl⟩ | ⟨_, q⟩
    · rw [upd_same]; intro z; cases z
    · rw [upd_ne (ne l a q)]; exact h.trk l a q
  · obtain ⟨y1, y2, y3⟩ := h.way a u e
    have ne' : a ≠ p := fun z => by rw [z, hp] at y1; cases y1
    refine ⟨by rw [upd_ne ne']; exact y1, y2, fun l q => ?_⟩
    rcases at_ l a q with ⟨_, z⟩ | ⟨_, z⟩
    · exact ne' z
    · exact y3 l z
/-- an object of the store changed -/
theorem Rh.chg {S : Sto} {H : Hp} (h : Rh K T W S H) {l : Nat} {a : Addr} {o : HO} {x y : SO} (hl : W.ρ l = some a) (hx : sGet S l = some y) (hy : Ro K T W (upd H a o) a x) : Rh K T W (sSet S l x) (upd H a o) := by
  refine ⟨fun b u e => ?_, fun m u e => ?_, h.off, h.inj, fun m b e => by rw [sNext_set]; exact h.low m b e, fun m b e => ?_, fun b u e => ?_⟩
  · rw [upd_ne (fun z => by subst z; rw [h.off l _ hl] at e; cases e)]
    exact h.sub b u e
  · rw [sGet_set] at e
    by_cases z : l = m
    · subst z
      rw [if_pos rfl, hx] at e
      cases e
      exact ⟨a, hl, hy⟩
    · rw [if_neg z] at e
      obtain ⟨b, q, r⟩ := h.obj m u e
      exact ⟨b, q, r.keep (Wd.Le.refl W) fun w k => by rw [upd_ne (fun y => z (h.inj l m a hl (by rw [← y]; exact q)))]; exact k⟩
  · by_cases z : b = a
    · subst z; rw [upd_same]; intro k; cases k
    · rw [upd_ne z]; exact h.trk m b e
  · obtain ⟨y1, y2, y3⟩ := h.way b u e
    have ne' : b ≠ a := fun z => y3 l (z ▸ hl)
    exact ⟨by rw [upd_ne ne']; exact y1, y2, y3⟩
/-! ### objects under way -/
def Wd.hide (W : Wd) (p : Addr) (o : HO) : Wd := ⟨W.F, W.ρ, upd W.Y p o⟩
def Wd.bare (W : Wd) (p : Addr) : Wd := ⟨W.F, W.ρ, fun a => if a = p then none else W.Y a⟩
mutual
theorem Rv.far {W U : Wd} (f : W.F = U.F) (r : W.ρ = U.ρ) : ∀ (d : D) (v : V), Rv K T W d v → Rv K T U d v
  | .non, _, r => r
  | .bl _, _, r => r
  | .int _, _, r => r
  | .str _, _, r => r
  | .ty _, _, r => r
  | .tup ds, v, ⟨a, vs, e, q, z⟩ => ⟨a, vs, e, f ▸ q, Rvs.far f r ds vs z⟩
  | .lis ds, v, ⟨a, vs, e, q, z⟩ => ⟨a, vs, e, f ▸ q, Rvs.far f r ds vs z⟩
  | .scr ds, v, ⟨a, vs, e, q, z⟩ => ⟨a, vs, e, f ▸ q, Rvs.far f r ds vs z⟩
  | .loc l, v, ⟨a, e, q⟩ => ⟨a, e, r ▸ q⟩
  | .fn _, _, r => r
  | .dic _ _, _, r => r.elim
  | .exc _ _, _, r => r.elim
theorem Rvs.far {W U : Wd} (f : W.F = U.F) (r : W.ρ = U.ρ) : ∀ (ds : List D) (vs : List V), Rvs K T W ds vs → Rvs K T U ds vs
  | [], _, h => h
  | d :: ds, _, ⟨v, t, e, h1, h2⟩ => ⟨v, t, e, Rv.far f r d v h1, Rvs.far f r ds t h2⟩
end
theorem Ro.far {W U : Wd} {H H' : Hp} {a : Addr} (f : W.F = U.F) (r : W.ρ = U.ρ) {o : SO} (e : H a = H' a) (h : Ro K T W H a o) : Ro K T U H' a o := by
  cases o with
  | lst ds => obtain ⟨vs, q, z⟩ := h; exact ⟨vs, e ▸ q, Rvs.far f r ds vs z⟩
  | dic _ _ => exact h
  | ins _ _ _ => exact h
/-- a new one, or the same one as it now is -/
theorem Rh.hide {S : Sto} {H : Hp} (h : Rh K T W S H) {p : Addr} {o : HO} (hf : W.F p = none) (hr : ∀ l, W.ρ l ≠ some p) : Rh K T (W.hide p o) S (upd H p o) := by
  have ne : ∀ l a, W.ρ l = some a → a ≠ p := fun l a e z => hr l (z ▸ e)
  refine ⟨fun a u e => ?_, fun l x e => ?_, h.off, h.inj, h.low, fun l a e => ?_, fun a u e => ?_⟩
  · have e : W.F a = some u := e
    rw [upd_ne (fun z => by rw [z, hf] at e; cases e)]; exact h.sub a u e
  · obtain ⟨a, q, r⟩ := h.obj l x e
    exact ⟨a, q, Ro.far (W := W) (U := W.hide p o) rfl rfl (upd_ne (ne l a q)).symm r⟩
  · rw [upd_ne (ne l a e)]; exact h.trk l a e
  · have e : upd W.Y p o a = some u := e
    by_cases z : a = p
    · subst z; rw [upd_same] at e ⊢; exact ⟨e, hf, hr⟩
    · rw [upd_ne z] at e ⊢; exact h.way a u e
theorem Rh.hideNew {S : Sto} {H : Hp} (h : Rh K T W S H) {p : Addr} {o : HO} (hp : H p = none) : W.Le (W.hide p o) ∧ Rh K T (W.hide p o) S (upd H p o) := by
  refine ⟨⟨fun _ _ e => e, fun _ _ e => e, fun a u e => ?_⟩, h.hide (h.fresh hp) fun l e => h.trk l p e hp⟩
  show upd W.Y p o a = some u
  rw [upd_ne (fun z => by have := (h.way a u e).1; rw [z, hp] at this; cases this)]; exact e
/-- no more under way -/
theorem Rh.bare {S : Sto} {H : Hp} (h : Rh K T W S H) (p : Addr) : Rh K T (W.bare p) S H :=
  ⟨h.sub, fun l x e => let ⟨a, q, r⟩ := h.obj l x e; ⟨a, q, Ro.far (W := W) (U := W.bare p) rfl rfl rfl r⟩, h.off, h.inj, h.low, h.trk, fun a u e => by
    have e : (if a = p then none else W.Y a) = some u := e
    by_cases z : a = p
    · rw [if_pos z] at e; cases e
    · rw [if_neg z] at e; exact h.way a u e⟩
/-- an object that stands there, and never changes from here on -/
theorem Rh.show {S : Sto} {H : Hp} (h : Rh K T W S H) {p : Addr} {o : HO} (hp : H p = some o) (hf : W.F p = none) (hr : ∀ l, W.ρ l ≠ some p) (hy : W.Y p = none) : W.Le (W.put p o) ∧ Rh K T (W.put p o) S H := by
  have le := Wd.le_put (o := o) hf
  refine ⟨le, fun a u e => ?_, fun l x e => ?_, fun l a e => ?_, h.inj, h.low, h.trk, fun a u e => ?_⟩
  · have e' : upd W.F p o a = some u := e
    by_cases z : a = p
    · subst z; rw [upd_same] at e'; cases e'; exact hp
    · rw [upd_ne z] at e'; exact h.sub a u e'
  · obtain ⟨a, q, r⟩ := h.obj l x e
    exact ⟨a, q, r.keep le fun _ z => z⟩
  · show upd W.F p o a = none
    rw [upd_ne (fun z => hr l (by rw [← z]; exact e))]; exact h.off l a e
  · obtain ⟨y1, y2, y3⟩ := h.way a u e
    have e : W.Y a = some u := e
    have ne' : a ≠ p := fun z => by rw [z, hy] at e; cases e
    exact ⟨y1, by show upd W.F p o a = none; rw [upd_ne ne']; exact y2, y3⟩
/-- an object that stands there, of the store from here on -/
theorem Rh.take {S : Sto} {H : Hp} (h : Rh K T W S H) {p : Addr} {x : SO} (hp : H p ≠ none) (hf : W.F p = none) (hr : ∀ l, W.ρ l ≠ some p) (hy : W.Y p = none) (hx : Ro K T W H p x) :
    W.Le (W.own (sNext S) p) ∧ Rh K T (W.own (sNext S) p) ((sNext S, x) :: S) H ∧ (W.own (sNext S) p).ρ (sNext S) = some p := by
  have low : ∀ l a, W.ρ l = some a → l ≠ sNext S := fun l a e z => absurd (h.low l a e) (by rw [z]; exact Nat.lt_irrefl _)
  have le : W.Le (W.own (sNext S) p) := ⟨fun _ _ e => e, fun l a e => by show (if l = sNext S then some p else W.ρ l) = _; rw [if_neg (low l a e)]; exact e, fun _ _ e => e⟩
  have at_ : ∀ l a, (W.own (sNext S) p).ρ l = some a → (l = sNext S ∧ a = p) ∨ (l ≠ sNext S ∧ W.ρ l = some a) := fun l a e => by
    have e' : (if l = sNext S then some p else W.ρ l) = some a := e
    by_cases z : l = sNext S
    · rw [if_pos z] at e'; exact .inl ⟨z, (Option.some.inj e').symm⟩
    · rw [if_neg z] at e'; exact .inr ⟨z, e'⟩
  refine ⟨le, ⟨h.sub, fun l u e => ?_, fun l a e => ?_, fun l m a e1 e2 => ?_, fun l a e => ?_, fun l a e => ?_, fun a u e => ?_⟩, by show (if sNext S = sNext S then some p else W.ρ (sNext S)) = some p; rw [if_pos rfl]⟩
  · rw [sGet_cons] at e
    by_cases z : sNext S = l
    · rw [if_pos z] at e; cases e
      exact ⟨p, by show (if l = sNext S then some p else W.ρ l) = _; rw [if_pos z.symm], hx.keep le fun _ z => z⟩
    · rw [if_neg z] at e
      obtain ⟨a, q, r⟩ := h.obj l u e
      exact ⟨a, le.r _ _ q, r.keep le fun _ z => z⟩
  · rcases at_ l a e with ⟨_, rfl⟩ | ⟨_, q⟩
    · exact hf
    · exact h.off l a q
  · rcases at_ l a e1 with ⟨z1, r1⟩ | ⟨z1, q1⟩
    · rcases at_ m a e2 with ⟨z2, r2⟩ | ⟨z2, q2⟩
      · rw [z1, z2]
      · exact absurd (r1 ▸ q2) (hr m)
    · rcases at_ m a e2 with ⟨z2, r2⟩ | ⟨z2, q2⟩
      · exact absurd (r2 ▸ q1) (hr l)
      · exact h.inj l m a q1 q2
  · show l < Nat.succ (sNext S)
    rcases at_ l a e with ⟨z, _⟩ | ⟨_, q⟩
    · rw [z]; exact Nat.lt_succ_self _
    · exact Nat.lt_succ_of_lt (h.low l a q)
  · rcases at_ l a e with ⟨_, rfl⟩ | ⟨_, q⟩
    · exact hp
    · exact h.trk l a q
  · obtain ⟨y1, y2, y3⟩ := h.way a u e
    refine ⟨y1, y2, fun l q => ?_⟩
    rcases at_ l a q with ⟨_, z⟩ | ⟨_, z⟩
    · have e : W.Y a = some u := e
      rw [z, hy] at e; cases e
    · exact y3 l z
end
end Ev
/-! Ev, part C: own code for the constructs, and that the hand layer's rules give its reading. -/
namespace Ev
open PySem L2

def small (n : Nat) : Bool := Nat.ble n 1000000
theorem small_line {n : Nat} (h : small n = true) : n ≤ sizeLine := by
  have := Nat.le_of_ble_eq_true h
  rw [sizeLine_eq] <;> omega

/-! ### sequences -/
section
variable {K : PySem.W.Frag} {T : Ads} {W : Wd} {S : Sto} {H : Hp}
theorem seq_at {d : D} {v : V} {ds : List D} (h : Rh K T W S H) (r : Rv K T W d v) (e : seqOf S d = some ds) :
    ∃ a vs, v = .ref a ∧ Rvs K T W ds vs ∧ (SqL K H a vs ∨ SqT K H a vs) := by
  cases d with
  | tup xs =>
    cases e
    obtain ⟨a, vs, rfl, q, r⟩ := r
    exact ⟨a, vs, rfl, r, .inr (SqT.up h.sub q)⟩
  | lis xs =>
    cases e
    obtain ⟨a, vs, rfl, q, r⟩ := r
    exact ⟨a, vs, rfl, r, .inl (SqL.of (h.sub _ _ q))⟩
  | scr xs =>
    cases e
    obtain ⟨a, vs, rfl, q, r⟩ := r
    exact ⟨a, vs, rfl, r, .inl (SqL.up h.sub q)⟩
  | loc l =>
    obtain ⟨a, rfl, q⟩ := r
    have e' : (match sGet S l with | some (.lst xs) => some xs | _ => none) = some ds := e
    cases g : sGet S l with
    | none => rw [g] at e'; cases e'
    | some o =>
      rw [g] at e'
      cases o with
      | lst xs =>
        cases e'
        obtain ⟨b, q', vs, hb, rr⟩ := h.obj l _ g
        rw [q] at q'; cases q'
        exact ⟨a, vs, rfl, rr, .inl (SqL.of hb)⟩
      | dic _ _ => cases e'
      | ins _ _ _ => cases e'
  | _ => cases e
/-- a list, in the store or not -/
def lisOf (S : Sto) : D → Option (List D)
  | .lis xs => some xs
  | .loc l => match sGet S l with
    | some (.lst xs) => some xs
    | _ => none
  | _ => none
theorem lis_at {d : D} {v : V} {ds : List D} (h : Rh K T W S H) (r : Rv K T W d v) (e : lisOf S d = some ds) :
    ∃ a vs, v = .ref a ∧ Rvs K T W ds vs ∧ H a = some (.lst vs) := by
  cases d with
  | lis xs =>
    cases e
    obtain ⟨a, vs, rfl, q, r⟩ := r
    exact ⟨a, vs, rfl, r, h.sub _ _ q⟩
  | loc l =>
    obtain ⟨a, rfl, q⟩ := r
    have e' : (match sGet S l with | some (.lst xs) => some xs | _ => none) = some ds := e
    cases g : sGet S l with
    | none => rw [g] at e'; cases e'
    | some o =>
      rw [g] at e'
      cases o with
      | lst xs =>
        cases e'
        obtain ⟨b, q', vs, hb, rr⟩ := h.obj l _ g
        rw [q] at q'; cases q'
        exact ⟨a, vs, rfl, rr, hb⟩
      | dic _ _ => cases e'
      | ins _ _ _ => cases e'
  | _ => cases e
/-- a new list: of the store (m), or one that stays as it is -/
def newL (m : Bool) (xs : List D) (S : Sto) : Res := match m with
  | true => .ok (.loc (sNext S)) ((sNext S, .lst xs) :: S)
  | false => .ok (.lis xs) S
theorem newL_ok {m : Bool} {xs : List D} {vs : List V} {Q : VK} {E : XK} {p : Addr} (h : Rh K T W S H) (r : Rvs K T W xs vs) (hp : H p = none) (q : Post K T W (newL m xs S) Q E) : Q (.ref p) (upd H p (.lst vs)) := by
  cases m with
  | true =>
    obtain ⟨le, rh, e⟩ := h.new (o := .lst vs) (x := .lst xs) hp fun U l _ => ⟨vs, upd_same, Rvs.up l _ _ r⟩
    exact q _ _ _ le rh ⟨p, rfl, e⟩
  | false =>
    obtain ⟨le, rh⟩ := h.lay (.lst vs) hp
    exact q _ _ _ le rh ⟨p, vs, rfl, upd_same, Rvs.up le _ _ r⟩
theorem newT_ok {xs : List D} {vs : List V} {Q : VK} {E : XK} {p : Addr} (h : Rh K T W S H) (r : Rvs K T W xs vs) (hp : H p = none) (q : Post K T W (.ok (.tup xs) S) Q E) : Q (.ref p) (upd H p (.tup vs)) := by
  obtain ⟨le, rh⟩ := h.lay (.tup vs) hp
  exact q _ _ _ le rh ⟨p, vs, rfl, .inl (.inl upd_same), Rvs.up le _ _ r⟩
theorem Post.here {d : D} {v : V} {Q : VK} {E : XK} (p : Post K T W (.ok d S) Q E) (h : Rh K T W S H) (r : Rv K T W d v) : Q v H := p W H v (Wd.Le.refl W) h r
end

/-! ### operators -/
def lt64 (i : Int) : Bool := Nat.blt i.natAbs 18446744073709551616
def lt30 (i : Int) : Bool := Nat.blt i.natAbs 1073741824
def dMul (i j : Int) (S : Sto) : Res := match lt64 i with
  | true => okI (Int.mul i j) S
  | false => match lt64 j with
    | true => okI (Int.mul i j) S
    | false => .bad
def rep {α : Type} (xs : List α) : Nat → List α
  | 0 => []
  | Nat.succ n => xs ++ rep xs n
def dBin (m : Bool) (op : Operator) (x y : D) (S : Sto) : Res := match op with
  | .Add => match x with
    | .int i => match y with
      | .int j => okI (Int.add i j) S
      | _ => .bad
    | .tup xs => match y with
      | .tup ys => match small (xs.length + ys.length) with
        | true => .ok (.tup (xs ++ ys)) S
        | false => .bad
      | _ => .bad
    | .str a => match y with
      | .str b => match small (a.length + b.length) with
        | true => .ok (.str (a ++ b)) S
        | false => .bad
      | _ => .bad
    | x => match lisOf S x with
      | some xs => match lisOf S y with
        | some ys => match small (xs.length + ys.length) with
          | true => newL m (xs ++ ys) S
          | false => .bad
        | none => .bad
      | none => .bad
  | .Sub => match x with
    | .int i => match y with
      | .int j => okI (Int.sub i j) S
      | _ => .bad
    | _ => .bad
  | .Mult => match x with
    | .int i => match y with
      | .int j => dMul i j S
      | _ => .bad
    | _ => .bad
  | .Mod => match x with
    | .int i => match y with
      | .int j => match iEq j 0 with
        | false => okI (Int.fmod i j) S
        | true => .bad
      | _ => .bad
    | _ => .bad
  | .FloorDiv => match x with
    | .int i => match y with
      | .int j => match iEq j 0 with
        | false => match lt30 j with
          | true => okI (Int.fdiv i j) S
          | false => .bad
        | true => .bad
      | _ => .bad
    | _ => .bad
  | .Pow => match x with
    | .int i => match y with
      | .int (.ofNat n) => match lt64 i with
        | true => match Nat.ble n 1000000 with
          | true => okI (i ^ n) S
          | false => .bad
        | false => .bad
      | _ => .bad
    | _ => .bad
  | _ => .bad

section
variable {X : Cx} {T : Ads}
/-- two own values, then their operation -/
def r2D (K : PySem.W.Frag) (T : Ads) (f : D → D → Sto → Res) (E : XK) : R2 := fun x y H Q => ∃ W d e S, Rv K T W d x ∧ Rv K T W e y ∧ Rh K T W S H ∧ Post K T W (f d e S) Q E
theorem lt64_of {i : Int} (h : lt64 i = true) : -(2 ^ 64) < i ∧ i < 2 ^ 64 := by
  have := Nat.le_of_ble_eq_true h
  omega
theorem lt30_of {i : Int} (h : lt30 i = true) : i.natAbs < 1073741824 := Nat.le_of_ble_eq_true h
theorem rep_eq {α : Type} (xs : List α) : ∀ n, rep xs n = (List.replicate n xs).flatten
  | 0 => rfl
  | n + 1 => by show xs ++ rep xs n = _; rw [rep_eq xs n, List.replicate_succ, List.flatten_cons]
theorem Rvs.rep {K : PySem.W.Frag} {W : Wd} {ds : List D} {vs : List V} (h : Rvs K T W ds vs) : ∀ n, Rvs K T W (rep ds n) (List.replicate n vs).flatten
  | 0 => rfl
  | n + 1 => by rw [List.replicate_succ, List.flatten_cons]; exact h.app (Rvs.rep h n)
theorem op_bin {m : Bool} {op : Operator} {E : XK} : OpR X (binaryOp op) (r2D X.K T (dBin m op) E) := by
  intro pins s σ H x y v u Q I rx ry ⟨W, d, e, S, rd, re, h, p⟩
  cases op with
  | Add =>
    have lists : ∀ xs, lisOf S d = some xs → Post X.K T W (match lisOf S e with
        | some ys => match small (xs.length + ys.length) with
          | true => newL m (xs ++ ys) S
          | false => .bad
        | none => .bad) Q E → wpAny (model X.prog X.w) X.A (binaryOp .Add v u) (EP X pins σ Q) X.xe s := by
      intro xs e1 p
      cases e2 : lisOf S e with
      | none => rw [e2] at p; exact p.elim
      | some ys =>
        rw [e2] at p
        have p : Post X.K T W (match small (xs.length + ys.length) with
          | true => newL m (xs ++ ys) S
          | false => .bad) Q E := p
        cases hz : small (xs.length + ys.length) with
        | false => rw [hz] at p; exact p.elim
        | true =>
          rw [hz] at p
          obtain ⟨a, vs, rfl, r1, q1⟩ := lis_at h rd e1
          obtain ⟨b, ws, rfl, r2, q2⟩ := lis_at h re e2
          exact op_cat pins s σ H _ _ v u Q I rx ry ⟨a, b, vs, ws, rfl, rfl, q1, q2, by rw [r1.len, r2.len]; exact small_line hz, fun q hq => newL_ok h (r1.app r2) hq p⟩
    cases d with
    | int i =>
      cases e with
      | int j =>
        have p : Post X.K T W (okI (Int.add i j) S) Q E := p
        rw [okI_eq] at p
        exact op_add pins s σ H x y v u Q I rx ry ⟨i, j, rd, re, p.here h rfl⟩
      | _ => exact p.elim
    | tup xs =>
      cases e with
      | tup ys =>
        have p : Post X.K T W (match small (xs.length + ys.length) with | true => .ok (.tup (xs ++ ys)) S | false => .bad) Q E := p
        cases hz : small (xs.length + ys.length) with
        | false => rw [hz] at p; exact p.elim
        | true =>
          rw [hz] at p
          obtain ⟨a, vs, rfl, q1, r1⟩ := rd
          obtain ⟨b, ws, rfl, q2, r2⟩ := re
          refine op_catA pins s σ H _ _ v u Q I rx ry ⟨a, b, vs, ws, rfl, rfl, SqT.up h.sub q1, SqT.up h.sub q2, ?_, fun z => ?_, fun _ z => ?_, fun _ _ q hq => ?_⟩
          · rw [r1.len, r2.len]; exact small_line hz
          · subst z
            exact p.here h ⟨b, ws, rfl, q2, (r1.app r2)⟩
          · subst z
            exact p.here h ⟨a, vs, rfl, q1, by have := r1.app r2; rw [List.append_nil] at this; exact this⟩
          · exact newT_ok h (r1.app r2) hq p
      | _ => exact p.elim
    | str a =>
      cases e with
      | str b =>
        have p : Post X.K T W (match small (a.length + b.length) with | true => .ok (.str (a ++ b)) S | false => .bad) Q E := p
        cases hz : small (a.length + b.length) with
        | false => rw [hz] at p; exact p.elim
        | true =>
          rw [hz] at p
          exact op_add_str pins s σ H x y v u Q I rx ry ⟨a, b, rd, re, small_line hz, p.here h rfl⟩
      | _ => exact p.elim
    | lis xs => exact lists xs rfl p
    | loc l =>
      have p : Post X.K T W (match lisOf S (.loc l) with
        | some xs => match lisOf S e with
          | some ys => match small (xs.length + ys.length) with
            | true => newL m (xs ++ ys) S
            | false => .bad
          | none => .bad
        | none => .bad) Q E := p
      cases e1 : lisOf S (.loc l) with
      | none => rw [e1] at p; exact p.elim
      | some xs => rw [e1] at p; exact lists xs e1 p
    | _ => exact p.elim
  | Sub =>
    cases d with
    | int i =>
      cases e with
      | int j =>
        have p : Post X.K T W (okI (Int.sub i j) S) Q E := p
        rw [okI_eq] at p
        exact op_sub pins s σ H x y v u Q I rx ry ⟨i, j, rd, re, p.here h rfl⟩
      | _ => exact p.elim
    | _ => exact p.elim
  | Mult =>
    cases d with
    | int i =>
      cases e with
      | int j =>
        have p : Post X.K T W (dMul i j S) Q E := p
        unfold dMul at p
        cases h1 : lt64 i with
        | true =>
          rw [h1] at p
          have p : Post X.K T W (okI (Int.mul i j) S) Q E := p
          rw [okI_eq] at p
          exact op_mul pins s σ H x y v u Q I rx ry ⟨i, j, rd, re, .inl (lt64_of h1), p.here h rfl⟩
        | false =>
          rw [h1] at p
          have p : Post X.K T W (match lt64 j with | true => okI (Int.mul i j) S | false => .bad) Q E := p
          cases h2 : lt64 j with
          | true =>
            rw [h2] at p
            have p : Post X.K T W (okI (Int.mul i j) S) Q E := p
            rw [okI_eq] at p
            exact op_mul pins s σ H x y v u Q I rx ry ⟨i, j, rd, re, .inr (lt64_of h2), p.here h rfl⟩
          | false => rw [h2] at p; exact p.elim
      | _ => exact p.elim
    | _ => exact p.elim
  | Mod =>
    cases d with
    | int i =>
      cases e with
      | int j =>
        have p : Post X.K T W (match iEq j 0 with | false => okI (Int.fmod i j) S | true => .bad) Q E := p
        rw [iEq_eq] at p
        by_cases hj : j = 0
        · rw [decide_eq_true hj] at p; exact p.elim
        · rw [decide_eq_false hj] at p
          have p : Post X.K T W (okI (Int.fmod i j) S) Q E := p
          rw [okI_eq] at p
          exact op_modN pins s σ H x y v u Q I rx ry ⟨i, j, rd, re, hj, p.here h rfl⟩
      | _ => exact p.elim
    | _ => exact p.elim
  | FloorDiv =>
    cases d with
    | int i =>
      cases e with
      | int j =>
        have p : Post X.K T W (match iEq j 0 with | false => (match lt30 j with | true => okI (Int.fdiv i j) S | false => .bad) | true => .bad) Q E := p
        rw [iEq_eq] at p
        by_cases hj : j = 0
        · rw [decide_eq_true hj] at p; exact p.elim
        · rw [decide_eq_false hj] at p
          have p : Post X.K T W (match lt30 j with | true => okI (Int.fdiv i j) S | false => .bad) Q E := p
          cases hl : lt30 j with
          | false => rw [hl] at p; exact p.elim
          | true =>
            rw [hl] at p
            have p : Post X.K T W (okI (Int.fdiv i j) S) Q E := p
            rw [okI_eq] at p
            exact op_fdivN pins s σ H x y v u Q I rx ry ⟨i, j, rd, re, ⟨hj, lt30_of hl⟩, p.here h rfl⟩
      | _ => exact p.elim
    | _ => exact p.elim
  | Pow =>
    cases d with
    | int i =>
      cases e with
      | int j =>
        cases j with
        | ofNat n =>
          have p : Post X.K T W (match lt64 i with | true => (match Nat.ble n 1000000 with | true => okI (i ^ n) S | false => .bad) | false => .bad) Q E := p
          cases h1 : lt64 i with
          | false => rw [h1] at p; exact p.elim
          | true =>
            rw [h1] at p
            have p : Post X.K T W (match Nat.ble n 1000000 with | true => okI (i ^ n) S | false => .bad) Q E := p
            cases h2 : Nat.ble n 1000000 with
            | false => rw [h2] at p; exact p.elim
            | true =>
              rw [h2] at p
              have p : Post X.K T W (okI (i ^ n) S) Q E := p
              rw [okI_eq] at p
              have h3 := Nat.le_of_ble_eq_true h2
              have h4 : i.natAbs < 2 ^ 64 := by have := Nat.le_of_ble_eq_true h1; omega
              exact op_pow pins s σ H x y v u Q I rx ry ⟨i, Int.ofNat n, rd, re, ⟨Int.natCast_nonneg n, by simp only [Int.ofNat_eq_natCast]; omega, h4⟩, p.here h rfl⟩
        | negSucc n => exact p.elim
      | _ => exact p.elim
    | _ => exact p.elim
  | _ => exact p.elim
end

/-! ### data -/
mutual
def dPy : D → PyData
  | .bl b => .bool b
  | .int i => .int i
  | .str x => .str x
  | .tup xs => .tuple (dPys xs)
  | .lis xs => .list (dPys xs)
  | _ => .none
def dPys : List D → List PyData
  | [] => []
  | x :: xs => dPy x :: dPys xs
end
theorem dPys_map : ∀ xs : List D, dPys xs = xs.map dPy
  | [] => by simp [dPys]
  | x :: xs => by simp [dPys, dPys_map xs]
mutual
theorem dOk_lay : ∀ (d : D) (n : Nat), dOk d n = true → (dPy d).canLay0 = true ∧ (dPy d).depth ≤ n
  | .non, _, _ => by simp [dPy, PyData.canLay0, PyData.depth]
  | .bl _, _, _ => by simp [dPy, PyData.canLay0, PyData.depth]
  | .int _, _, _ => by simp [dPy, PyData.canLay0, PyData.depth]
  | .str x, _, h => by
    refine ⟨?_, by simp [dPy, PyData.depth]⟩
    simp only [dPy, PyData.canLay0]
    have h' : (x.cps.all fun c => Nat.blt c 1114112) = true := h
    show (x.cps.all fun c => decide (c < 1114112)) = true
    rw [Array.all_eq_true] at h' ⊢
    intro i hi
    have := h' i hi
    rw [blt_dec] at this
    simpa using this
  | .tup xs, 0, h => by cases h
  | .tup xs, n + 1, h => by
    obtain ⟨a, b⟩ := dOks_lay xs n h
    exact ⟨by simpa [dPy, PyData.canLay0] using a, by simp only [dPy, PyData.depth]; omega⟩
  | .lis xs, 0, h => by cases h
  | .lis xs, n + 1, h => by
    obtain ⟨a, b⟩ := dOks_lay xs n h
    exact ⟨by simpa [dPy, PyData.canLay0] using a, by simp only [dPy, PyData.depth]; omega⟩
  | .scr _, _, h => by cases h
  | .ty _, _, h => by cases h
  | .dic _ _, _, h => by cases h
  | .loc _, _, h => by cases h
  | .fn _, _, h => by cases h
  | .exc _ _, _, h => by cases h
theorem dOks_lay : ∀ (ds : List D) (n : Nat), dOks ds n = true → PyData.canLayAll0 (dPys ds) = true ∧ PyData.depthAll (dPys ds) ≤ n
  | [], _, _ => by simp [dPys, PyData.canLayAll0, PyData.depthAll]
  | x :: xs, n, h => by
    have h' : (match dOk x n with | true => dOks xs n | false => false) = true := h
    cases q : dOk x n with
    | false => rw [q] at h'; cases h'
    | true =>
      rw [q] at h'
      obtain ⟨a, b⟩ := dOk_lay x n q
      obtain ⟨a', b'⟩ := dOks_lay xs n h'
      simp only [dPys, PyData.canLayAll0, PyData.depthAll, a, a', Bool.and_self, true_and]
      exact Nat.max_le.mpr ⟨b, b'⟩
end
section
variable {K : PySem.W.Frag} {T : Ads} {W : Wd} {H : Hp}
mutual
theorem dOk_dp (hs : ∀ a o, W.F a = some o → H a = some o) : ∀ (d : D) (n : Nat) (v : V), dOk d n = true → Rv K T W d v → Dp K H v (dPy d)
  | .non, _, _, _, r => by cases r; simp only [dPy]; exact .non
  | .bl _, _, _, _, r => by cases r; simp only [dPy]; exact .bl _
  | .int _, _, _, _, r => by cases r; simp only [dPy]; exact .int _
  | .str _, _, _, _, r => by cases r; simp only [dPy]; exact .str _
  | .tup xs, 0, _, h, _ => by cases h
  | .tup xs, n + 1, _, h, ⟨a, vs, e, q, r⟩ => by
    subst e; simp only [dPy]
    exact .tup (SqT.up hs q) (dOks_dp hs xs n vs h r)
  | .lis xs, 0, _, h, _ => by cases h
  | .lis xs, n + 1, _, h, ⟨a, vs, e, q, r⟩ => by
    subst e; simp only [dPy]
    exact .lst (SqL.of (hs _ _ q)) (dOks_dp hs xs n vs h r)
  | .scr _, _, _, h, _ => by cases h
  | .ty _, _, _, h, _ => by cases h
  | .dic _ _, _, _, h, _ => by cases h
  | .loc _, _, _, h, _ => by cases h
  | .fn _, _, _, h, _ => by cases h
  | .exc _ _, _, _, h, _ => by cases h
theorem dOks_dp (hs : ∀ a o, W.F a = some o → H a = some o) : ∀ (ds : List D) (n : Nat) (vs : List V), dOks ds n = true → Rvs K T W ds vs → DpAll K H vs (dPys ds)
  | [], _, _, _, r => by cases r; simp only [dPys]; exact .nil
  | x :: xs, n, _, h, ⟨v, t, e, r1, r2⟩ => by
    subst e
    have h' : (match dOk x n with | true => dOks xs n | false => false) = true := h
    cases q : dOk x n with
    | false => rw [q] at h'; cases h'
    | true =>
      rw [q] at h'
      simp only [dPys]
      exact .cons (dOk_dp hs x n v q r1) (dOks_dp hs xs n t h' r2)
end
/-- a value, a list of the store as it stands -/
theorem frz_dp {S : Sto} (h : Rh K T W S H) {d : D} {v : V} {n : Nat} (k : dOk (frz S d) n = true) (r : Rv K T W d v) : Dp K H v (dPy (frz S d)) := by
  cases d with
  | loc l =>
    have e : frz S (.loc l) = match sGet S l with | some (.lst xs) => .lis xs | _ => .loc l := rfl
    rw [e] at k ⊢
    obtain ⟨a, rfl, q⟩ := r
    cases g : sGet S l with
    | none => rw [g] at k; cases k
    | some o =>
      rw [g] at k
      cases o with
      | lst xs =>
        obtain ⟨b, q', vs, hb, rr⟩ := h.obj l _ g
        rw [q] at q'; cases q'
        cases n with
        | zero => cases k
        | succ n =>
          simp only [dPy]
          exact .lst (SqL.of hb) (dOks_dp h.sub xs n vs k rr)
      | dic _ _ => cases k
      | ins _ _ _ => cases k
  | scr _ => cases k
  | _ => exact dOk_dp h.sub _ n v k r
end
theorem shaped_of {d : D} (h : dOk d 60 = true) : SeqAt.shaped (dPy d) = true := by
  obtain ⟨a, b⟩ := dOk_lay d 60 h
  unfold SeqAt.shaped
  rw [a, decide_eq_true (by omega)] <;> rfl
mutual
theorem dEq_py : ∀ (d e : D) (n : Nat), dOk d n = true → dOk e n = true → PyData.eqv (dPy d) (dPy e) = dEq d e
  | .non, e, n, _, k => by cases e <;> first | (cases k; done) | simp [dPy, PyData.eqv, dEq]
  | .bl a, e, n, _, k => by
    cases e with
    | bl b => cases a <;> cases b <;> simp [dPy, PyData.eqv, dEq]
    | int j => simp only [dPy, PyData.eqv, dEq]; rw [iEq_eq]; cases a <;> simp [b2, Bool.beq_eq_decide_eq] <;> congr
    | _ => first | (cases k; done) | simp [dPy, PyData.eqv, dEq]
  | .int i, e, n, _, k => by
    cases e with
    | bl b => simp only [dPy, PyData.eqv, dEq]; rw [iEq_eq]; cases b <;> simp [b2, Bool.beq_eq_decide_eq] <;> congr
    | int j => simp only [dPy, PyData.eqv, dEq]; rw [iEq_eq, Bool.beq_eq_decide_eq]
    | _ => first | (cases k; done) | simp [dPy, PyData.eqv, dEq]
  | .str a, e, n, _, k => by
    cases e with
    | str b => simp only [dPy, PyData.eqv, dEq]; rw [strEq_eq, Bool.beq_eq_decide_eq]
    | _ => first | (cases k; done) | simp [dPy, PyData.eqv, dEq]
  | .tup xs, e, 0, h, _ => by cases h
  | .tup xs, e, n + 1, h, k => by
    cases e with
    | tup ys => simp only [dPy, PyData.eqv, dEq]; exact dEqs_py xs ys n h k
    | _ => first | (cases k; done) | simp [dPy, PyData.eqv, dEq]
  | .lis xs, e, 0, h, _ => by cases h
  | .lis xs, e, n + 1, h, k => by
    cases e with
    | lis ys => simp only [dPy, PyData.eqv, dEq]; exact dEqs_py xs ys n h k
    | _ => first | (cases k; done) | simp [dPy, PyData.eqv, dEq]
  | .scr _, _, _, h, _ => by cases h
  | .ty _, _, _, h, _ => by cases h
  | .dic _ _, _, _, h, _ => by cases h
  | .loc _, _, _, h, _ => by cases h
  | .fn _, _, _, h, _ => by cases h
  | .exc _ _, _, _, h, _ => by cases h
theorem dEqs_py : ∀ (ds es : List D) (n : Nat), dOks ds n = true → dOks es n = true → PyData.eqvAll (dPys ds) (dPys es) = dEqs ds es
  | [], [], _, _, _ => by simp [dPys, PyData.eqvAll, dEqs]
  | [], _ :: _, _, _, _ => by simp [dPys, PyData.eqvAll, dEqs]
  | _ :: _, [], _, _, _ => by simp [dPys, PyData.eqvAll, dEqs]
  | x :: xs, y :: ys, n, h, k => by
    have h' : (match dOk x n with | true => dOks xs n | false => false) = true := h
    have k' : (match dOk y n with | true => dOks ys n | false => false) = true := k
    cases q : dOk x n with
    | false => rw [q] at h'; cases h'
    | true =>
      cases q2 : dOk y n with
      | false => rw [q2] at k'; cases k'
      | true =>
        rw [q] at h'; rw [q2] at k'
        simp only [dPys, PyData.eqvAll, dEqs]
        rw [dEq_py x y n q q2, dEqs_py xs ys n h' k']
        cases dEq x y <;> rfl
end

/-! ### the less -/
theorem natsLt_eq : ∀ l m : List Nat, natsLt l m = decide (l < m)
  | [], [] => by simp [natsLt]
  | [], _ :: _ => by simp [natsLt]
  | _ :: _, [] => by simp [natsLt]
  | x :: r, y :: t => by
    show (match Nat.beq x y with | true => natsLt r t | false => Nat.blt x y) = _
    rw [beq_dec, natsLt_eq r t]
    by_cases h : x = y
    · subst h; simp [List.cons_lt_cons_iff]
    · simp [h, blt_dec, List.cons_lt_cons_iff]
mutual
theorem dAl_py : ∀ (d e : D) (n : Nat), dOk d n = true → dOk e n = true → dAl d e = true → PySem.W.alike (dPy d) (dPy e) = true
  | .non, e, n, _, _, h => by cases e <;> first | (cases h; done) | simp [dPy, PySem.W.alike]
  | .bl a, e, n, _, _, h => by cases e <;> first | (cases h; done) | simp [dPy, PySem.W.alike]
  | .int i, e, n, _, _, h => by cases e <;> first | (cases h; done) | simp [dPy, PySem.W.alike]
  | .str a, e, n, _, _, h => by cases e <;> first | (cases h; done) | simp [dPy, PySem.W.alike]
  | .tup xs, e, 0, k, _, _ => by cases k
  | .tup xs, e, n + 1, k, k2, h => by
    cases e with
    | tup ys => simp only [dPy, PySem.W.alike]; exact dAls_py xs ys n k k2 h
    | _ => cases h
  | .lis xs, e, 0, k, _, _ => by cases k
  | .lis xs, e, n + 1, k, k2, h => by
    cases e with
    | lis ys => simp only [dPy, PySem.W.alike]; exact dAls_py xs ys n k k2 h
    | _ => cases h
  | .scr _, _, _, h, _, _ => by cases h
  | .ty _, _, _, h, _, _ => by cases h
  | .dic _ _, _, _, h, _, _ => by cases h
  | .loc _, _, _, h, _, _ => by cases h
  | .fn _, _, _, h, _, _ => by cases h
  | .exc _ _, _, _, h, _, _ => by cases h
theorem dAls_py : ∀ (ds es : List D) (n : Nat), dOks ds n = true → dOks es n = true → dAls ds es = true → PySem.W.alikeAll (dPys ds) (dPys es) = true
  | [], _, _, _, _, _ => by simp [dPys, PySem.W.alikeAll]
  | x :: xs, [], _, _, _, _ => by simp [dPys, PySem.W.alikeAll]
  | x :: xs, y :: ys, n, h, k, a => by
    have h' : (match dOk x n with | true => dOks xs n | false => false) = true := h
    have k' : (match dOk y n with | true => dOks ys n | false => false) = true := k
    have a' : (match dAl x y with | true => dAls xs ys | false => false) = true := a
    cases q : dOk x n with
    | false => rw [q] at h'; cases h'
    | true =>
      cases q2 : dOk y n with
      | false => rw [q2] at k'; cases k'
      | true =>
        cases q3 : dAl x y with
        | false => rw [q3] at a'; cases a'
        | true =>
          rw [q] at h'; rw [q2] at k'; rw [q3] at a'
          simp only [dPys, PySem.W.alikeAll]
          rw [dAl_py x y n q q2 q3, dAls_py xs ys n h' k' a'] <;> rfl
end
open PyProof.Rows in
mutual
theorem dLt_py : ∀ (d e : D) (n : Nat), dOk d n = true → dOk e n = true → dAl d e = true → PySem.W.dataLt (dPy d) (dPy e) = dLt d e
  | .non, e, n, _, _, h => by
    cases e <;> first | (cases h; done) | skip
    simp only [dPy, dLt]
    exact lex_irrefl _
  | .bl a, e, n, _, _, h => by
    cases e with
    | bl b => simp only [dPy, dLt]; rw [PySem.W.dataLt_bool, iLt_eq]; cases a <;> cases b <;> simp [b2, b2i]
    | _ => cases h
  | .int i, e, n, _, _, h => by
    cases e with
    | int j => simp only [dPy, dLt]; rw [PySem.W.dataLt_int, iLt_eq]
    | _ => cases h
  | .str a, e, n, _, _, h => by
    cases e with
    | str b => simp only [dPy, dLt]; rw [PySem.W.dataLt_str, natsLt_eq] <;> congr
    | _ => cases h
  | .tup xs, e, 0, k, _, _ => by cases k
  | .tup xs, e, n + 1, k, k2, h => by
    cases e with
    | tup ys => simp only [dPy, dLt]; rw [PySem.W.dataLt_tuple]; exact dLts_py xs ys n k k2 h
    | _ => cases h
  | .lis xs, e, 0, k, _, _ => by cases k
  | .lis xs, e, n + 1, k, k2, h => by
    cases e with
    | lis ys => simp only [dPy, dLt]; rw [PySem.W.dataLt_list]; exact dLts_py xs ys n k k2 h
    | _ => cases h
  | .scr _, _, _, h, _, _ => by cases h
  | .ty _, _, _, h, _, _ => by cases h
  | .dic _ _, _, _, h, _, _ => by cases h
  | .loc _, _, _, h, _, _ => by cases h
  | .fn _, _, _, h, _, _ => by cases h
  | .exc _ _, _, _, h, _, _ => by cases h
theorem dLts_py : ∀ (ds es : List D) (n : Nat), dOks ds n = true → dOks es n = true → dAls ds es = true → lexLt itemOrd (PySem.W.keyToksAll (dPys ds)) (PySem.W.keyToksAll (dPys es)) = dLts ds es
  | [], [], _, _, _, _ => by simp only [dPys, dLts]; exact lex_irrefl _
  | [], _ :: _, _, _, _, _ => by
    simp only [dPys, dLts]
    rw [PySem.W.toks_all_cons]
    simp only [PySem.W.keyToksAll]
    exact (lex_diff (O := itemOrd) (by simp)).trans rfl
  | x :: xs, [], _, _, _, _ => by
    simp only [dPys, dLts]
    rw [PySem.W.toks_all_cons]
    simp only [PySem.W.keyToksAll]
    exact (lex_diff (O := itemOrd) (by simp)).trans rfl
  | x :: xs, y :: ys, n, h, k, a => by
    have h' : (match dOk x n with | true => dOks xs n | false => false) = true := h
    have k' : (match dOk y n with | true => dOks ys n | false => false) = true := k
    have a' : (match dAl x y with | true => dAls xs ys | false => false) = true := a
    cases q : dOk x n with
    | false => rw [q] at h'; cases h'
    | true =>
      cases q2 : dOk y n with
      | false => rw [q2] at k'; cases k'
      | true =>
        cases q3 : dAl x y with
        | false => rw [q3] at a'; cases a'
        | true =>
          rw [q] at h'; rw [q2] at k'; rw [q3] at a'
          simp only [dPys, dLts]
          rw [PySem.W.dataLt_cons (dAl_py x y n q q2 q3), dEq_py x y n q q2, dLts_py xs ys n h' k' a', dLt_py x y n q q2 q3]
          cases dEq x y <;> rfl
end
end Ev
/-! Ev, part D: comparisons, truth, built-in functions. -/
namespace Ev
open PySem L2

def anyEq (d : D) : List D → Bool
  | [] => false
  | y :: ys => match dEq y d with
    | true => true
    | false => anyEq d ys
def pick (b c : Bool) : Bool := match b with
  | true => c
  | false => !c
def isNon : D → Bool
  | .non => true
  | _ => false
/-- both as data, then their answer -/
def cmpD (f : D → D → Bool) (x y : D) (S : Sto) : Res := match dOk (frz S x) 60 with
  | true => match dOk (frz S y) 60 with
    | true => .ok (.bl (f (frz S x) (frz S y))) S
    | false => .bad
  | false => .bad
def cmpO (f : D → D → Bool) (x y : D) (S : Sto) : Res := match dOk (frz S x) 60 with
  | true => match dOk (frz S y) 60 with
    | true => match isNon (frz S x) with
      | false => match dAl (frz S x) (frz S y) with
        | true => .ok (.bl (f (frz S x) (frz S y))) S
        | false => .bad
      | true => .bad
    | false => .bad
  | false => .bad
def cmpI (f : D → D → Bool) (g : Int → Int → Bool) (x y : D) (S : Sto) : Res := match x with
  | .int i => match y with
    | .int j => .ok (.bl (g i j)) S
    | _ => .bad
  | x => cmpO f x y S
/-- is x among the items of y -/
def inD (b : Bool) (x y : D) (S : Sto) : Res := match dOk (frz S x) 60 with
  | true => match seqOf S y with
    | some ys => match dOks ys 60 with
      | true => .ok (.bl (pick b (anyEq (frz S x) ys))) S
      | false => .bad
    | none => .bad
  | false => .bad
def isD (b : Bool) (x y : D) (S : Sto) : Res := match y with
  | .non => .ok (.bl (pick b (isNon x))) S
  | .bl c => match x with
    | .bl a => .ok (.bl (pick b (a == c))) S
    | _ => .bad
  | _ => .bad
def dCmp (op : CmpOp) (x y : D) (S : Sto) : Res := match op with
  | .Eq => cmpD dEq x y S
  | .NotEq => cmpD (fun a b => !dEq a b) x y S
  | .Lt => cmpI dLt iLt x y S
  | .Gt => cmpI (fun a b => dLt b a) (fun i j => iLt j i) x y S
  | .LtE => cmpI (fun a b => !dLt b a) (fun i j => !iLt j i) x y S
  | .GtE => cmpI (fun a b => !dLt a b) (fun i j => !iLt i j) x y S
  | .In => inD true x y S
  | .NotIn => inD false x y S
  | .Is => isD true x y S
  | .IsNot => isD false x y S

/-- what a comparison gives is a bool -/
theorem anyEq_eq (d : D) (n : Nat) (hd : dOk d n = true) : ∀ ys : List D, dOks ys n = true → (dPys ys).any (fun z => PyData.eqv z (dPy d)) = anyEq d ys
  | [], _ => by simp [dPys, anyEq]
  | y :: ys, h => by
    have h' : (match dOk y n with | true => dOks ys n | false => false) = true := h
    cases q : dOk y n with
    | false => rw [q] at h'; cases h'
    | true =>
      rw [q] at h'
      simp only [dPys, List.any_cons, anyEq]
      rw [anyEq_eq d n hd ys h', dEq_py y d n q hd]
      cases dEq y d <;> rfl

section
variable {X : Cx} {T : Ads} {pins : List (Addr × Obj)} {s : Shared} {σ : St} {H : Hp} {W : Wd} {S : Sto}
theorem frz_reads (I : Inv X pins σ H s) (h : Rh X.K T W S H) {d : D} {x : V} {v : Value} {n : Nat} (k : dOk (frz S d) n = true) (r : Rv X.K T W d x) (rv : RelV x v) : ∃ as, Reads s.heap v (dPy (frz S d)) as :=
  Dp.reads I _ x v (frz_dp h k r) rv
theorem isNon_py {d : D} {n : Nat} (h : isNon d = false) (k : dOk d n = true) : dPy d ≠ PyData.none := by
  cases d <;> first | (cases h; done) | (cases k; done) | simp [dPy]
theorem depth_room {d e : D} {A : Around} (hu : A.units + 64 < cLine) (h : dOk d 60 = true) : A.units + min (dPy d).depth (dPy e).depth < cLine := by
  have h1 := (dOk_lay d 60 h).2
  have h2 : min (dPy d).depth (dPy e).depth ≤ (dPy d).depth := Nat.min_le_left _ _
  omega
theorem op_cmpD {E : XK} {op : CmpOp} {f : D → D → Bool} (hu : X.A.units + 64 < cLine)
    (rule : ∀ (a b : D) (u v : Value) (as bs : List Addr) (s : Shared) (Q : Value → Shared → Prop), dOk a 60 = true → dOk b 60 = true → Reads s.heap u (dPy a) as → Reads s.heap v (dPy b) bs → Q (.bool (f a b)) s → wpAny (model X.prog X.w) X.A (compareOp op u v) Q X.xe s) :
    OpR X (compareOp op) (r2D X.K T (cmpD f) E) := by
  intro pins s σ H x y v u Q I rx ry ⟨W, d, e, S, rd, re, h, p⟩
  unfold cmpD at p
  cases h1 : dOk (frz S d) 60 with
  | false => rw [h1] at p; exact p.elim
  | true =>
    rw [h1] at p
    cases h2 : dOk (frz S e) 60 with
    | false => rw [h2] at p; exact p.elim
    | true =>
      rw [h2] at p
      obtain ⟨as, r1⟩ := frz_reads I h h1 rd rx
      obtain ⟨bs, r2⟩ := frz_reads I h h2 re ry
      exact rule _ _ v u as bs s _ h1 h2 r1 r2 ⟨.bl _, H, I, rfl, Post.here p h rfl⟩
theorem op_cmpO {E : XK} {op : CmpOp} {f : D → D → Bool}
    (rule : ∀ (a b : D) (u v : Value) (as bs : List Addr) (s : Shared) (Q : Value → Shared → Prop), dOk a 60 = true → dOk b 60 = true → isNon a = false → dAl a b = true → Reads s.heap u (dPy a) as → Reads s.heap v (dPy b) bs → Q (.bool (f a b)) s → wpAny (model X.prog X.w) X.A (compareOp op u v) Q X.xe s) :
    OpR X (compareOp op) (r2D X.K T (cmpO f) E) := by
  intro pins s σ H x y v u Q I rx ry ⟨W, d, e, S, rd, re, h, p⟩
  unfold cmpO at p
  cases h1 : dOk (frz S d) 60 with
  | false => rw [h1] at p; exact p.elim
  | true =>
    rw [h1] at p
    cases h2 : dOk (frz S e) 60 with
    | false => rw [h2] at p; exact p.elim
    | true =>
      rw [h2] at p
      cases h3 : isNon (frz S d) with
      | true => rw [h3] at p; exact p.elim
      | false =>
        rw [h3] at p
        cases h4 : dAl (frz S d) (frz S e) with
        | false => rw [h4] at p; exact p.elim
        | true =>
          rw [h4] at p
          obtain ⟨as, r1⟩ := frz_reads I h h1 rd rx
          obtain ⟨bs, r2⟩ := frz_reads I h h2 re ry
          exact rule _ _ v u as bs s _ h1 h2 h3 h4 r1 r2 ⟨.bl _, H, I, rfl, Post.here p h rfl⟩
theorem op_cmpI {E : XK} {op : CmpOp} {f : D → D → Bool} {g : Int → Int → Bool} (ho : OpR X (compareOp op) (r2D X.K T (cmpO f) E))
    (rule : ∀ (i j : Int) (t u : Tok) (s : Shared) (Q : Value → Shared → Prop), Q (.bool (g i j)) s → wpAny (model X.prog X.w) X.A (compareOp op (.int i t) (.int j u)) Q X.xe s) :
    OpR X (compareOp op) (r2D X.K T (cmpI f g) E) := by
  intro pins s σ H x y v u Q I rx ry ⟨W, d, e, S, rd, re, h, p⟩
  cases d with
  | int i =>
    cases e with
    | int j =>
      cases rd
      cases re
      obtain ⟨t, rfl⟩ := rx
      obtain ⟨t', rfl⟩ := ry
      exact rule i j t t' s _ ⟨.bl _, H, I, rfl, Post.here p h rfl⟩
    | _ => exact p.elim
  | _ => exact ho pins s σ H x y v u Q I rx ry ⟨W, _, e, S, rd, re, h, p⟩
theorem op_inB {E : XK} (hu : X.A.units + 65 < cLine) {b : Bool} {op : CmpOp} (ho : op = if b = true then CmpOp.In else CmpOp.NotIn) : OpR X (compareOp op) (r2D X.K T (inD b) E) := by
  intro pins s σ H x y v u Q I rx ry ⟨W, d, e, S, rd, re, h, p⟩
  unfold inD at p
  cases h1 : dOk (frz S d) 60 with
  | false => rw [h1] at p; exact p.elim
  | true =>
    rw [h1] at p
    cases h2 : seqOf S e with
    | none => rw [h2] at p; exact p.elim
    | some ys =>
      rw [h2] at p
      have p : Post X.K T W (match dOks ys 60 with | true => .ok (.bl (pick b (anyEq (frz S d) ys))) S | false => .bad) Q E := p
      cases h3 : dOks ys 60 with
      | false => rw [h3] at p; exact p.elim
      | true =>
        rw [h3] at p
        obtain ⟨as, r1⟩ := frz_reads I h h1 rd rx
        obtain ⟨a, vs, rfl, rr, hq⟩ := seq_at h re h2
        have dp := dOks_dp h.sub ys 60 vs h3 rr
        obtain ⟨l1, l2⟩ := dOk_lay _ 60 h1
        obtain ⟨m1, m2⟩ := dOks_lay _ 60 h3
        have room : X.A.units + 1 + min (PyData.depthAll (dPys ys)) (dPy (frz S d)).depth < cLine := by
          have h2 : min (PyData.depthAll (dPys ys)) (dPy (frz S d)).depth ≤ PyData.depthAll (dPys ys) := Nat.min_le_left _ _
          omega
        have key := anyEq_eq (frz S d) 60 h1 ys h3
        rcases hq with hq | hq
        · obtain ⟨bs, r2⟩ := Dp.reads I (.list (dPys ys)) (.ref a) u (.lst hq dp) ry
          cases b with
          | true => subst ho; exact SeqAt.in_list_reads r2 r1 m1 l1 room ⟨.bl _, H, I, rfl, by rw [key]; exact Post.here p h rfl⟩
          | false => subst ho; exact SeqAt.notIn_list_reads r2 r1 m1 l1 room ⟨.bl _, H, I, rfl, by rw [key]; exact Post.here p h rfl⟩
        · obtain ⟨bs, r2⟩ := Dp.reads I (.tuple (dPys ys)) (.ref a) u (.tup hq dp) ry
          cases b with
          | true => subst ho; exact SeqAt.in_tuple_reads r2 r1 m1 l1 room ⟨.bl _, H, I, rfl, by rw [key]; exact Post.here p h rfl⟩
          | false => subst ho; exact SeqAt.notIn_tuple_reads r2 r1 m1 l1 room ⟨.bl _, H, I, rfl, by rw [key]; exact Post.here p h rfl⟩
theorem Rv.non_iff {d : D} {v : V} (r : Rv X.K T W d v) : decide (v = .non) = isNon d := by
  cases d with
  | non => cases r; rfl
  | bl _ => cases r; rfl
  | int _ => cases r; rfl
  | str _ => cases r; rfl
  | ty _ => cases r; rfl
  | tup _ => obtain ⟨a, vs, rfl, _⟩ := r; rfl
  | lis _ => obtain ⟨a, vs, rfl, _⟩ := r; rfl
  | scr _ => obtain ⟨a, vs, rfl, _⟩ := r; rfl
  | dic _ _ => exact r.elim
  | loc _ => obtain ⟨a, rfl, _⟩ := r; rfl
  | fn _ => cases r; rfl
  | exc _ _ => exact r.elim
theorem op_isB {E : XK} {b : Bool} {op : CmpOp} (ho : op = if b = true then CmpOp.Is else CmpOp.IsNot) : OpR X (compareOp op) (r2D X.K T (isD b) E) := by
  intro pins s σ H x y v u Q I rx ry ⟨W, d, e, S, rd, re, h, p⟩
  cases e with
  | non =>
    cases re
    have e := rd.non_iff
    cases b with
    | true => subst ho; exact op_isN pins s σ H x .non v u Q I rx ry ⟨rfl, by rw [e]; exact Post.here p h rfl⟩
    | false => subst ho; exact op_notN pins s σ H x .non v u Q I rx ry ⟨rfl, by rw [e]; exact Post.here p h rfl⟩
  | bl c =>
    cases d with
    | bl a =>
      cases b with
      | true => subst ho; exact op_is_bl pins s σ H x y v u Q I rx ry ⟨a, c, rd, re, by rw [← Bool.beq_eq_decide_eq]; exact Post.here p h rfl⟩
      | false => subst ho; exact op_isnot_bl pins s σ H x y v u Q I rx ry ⟨a, c, rd, re, by rw [← Bool.beq_eq_decide_eq]; exact Post.here p h rfl⟩
    | _ => exact p.elim
  | _ => exact p.elim
mutual
theorem dAl_comm : ∀ d e : D, dAl d e = dAl e d
  | .non, e => by cases e <;> rfl
  | .bl a, e => by cases e <;> rfl
  | .int i, e => by cases e <;> rfl
  | .str a, e => by cases e <;> rfl
  | .tup xs, e => by cases e <;> first | rfl | exact dAls_comm xs _
  | .lis xs, e => by cases e <;> first | rfl | exact dAls_comm xs _
  | .scr _, e => by cases e <;> rfl
  | .ty _, e => by cases e <;> rfl
  | .dic _ _, e => by cases e <;> rfl
  | .loc _, e => by cases e <;> rfl
  | .fn _, e => by cases e <;> rfl
  | .exc _ _, e => by cases e <;> rfl
theorem dAls_comm : ∀ ds es : List D, dAls ds es = dAls es ds
  | [], [] => rfl
  | [], _ :: _ => rfl
  | _ :: _, [] => rfl
  | x :: xs, y :: ys => by
    show (match dAl x y with | true => dAls xs ys | false => false) = (match dAl y x with | true => dAls ys xs | false => false)
    rw [dAl_comm x y, dAls_comm xs ys]
end
theorem nlt_le (i j : Int) : (!iLt j i) = decide (i ≤ j) := by
  rw [iLt_eq, Bool.eq_iff_iff]
  simp
open PyProof.Rows in
theorem op_cmp {E : XK} (hu : X.A.units + 65 < cLine) (op : CmpOp) : OpR X (compareOp op) (r2D X.K T (dCmp op) E) := by
  have hu' : X.A.units + 64 < cLine := by omega
  cases op with
  | Eq => exact op_cmpD (f := dEq) hu' fun a b u v as bs s Q h1 h2 r1 r2 q => SeqAt.compareEq_shaped r1 r2 (shaped_of h1) (shaped_of h2) hu' (by rw [dEq_py a b 60 h1 h2]; exact q)
  | NotEq => exact op_cmpD (f := fun a b => !dEq a b) hu' fun a b u v as bs s Q h1 h2 r1 r2 q => SeqAt.compareNe_shaped r1 r2 (shaped_of h1) (shaped_of h2) hu' (by rw [dEq_py a b 60 h1 h2]; exact q)
  | Lt =>
    have h0 : OpR X (compareOp .Lt) (r2D X.K T (cmpO dLt) E) := op_cmpO fun a b u v as bs s Q h1 h2 h3 h4 r1 r2 q => PySem.W.lt_data r1 r2 (dAl_py a b 60 h1 h2 h4) (isNon_py h3 h1) (depth_room hu' h1) (by rw [dLt_py a b 60 h1 h2 h4]; exact q)
    exact op_cmpI (g := iLt) h0 fun i j t u s Q q => lt_int (by rw [iLt_eq] at q; exact q)
  | LtE =>
    have h0 : OpR X (compareOp .LtE) (r2D X.K T (cmpO fun a b => !dLt b a) E) := op_cmpO fun a b u v as bs s Q h1 h2 h3 h4 r1 r2 q => PySem.W.le_data r1 r2 (dAl_py a b 60 h1 h2 h4) (isNon_py h3 h1) (depth_room hu' h1) (by rw [dLt_py b a 60 h2 h1 (by rw [dAl_comm]; exact h4)]; exact q)
    exact op_cmpI (g := fun i j => !iLt j i) h0 fun i j t u s Q q => le_int (by rw [nlt_le] at q; exact q)
  | Gt =>
    have h0 : OpR X (compareOp .Gt) (r2D X.K T (cmpO fun a b => dLt b a) E) := op_cmpO fun a b u v as bs s Q h1 h2 h3 h4 r1 r2 q => PySem.W.gt_data r1 r2 (dAl_py a b 60 h1 h2 h4) (isNon_py h3 h1) (depth_room hu' h1) (by rw [dLt_py b a 60 h2 h1 (by rw [dAl_comm]; exact h4)]; exact q)
    exact op_cmpI (g := fun i j => iLt j i) h0 fun i j t u s Q q => gt_int (by rw [iLt_eq] at q; exact q)
  | GtE =>
    have h0 : OpR X (compareOp .GtE) (r2D X.K T (cmpO fun a b => !dLt a b) E) := op_cmpO fun a b u v as bs s Q h1 h2 h3 h4 r1 r2 q => PySem.W.ge_data r1 r2 (dAl_py a b 60 h1 h2 h4) (isNon_py h3 h1) (depth_room hu' h1) (by rw [dLt_py a b 60 h1 h2 h4]; exact q)
    exact op_cmpI (g := fun i j => !iLt i j) h0 fun i j t u s Q q => ge_int (by rw [nlt_le] at q; exact q)
  | Is => exact op_isB (b := true) rfl
  | IsNot => exact op_isB (b := false) rfl
  | In => exact op_inB (b := true) hu rfl
  | NotIn => exact op_inB (b := false) hu rfl
end
end Ev
/-! Ev, part E: expressions and tests. -/
namespace Ev
open PySem L2

/-! ### own code for expressions -/
def b2C (f : D → D → Sto → Res) (a b : C1) : C1 := fun σ S => (a σ S).bind fun x S1 => (b σ S1).bind fun y S2 => f x y S2
def u1C (f : D → Sto → Res) (a : C1) : C1 := fun σ S => (a σ S).bind fun x S1 => f x S1
def varC (i : Nat) : C1 := fun σ S => match σGet σ i with
  | some d => .ok d S
  | none => .bad
def conC (d : D) : C1 := fun _ S => .ok d S
/-- a value's truth -/
def dTru (S : Sto) : D → Option Bool
  | .non => some false
  | .bl b => some b
  | .int i => some (!iEq i 0)
  | .str x => match small x.length with
    | true => some (!Nat.beq x.length 0)
    | false => none
  | d => match seqOf S d with
    | some xs => some (!xs.isEmpty)
    | none => none
def truC (a : C1) : C1 := u1C (fun d S => match dTru S d with
  | some b => .ok (.bl b) S
  | none => .bad) a
def notF (d : D) (S : Sto) : Res := match dTru S d with
  | some b => .ok (.bl (!b)) S
  | none => .bad
def andC (a b : C1) : C1 := fun σ S => (a σ S).bind fun d S1 => match dTru S1 d with
  | some true => b σ S1
  | some false => .ok d S1
  | none => .bad
def orC (a b : C1) : C1 := fun σ S => (a σ S).bind fun d S1 => match dTru S1 d with
  | some true => .ok d S1
  | some false => b σ S1
  | none => .bad
def ifC (c a b : C1) : C1 := fun σ S => (c σ S).bind fun d S1 => match d with
  | .bl true => a σ S1
  | .bl false => b σ S1
  | _ => .bad
def blC (d : D) (S : Sto) (k : Bool → Res) : Res := match d with
  | .bl b => k b
  | _ => .bad
/-- a op b op' c -/
def chC (f g : D → D → Sto → Res) (a b c : C1) : C1 := fun σ S => (a σ S).bind fun x S1 => (b σ S1).bind fun y S2 => (f x y S2).bind fun z S3 => match z with
  | .bl true => (c σ S3).bind fun w S4 => g y w S4
  | .bl false => .ok (.bl false) S3
  | _ => .bad
/-- tests: their value is a bool -/
def tAndC (a b : C1) : C1 := fun σ S => (a σ S).bind fun d S1 => match d with
  | .bl true => b σ S1
  | .bl false => .ok (.bl false) S1
  | _ => .bad
def tOrC (a b : C1) : C1 := fun σ S => (a σ S).bind fun d S1 => match d with
  | .bl true => .ok (.bl true) S1
  | .bl false => b σ S1
  | _ => .bad
def tNotC (a : C1) : C1 := fun σ S => (a σ S).bind fun d S1 => match d with
  | .bl b => .ok (.bl (!b)) S1
  | _ => .bad
def aNil : C1L := fun _ S => .ok [] S
def aCons (a : C1) (b : C1L) : C1L := fun σ S => (a σ S).bindL fun x S1 => (b σ S1).bindL fun xs S2 => .ok (x :: xs) S2
def tupC (a : C1L) : C1 := fun σ S => (a σ S).bind fun xs S1 => match small xs.length with
  | true => .ok (.tup xs) S1
  | false => .bad
def lisC (m : Bool) (a : C1L) : C1 := fun σ S => (a σ S).bind fun xs S1 => match small xs.length with
  | true => newL m xs S1
  | false => .bad
def negF (d : D) (S : Sto) : Res := match d with
  | .int i => okI (Int.neg i) S
  | _ => .bad

section
variable {X : Cx} {T : Ads} {Wx : WX} {e a b c : Expr} {pos : Pos}
theorem PE.weak {t t' : TE} (h : PE X e t) (k : ∀ τ H Q, t' τ H Q → t τ H Q) : PE X e t' := ⟨fun pins s σ H Q I q => h.run pins s σ H Q I (k σ H Q q)⟩
theorem PT.weak {t t' : TT} (h : PT X e t) (k : ∀ τ H Q, t' τ H Q → t τ H Q) : PT X e t' := ⟨fun pins s σ H Q I q => h.run pins s σ H Q I (k σ H Q q)⟩
theorem PW.weak {t t' : TT} (h : PW X e t) (k : ∀ τ H Q, t' τ H Q → t τ H Q) : PW X e t' := ⟨fun wh pins s σ H Q I q => h.run wh pins s σ H Q I (k σ H Q q)⟩
theorem PA.weak {es : List Expr} {t t' : TA} (h : PA X es t) (k : ∀ τ H Q, t' τ H Q → t τ H Q) : PA X es t' := ⟨fun p pins s σ H Q I q => h.run p pins s σ H Q I (k σ H Q q)⟩
abbrev EE (X : Cx) (T : Ads) (Wx : WX) (e : Expr) (c : C1) : Prop := PE X e (tE X.K T Wx c)
abbrev ET (X : Cx) (T : Ads) (Wx : WX) (e : Expr) (c : C1) : Prop := PT X e (tT X.K T Wx c)
abbrev EA (X : Cx) (T : Ads) (Wx : WX) (es : List Expr) (c : C1L) : Prop := PA X es (tA X.K T Wx c)

theorem e_con {d : D} {v : V} (h : PE X e (tC v)) (r : ∀ W, Rv X.K T W d v) : EE X T Wx e (conC d) :=
  PE.weak h fun τ H Q ⟨W, σ, S, rs, rh, p⟩ => Post.here p rh (r W)
theorem e_var {i : Nat} (h : PE X e (tVar i)) : EE X T Wx e (varC i) := PE.weak h fun τ H Q ⟨W, σ, S, rs, rh, p⟩ => by
  unfold varC σGet at p
  rw [lGet_eq] at p
  cases q : σ[i]? with
  | none => rw [q] at p; exact p.elim
  | some o =>
    rw [q] at p
    cases o with
    | none => exact p.elim
    | some d =>
      obtain ⟨v, hv, r⟩ := rs.2 i d q
      exact ⟨v, hv, Post.here p rh r⟩

/-- two own values in a row -/
theorem tE_b2 {K : PySem.W.Frag} {ca cb : C1} {k : D → D → Sto → Res} {τ : St} {H : Hp} {Q : VK} (h : tE K T Wx (b2C k ca cb) τ H Q) :
    tE K T Wx ca τ H fun x H1 => tE K T Wx cb τ H1 fun y H2 => ∃ E, r2D K T k E x y H2 Q := by
  obtain ⟨W, σ, S, rs, rh, p⟩ := h
  refine ⟨W, σ, S, rs, rh, Post.imp (fun v H' ⟨U, d, S1, le, rh1, rv, p1⟩ => ?_) (Post.bind p)⟩
  refine ⟨U, σ, S1, rs.up le, rh1, Post.imp (fun v2 H2 ⟨U2, d2, S2, le2, rh2, rv2, p2⟩ => ?_) (Post.bind p1)⟩
  exact ⟨_, U2, d, d2, S2, Rv.up le2 d v rv, rv2, rh2, p2⟩
theorem e_b2 {ca cb : C1} {op : Operator} {f : D → D → Sto → Res} (ho : ∀ E, OpR X (binaryOp op) (r2D X.K T f E)) (ha : EE X T Wx a ca) (hb : EE X T Wx b cb) : EE X T Wx (.BinOp a op b pos) (b2C f ca cb) :=
  PE.weak (pe_op (r := fun x y H Q => ∃ E, r2D X.K T f E x y H Q) (fun pins s σ H x y v u Q I rx ry ⟨E, h⟩ => ho E pins s σ H x y v u Q I rx ry h) ha hb) fun τ H Q h => tE_b2 h
theorem ho_cmp (hu : X.A.units + 65 < cLine) (op : CmpOp) : OpR X (compareOp op) (fun x y H Q => ∃ E, r2D X.K T (dCmp op) E x y H Q) :=
  fun pins s σ H x y v u Q I rx ry ⟨E, h⟩ => op_cmp hu op pins s σ H x y v u Q I rx ry h
theorem e_cmp {ca cb : C1} {op : CmpOp} (hu : X.A.units + 65 < cLine) (ha : EE X T Wx a ca) (hb : EE X T Wx b cb) (hm : behindInMarks op b = false) : EE X T Wx (.Compare a [op] [b] pos) (b2C (dCmp op) ca cb) :=
  PE.weak (pe_cmpR (ho_cmp hu op) ha hb hm) fun τ H Q h => tE_b2 h
/-- dCmp gives a bool -/
theorem cmp_bl (op : CmpOp) (x y : D) (S : Sto) : dCmp op x y S = .bad ∨ ∃ b, dCmp op x y S = .ok (.bl b) S := by
  have d : ∀ f, cmpD f x y S = .bad ∨ ∃ b, cmpD f x y S = .ok (.bl b) S := fun f => by
    unfold cmpD; cases dOk (frz S x) 60 <;> cases dOk (frz S y) 60 <;> first | exact .inl rfl | exact .inr ⟨_, rfl⟩
  have o : ∀ f, cmpO f x y S = .bad ∨ ∃ b, cmpO f x y S = .ok (.bl b) S := fun f => by
    unfold cmpO; cases dOk (frz S x) 60 <;> cases dOk (frz S y) 60 <;> cases isNon (frz S x) <;> cases dAl (frz S x) (frz S y) <;> first | exact .inl rfl | exact .inr ⟨_, rfl⟩
  have i : ∀ f g, cmpI f g x y S = .bad ∨ ∃ b, cmpI f g x y S = .ok (.bl b) S := fun f g => by
    cases x <;> first | exact o f | (cases y <;> first | exact .inl rfl | exact .inr ⟨_, rfl⟩)
  have n : ∀ b, inD b x y S = .bad ∨ ∃ c, inD b x y S = .ok (.bl c) S := fun b => by
    unfold inD; cases dOk (frz S x) 60 with
    | false => exact .inl rfl
    | true =>
      cases seqOf S y with
      | none => exact .inl rfl
      | some ys =>
        show (match dOks ys 60 with | true => Res.ok (.bl (pick b (anyEq (frz S x) ys))) S | false => .bad) = _ ∨ ∃ c, (match dOks ys 60 with | true => Res.ok (.bl (pick b (anyEq (frz S x) ys))) S | false => .bad) = _
        cases dOks ys 60 with
        | false => exact .inl rfl
        | true => exact .inr ⟨_, rfl⟩
  have s : ∀ b, isD b x y S = .bad ∨ ∃ c, isD b x y S = .ok (.bl c) S := fun b => by
    cases y <;> first | exact .inl rfl | exact .inr ⟨_, rfl⟩ | (cases x <;> first | exact .inl rfl | exact .inr ⟨_, rfl⟩)
  cases op with
  | Eq => exact d _
  | NotEq => exact d (fun a b => !dEq a b)
  | Lt => exact i dLt iLt
  | LtE => exact i (fun a b => !dLt b a) (fun i j => !iLt j i)
  | Gt => exact i (fun a b => dLt b a) (fun i j => iLt j i)
  | GtE => exact i (fun a b => !dLt a b) (fun i j => !iLt i j)
  | In => exact n _
  | NotIn => exact n _
  | Is => exact s _
  | IsNot => exact s _
theorem Post.bl_of {K : PySem.W.Frag} {W : Wd} {d : D} {S : Sto} {Q : VK} {E : XK} {op : CmpOp} {x y : D} {S0 : Sto} (e : dCmp op x y S0 = .ok d S) : ∃ b, d = .bl b := by
  rcases cmp_bl op x y S0 with h | ⟨b, h⟩
  · rw [h] at e; cases e
  · rw [h] at e; cases e; exact ⟨b, rfl⟩
theorem t_cmp {ca cb : C1} {op : CmpOp} (hu : X.A.units + 65 < cLine) (ha : EE X T Wx a ca) (hb : EE X T Wx b cb) (hm : behindInMarks op b = false) : ET X T Wx (.Compare a [op] [b] pos) (b2C (dCmp op) ca cb) :=
  PT.weak (pt_cmpR (ho_cmp hu op) ha hb hm) fun τ H Q h => tE_b2 h
/-- a op b op' c -/
theorem e_chain {ca cb cc : C1} {op op' : CmpOp} (hu : X.A.units + 65 < cLine) (ha : EE X T Wx a ca) (hb : EE X T Wx b cb) (hc : EE X T Wx c cc) (hm : lastMarks [op, op'] [b, c] = false) :
    EE X T Wx (.Compare a [op, op'] [b, c] pos) (chC (dCmp op) (dCmp op') ca cb cc) := by
  refine PE.weak (pe_chain (ho_cmp (T := T) hu op) (ho_cmp (T := T) hu op') ha hb hc hm) fun τ H Q ⟨W, σ, S, rs, rh, p⟩ => ?_
  refine ⟨W, σ, S, rs, rh, Post.imp (fun v H' ⟨U, x, S1, le, rh1, rv, p1⟩ => ?_) (Post.bind p)⟩
  refine ⟨U, σ, S1, rs.up le, rh1, Post.imp (fun v2 H2 ⟨U2, y, S2, le2, rh2, rv2, p2⟩ => ?_) (Post.bind p1)⟩
  refine ⟨fun cls p H' => Wx cls p τ H', U2, x, y, S2, Rv.up le2 x v rv, rv2, rh2, ?_⟩
  rcases cmp_bl op x y S2 with h | ⟨b, h⟩
  · rw [h] at p2; exact p2.elim
  · rw [h] at p2 ⊢
    intro U3 H3 w le3 rh3 rw3
    cases rw3
    refine ⟨b, rfl, ?_⟩
    cases b with
    | false =>
      have p2 : Post X.K T U2 (.ok (.bl false) S2) Q _ := p2
      exact Post.here (p2.up le3) rh3 rfl
    | true =>
      have p2 : Post X.K T U2 ((cc σ S2).bind fun w S4 => dCmp op' y w S4) Q _ := p2
      refine ⟨U3, σ, S2, ((rs.up le).up le2).up le3, rh3, Post.imp (fun v4 H4 ⟨U4, w, S4, le4, rh4, rv4, p4⟩ => ?_) (Post.bind (p2.up le3))⟩
      exact ⟨_, U4, y, w, S4, Rv.up (le3.trans le4) y v2 rv2, rv4, rh4, p4⟩
theorem t_chain {ca cb cc : C1} {op op' : CmpOp} (hu : X.A.units + 65 < cLine) (ha : EE X T Wx a ca) (hb : EE X T Wx b cb) (hc : EE X T Wx c cc) (hm : lastMarks [op, op'] [b, c] = false) :
    ET X T Wx (.Compare a [op, op'] [b, c] pos) (chC (dCmp op) (dCmp op') ca cb cc) := by
  refine PT.weak (pt_chain (ho_cmp (T := T) hu op) (ho_cmp (T := T) hu op') ha hb hc hm) fun τ H Q ⟨W, σ, S, rs, rh, p⟩ => ?_
  refine ⟨W, σ, S, rs, rh, Post.imp (fun v H' ⟨U, x, S1, le, rh1, rv, p1⟩ => ?_) (Post.bind p)⟩
  refine ⟨U, σ, S1, rs.up le, rh1, Post.imp (fun v2 H2 ⟨U2, y, S2, le2, rh2, rv2, p2⟩ => ?_) (Post.bind p1)⟩
  refine ⟨fun cls p H' => Wx cls p τ H', U2, x, y, S2, Rv.up le2 x v rv, rv2, rh2, ?_⟩
  rcases cmp_bl op x y S2 with h | ⟨b, h⟩
  · rw [h] at p2; exact p2.elim
  · rw [h] at p2 ⊢
    intro U3 H3 w le3 rh3 rw3
    cases rw3
    refine ⟨b, rfl, ?_⟩
    cases b with
    | false =>
      have p2 : Post X.K T U2 (.ok (.bl false) S2) _ _ := p2
      exact Post.here (p2.up le3) rh3 rfl
    | true =>
      have p2 : Post X.K T U2 ((cc σ S2).bind fun w S4 => dCmp op' y w S4) _ _ := p2
      refine ⟨U3, σ, S2, ((rs.up le).up le2).up le3, rh3, Post.imp (fun v4 H4 ⟨U4, w, S4, le4, rh4, rv4, p4⟩ => ?_) (Post.bind (p2.up le3))⟩
      exact ⟨_, U4, y, w, S4, Rv.up (le3.trans le4) y v2 rv2, rv4, rh4, p4⟩

/-! ### truth -/
theorem tru_at {W : Wd} {S : Sto} {H : Hp} {d : D} {v : V} {k : Bool} (h : Rh X.K T W S H) (r : Rv X.K T W d v) (e : dTru S d = some k) : TruV X.K v H k := by
  have hseq : ∀ xs, seqOf S d = some xs → k = !xs.isEmpty → TruV X.K v H k := fun xs e1 e2 => by
    obtain ⟨a, vs, rfl, rr, hq⟩ := seq_at h r e1
    have hl := rr.len
    have he : vs.isEmpty = xs.isEmpty := by cases vs <;> cases xs <;> first | rfl | (simp at hl)
    rcases hq with hq | hq
    · exact .inl ⟨vs, hq, by rw [e2, he]⟩
    · exact .inr (.inl ⟨vs, hq, by rw [e2, he]⟩)
  have gen : (match seqOf S d with | some xs => some (!xs.isEmpty) | none => none) = some k → TruV X.K v H k := fun e => by
    cases q : seqOf S d with
    | none => rw [q] at e; cases e
    | some xs => rw [q] at e; exact hseq xs q (by cases e; rfl)
  cases d with
  | non => cases r; cases e; rfl
  | bl b => cases r; cases e; rfl
  | int i => cases r; cases e; show _ = (i != 0); rw [iEq_eq, bne, Bool.beq_eq_decide_eq]
  | str x =>
    cases r
    have e' : (match small x.length with | true => some (!Nat.beq x.length 0) | false => none) = some k := e
    cases q : small x.length with
    | false => rw [q] at e'; cases e'
    | true =>
      rw [q] at e'
      cases e'
      refine ⟨small_line q, ?_⟩
      rw [beq_dec, bne, Bool.beq_eq_decide_eq]
      congr 1
      apply decide_eq_decide.mpr
      omega
  | _ => exact gen e
theorem tE_u1 {K : PySem.W.Frag} {ca : C1} {k : D → Sto → Res} {τ : St} {H : Hp} {Q : VK} (h : tE K T Wx (u1C k ca) τ H Q) :
    tE K T Wx ca τ H fun x H1 => ∃ E W d S, Rv K T W d x ∧ Rh K T W S H1 ∧ Post K T W (k d S) Q E := by
  obtain ⟨W, σ, S, rs, rh, p⟩ := h
  exact ⟨W, σ, S, rs, rh, Post.imp (fun v H' ⟨U, d, S1, le, rh1, rv, p1⟩ => ⟨_, U, d, S1, rv, rh1, p1⟩) (Post.bind p)⟩
theorem e_not {ca : C1} (ha : EE X T Wx a ca) : EE X T Wx (.UnaryOp .Not a pos) (u1C notF ca) :=
  PE.weak (pe_notT ha) fun τ H Q h => by
    obtain ⟨W, σ, S, rs, rh, p⟩ := tE_u1 h
    refine ⟨W, σ, S, rs, rh, Post.imp (fun x H1 ⟨E, U, d, S1, rv, rh1, p1⟩ => ?_) p⟩
    unfold notF at p1
    cases q : dTru S1 d with
    | none => rw [q] at p1; exact p1.elim
    | some b => rw [q] at p1; exact ⟨b, tru_at rh1 rv q, Post.here p1 rh1 rfl⟩
theorem e_neg {ca : C1} (ha : EE X T Wx a ca) : EE X T Wx (.UnaryOp .USub a pos) (u1C negF ca) :=
  PE.weak (pe_un un_neg ha) fun τ H Q h => by
    obtain ⟨W, σ, S, rs, rh, p⟩ := tE_u1 h
    refine ⟨W, σ, S, rs, rh, Post.imp (fun x H1 ⟨E, U, d, S1, rv, rh1, p1⟩ => ?_) p⟩
    cases d with
    | int i =>
      have p1 : Post X.K T U (okI (Int.neg i) S1) Q E := p1
      rw [okI_eq] at p1
      exact ⟨i, rv, Post.here p1 rh1 rfl⟩
    | _ => exact p1.elim
/-- a test that is a value's truth -/
theorem t_tru {ca : C1} (ha : EE X T Wx a ca) (he : ∀ whole, isTrue a X.env whole = (do let v ← whole; standAt a.pos; holding [v] (truthy v))) : ET X T Wx a (truC ca) :=
  PT.weak (pt_truth ha he) fun τ H Q h => by
    obtain ⟨W, σ, S, rs, rh, p⟩ := tE_u1 (K := X.K) (show tE X.K T Wx (truC ca) τ H _ from h)
    refine ⟨W, σ, S, rs, rh, Post.imp (fun x H1 ⟨E, U, d, S1, rv, rh1, p1⟩ => ?_) p⟩
    cases q : dTru S1 d with
    | none => rw [q] at p1; exact p1.elim
    | some b =>
      rw [q] at p1
      obtain ⟨c, e, q1⟩ := Post.here (v := .bl b) p1 rh1 rfl
      cases e
      exact ⟨b, tru_at rh1 rv q, q1⟩
/-- x and y, x or y as values -/
theorem tE_one {K : PySem.W.Frag} {ca : C1} {k : D → Sto → Res} {τ : St} {H : Hp} {Q : VK} {f : Sl → D → Sto → Res}
    (h : tE K T Wx (fun σ S => (ca σ S).bind (f σ)) τ H Q) :
    tE K T Wx ca τ H fun x H1 => ∃ W σ d S, Rs K T W σ τ ∧ Rv K T W d x ∧ Rh K T W S H1 ∧ Post K T W (f σ d S) Q (fun cls p H' => Wx cls p τ H') := by
  obtain ⟨W, σ, S, rs, rh, p⟩ := h
  exact ⟨W, σ, S, rs, rh, Post.imp (fun v H' ⟨U, d, S1, le, rh1, rv, p1⟩ => ⟨U, σ, d, S1, rs.up le, rv, rh1, p1⟩) (Post.bind p)⟩
theorem e_and {rest : List Expr} {ca cb : C1} (ha : EE X T Wx a ca) (hb : EE X T Wx (.BoolOp .And (b :: rest) pos) cb) : EE X T Wx (.BoolOp .And (a :: b :: rest) pos) (andC ca cb) :=
  PE.weak (pe_andT ha hb) fun τ H Q h => by
    obtain ⟨W, σ, S, rs, rh, p⟩ := tE_one (k := fun d S => .bad) (K := X.K) (show tE X.K T Wx (andC ca cb) τ H Q from h)
    refine ⟨W, σ, S, rs, rh, Post.imp (fun x H1 ⟨U, σ1, d, S1, rs1, rv, rh1, p1⟩ => ?_) p⟩
    cases q : dTru S1 d with
    | none => simp only [q] at p1; exact p1.elim
    | some k =>
      simp only [q] at p1
      refine ⟨k, tru_at rh1 rv q, ?_⟩
      cases k with
      | true => exact ⟨U, σ1, S1, rs1, rh1, p1⟩
      | false => exact Post.here p1 rh1 rv
theorem e_or {rest : List Expr} {ca cb : C1} (ha : EE X T Wx a ca) (hb : EE X T Wx (.BoolOp .Or (b :: rest) pos) cb) : EE X T Wx (.BoolOp .Or (a :: b :: rest) pos) (orC ca cb) :=
  PE.weak (pe_orT ha hb) fun τ H Q h => by
    obtain ⟨W, σ, S, rs, rh, p⟩ := tE_one (k := fun d S => .bad) (K := X.K) (show tE X.K T Wx (orC ca cb) τ H Q from h)
    refine ⟨W, σ, S, rs, rh, Post.imp (fun x H1 ⟨U, σ1, d, S1, rs1, rv, rh1, p1⟩ => ?_) p⟩
    cases q : dTru S1 d with
    | none => simp only [q] at p1; exact p1.elim
    | some k =>
      simp only [q] at p1
      refine ⟨k, tru_at rh1 rv q, ?_⟩
      cases k with
      | false => exact ⟨U, σ1, S1, rs1, rh1, p1⟩
      | true => exact Post.here p1 rh1 rv
theorem e_boolOne {op : BoolOp} {ca : C1} (ha : EE X T Wx a ca) : EE X T Wx (.BoolOp op [a] pos) ca := pe_one ha
/-! ### tests -/
abbrev EW (X : Cx) (T : Ads) (Wx : WX) (e : Expr) (c : C1) : Prop := PW X e (tT X.K T Wx c)
theorem tT_one {K : PySem.W.Frag} {ca : C1} {τ : St} {H : Hp} {Q : Bool → Hp → Prop} {f : Sl → D → Sto → Res}
    (h : tT K T Wx (fun σ S => (ca σ S).bind (f σ)) τ H Q) :
    tE K T Wx ca τ H fun x H1 => ∃ W σ d S, Rs K T W σ τ ∧ Rv K T W d x ∧ Rh K T W S H1 ∧ Post K T W (f σ d S) (fun v H' => ∃ b, v = .bl b ∧ Q b H') (fun cls p H' => Wx cls p τ H') := by
  obtain ⟨W, σ, S, rs, rh, p⟩ := h
  exact ⟨W, σ, S, rs, rh, Post.imp (fun v H' ⟨U, d, S1, le, rh1, rv, p1⟩ => ⟨U, σ, d, S1, rs.up le, rv, rh1, p1⟩) (Post.bind p)⟩
/-- a test's reading out of its value's -/
theorem Post.bl_kind {K : PySem.W.Frag} {W : Wd} {r : Res} {Q : Bool → Hp → Prop} {G : V → Hp → Prop} {E : XK} (p : Post K T W r (fun v H' => G v H') E)
    (h : ∀ d S v H' U, r = .ok d S → W.Le U → Rv K T U d v → Rh K T U S H' → G v H' → ∃ b, v = .bl b ∧ Q b H') : Post K T W r (fun v H' => ∃ b, v = .bl b ∧ Q b H') E := by
  cases r with
  | ok d S => exact fun U H v le rh rv => h d S v H U rfl le rv rh (p U H v le rh rv)
  | exc c x S => exact p
  | bad => exact p
theorem tT_bl {K : PySem.W.Frag} {ca : C1} {τ : St} {H : Hp} {Q : Bool → Hp → Prop} {f : Sl → D → Sto → Res} (hf : ∀ σ d S, (∀ b, d ≠ .bl b) → f σ d S = .bad)
    (h : tT K T Wx (fun σ S => (ca σ S).bind (f σ)) τ H Q) :
    tT K T Wx ca τ H fun b H1 => ∃ W σ S, Rs K T W σ τ ∧ Rh K T W S H1 ∧ Post K T W (f σ (.bl b) S) (fun v H' => ∃ b, v = .bl b ∧ Q b H') (fun cls p H' => Wx cls p τ H') := by
  obtain ⟨W, σ, S, rs, rh, p⟩ := tT_one h
  refine ⟨W, σ, S, rs, rh, Post.imp (fun v H' ⟨U, σ1, d, S1, rs1, rv, rh1, p1⟩ => ?_) p⟩
  cases d with
  | bl b => cases rv; exact ⟨b, rfl, U, σ1, S1, rs1, rh1, p1⟩
  | _ => rw [hf σ1 _ S1 (fun b z => by cases z)] at p1; exact p1.elim
theorem w_and1 {ca : C1} (ha : ET X T Wx a ca) : EW X T Wx (.BoolOp .And [a] pos) ca := pw_and1 ha
theorem w_or1 {ca : C1} (ha : ET X T Wx a ca) : EW X T Wx (.BoolOp .Or [a] pos) ca := pw_or1 ha
theorem w_and {rest : List Expr} {ca cb : C1} (ha : ET X T Wx a ca) (hb : EW X T Wx (.BoolOp .And (b :: rest) pos) cb) : EW X T Wx (.BoolOp .And (a :: b :: rest) pos) (tAndC ca cb) :=
  PW.weak (pw_and ha hb) fun τ H Q h => by
    obtain ⟨W, σ, S, rs, rh, p⟩ := tT_bl (K := X.K) (f := fun σ d S1 => match d with | .bl true => cb σ S1 | .bl false => .ok (.bl false) S1 | _ => .bad)
      (fun σ d S hd => by cases d <;> first | rfl | exact absurd rfl (hd _)) (show tT X.K T Wx (tAndC ca cb) τ H Q from h)
    refine ⟨W, σ, S, rs, rh, Post.imp (fun x H1 ⟨b, e, U, σ1, S1, rs1, rh1, p1⟩ => ⟨b, e, ?_⟩) p⟩
    cases b with
    | true => exact ⟨U, σ1, S1, rs1, rh1, p1⟩
    | false =>
      obtain ⟨c, e, q⟩ := Post.here (v := .bl false) p1 rh1 rfl
      cases e
      exact q
theorem w_or {rest : List Expr} {ca cb : C1} (ha : ET X T Wx a ca) (hb : EW X T Wx (.BoolOp .Or (b :: rest) pos) cb) : EW X T Wx (.BoolOp .Or (a :: b :: rest) pos) (tOrC ca cb) :=
  PW.weak (pw_or ha hb) fun τ H Q h => by
    obtain ⟨W, σ, S, rs, rh, p⟩ := tT_bl (K := X.K) (f := fun σ d S1 => match d with | .bl true => .ok (.bl true) S1 | .bl false => cb σ S1 | _ => .bad)
      (fun σ d S hd => by cases d <;> first | rfl | exact absurd rfl (hd _)) (show tT X.K T Wx (tOrC ca cb) τ H Q from h)
    refine ⟨W, σ, S, rs, rh, Post.imp (fun x H1 ⟨b, e, U, σ1, S1, rs1, rh1, p1⟩ => ⟨b, e, ?_⟩) p⟩
    cases b with
    | false => exact ⟨U, σ1, S1, rs1, rh1, p1⟩
    | true =>
      obtain ⟨c, e, q⟩ := Post.here (v := .bl true) p1 rh1 rfl
      cases e
      exact q
theorem t_not {ca : C1} (ha : ET X T Wx a ca) : ET X T Wx (.UnaryOp .Not a pos) (tNotC ca) :=
  PT.weak (pt_not ha) fun τ H Q h => by
    obtain ⟨W, σ, S, rs, rh, p⟩ := tT_bl (K := X.K) (f := fun σ d S1 => match d with | .bl b => .ok (.bl (!b)) S1 | _ => .bad)
      (fun σ d S hd => by cases d <;> first | rfl | exact absurd rfl (hd _)) (show tT X.K T Wx (tNotC ca) τ H Q from h)
    refine ⟨W, σ, S, rs, rh, Post.imp (fun x H1 ⟨b, e, U, σ1, S1, rs1, rh1, p1⟩ => ⟨b, e, ?_⟩) p⟩
    obtain ⟨c, e, q⟩ := Post.here (v := .bl (!b)) p1 rh1 rfl
    cases e
    exact q
theorem e_if {cc ca cb : C1} (hc : ET X T Wx c cc) (ha : EE X T Wx a ca) (hb : EE X T Wx b cb) : EE X T Wx (.IfExp c a b pos) (ifC cc ca cb) :=
  PE.weak (pe_ifExp hc ha hb) fun τ H Q ⟨W, σ, S, rs, rh, p⟩ => by
    refine ⟨W, σ, S, rs, rh, Post.imp (fun v H' ⟨U, d, S1, le, rh1, rv, p1⟩ => ?_) (Post.bind p)⟩
    cases d with
    | bl b =>
      cases rv
      refine ⟨b, rfl, ?_⟩
      cases b with
      | true => exact ⟨U, σ, S1, rs.up le, rh1, p1⟩
      | false => exact ⟨U, σ, S1, rs.up le, rh1, p1⟩
    | _ => exact p1.elim
/-! ### argument lists, displays -/
theorem a_nil : EA X T Wx [] aNil := PA.weak pa_nil fun τ H Q ⟨W, σ, S, rs, rh, p⟩ => p W H [] (Wd.Le.refl W) rh rfl
theorem a_cons {es : List Expr} {ca : C1} {cb : C1L} (ha : EE X T Wx e ca) (hb : EA X T Wx es cb) (hs : starEach (e :: es) X.env = (false, eval e X.env) :: starEach es X.env) : EA X T Wx (e :: es) (aCons ca cb) :=
  PA.weak (pa_cons ha hb hs) fun τ H Q ⟨W, σ, S, rs, rh, p⟩ => by
    refine ⟨W, σ, S, rs, rh, Post.imp (fun v H' ⟨U, d, S1, le, rh1, rv, p1⟩ => ?_) (Post.bindL p)⟩
    refine ⟨U, σ, S1, rs.up le, rh1, PostL.imp (fun vs H2 ⟨U2, ds, S2, le2, rh2, rv2, p2⟩ => ?_) (PostL.bindL p1)⟩
    exact p2 U2 H2 _ (Wd.Le.refl _) rh2 ⟨v, vs, rfl, Rv.up le2 d v rv, rv2⟩
theorem e_tup {es : List Expr} {k : Nat} {ca : C1L} (ha : EA X T Wx es ca) : EE X T Wx (.Tuple es k pos) (tupC ca) :=
  PE.weak (pe_tup ha) fun τ H Q ⟨W, σ, S, rs, rh, p⟩ => by
    refine ⟨W, σ, S, rs, rh, PostL.imp (fun vs H' ⟨U, ds, S1, le, rh1, rv, p1⟩ => ?_) (PostL.bind p)⟩
    cases q : small ds.length with
    | false => rw [q] at p1; exact p1.elim
    | true =>
      rw [q] at p1
      exact ⟨by rw [rv.len]; exact small_line q, fun p hp => newT_ok rh1 rv hp p1⟩
theorem e_lis {es : List Expr} {m : Bool} {ca : C1L} (ha : EA X T Wx es ca) : EE X T Wx (.List es pos) (lisC m ca) :=
  PE.weak (pe_lst ha) fun τ H Q ⟨W, σ, S, rs, rh, p⟩ => by
    refine ⟨W, σ, S, rs, rh, PostL.imp (fun vs H' ⟨U, ds, S1, le, rh1, rv, p1⟩ => ?_) (PostL.bind p)⟩
    cases q : small ds.length with
    | false => rw [q] at p1; exact p1.elim
    | true =>
      rw [q] at p1
      exact ⟨by rw [rv.len]; exact small_line q, fun p hp => newL_ok rh1 rv hp p1⟩
end
end Ev
/-! Ev, part F0: a tuple, a list so many times. -/
namespace Ev
open PySem L2 PyProof.Rows
/-- once, or of nothing: the tuple itself -/
theorem mulT_same (l : Addr) (items : Array Value) (n : Nat) (sl : Array (Option Value)) (dd : Option Addr) (x : Int) (u : Tok) (c0 : (decide (x < -(2 ^ 63)) || decide (x ≥ 2 ^ 63)) = false) (c1 : (items.isEmpty || x == 1) = true) :
    Meets (Builtin.«tuple.__mul__» ⟨[.ref l, .int x u], []⟩) (fun _ R s => s.heap.get? l = some { cls := .type "tuple", dict := dd, data := .seq items n, slots := sl } ∧ R (.ok (.ret (Value.ref l))) s) :=
  .of_wp fun prog w A R s h => by
    obtain ⟨hp, g, d, tk, os⟩ := s
    obtain ⟨hl, h⟩ := h
    have f1 := AutoSeq1.idx_int
    wp_walk using wpAny_loadPart' hl
    rw [if_neg (by rw [c0]; exact Bool.false_ne_true)]
    wp_walk using wpAny_loadPart' hl
    exact ⟨_, rfl, h⟩
theorem mulT_none (l : Addr) (items : Array Value) (n : Nat) (sl : Array (Option Value)) (dd : Option Addr) (x : Int) (u : Tok) (c0 : (decide (x < -(2 ^ 63)) || decide (x ≥ 2 ^ 63)) = false) (c1 : (items.isEmpty || x == 1) = false) (c2 : (decide (x ≤ 0) || items.isEmpty) = true) :
    Meets (Builtin.«tuple.__mul__» ⟨[.ref l, .int x u], []⟩) (fun _ R s => s.heap.get? l = some { cls := .type "tuple", dict := dd, data := .seq items n, slots := sl } ∧ R (.ok (.ret (Value.ref s.heap.objs.size))) { s with heap := s.heap.push { cls := Value.type "tuple", data := Data.seq #[] } }) :=
  .of_wp fun prog w A R s h => by
    obtain ⟨hp, g, d, tk, os⟩ := s
    obtain ⟨hl, h⟩ := h
    have f1 := AutoSeq1.idx_int
    wp_walk using wpAny_loadPart' hl
    repeat (first
      | (refine wpAny_ite_false (decide_eq_false (by rw [c0]; exact Bool.false_ne_true)) ?_; wp_walk using wpAny_loadPart' hl)
      | (refine wpAny_ite_false (decide_eq_false (by rw [c1]; exact Bool.false_ne_true)) ?_; wp_walk using wpAny_loadPart' hl))
    exact ⟨_, rfl, h⟩
def nOf (j : Int) : Nat := match j with
  | .ofNat n => n
  | .negSucc _ => 0
theorem nOf_eq (j : Int) : nOf j = j.toNat := by cases j <;> rfl
/-- t * k -/
def rTimes (K : PySem.W.Frag) : R2 := fun x y H Q => ∃ l k xs, x = .ref l ∧ y = .int k ∧ SqT K H l xs ∧ k.natAbs < 2 ^ 62 ∧ xs.length ≤ 1000 ∧ k ≤ 1000 ∧
  ((k = 1 ∨ xs = []) → Q (.ref l) H) ∧ (¬ (k = 1 ∨ xs = []) → ∀ p, H p = none → Q (.ref p) (upd H p (.tup (List.replicate k.toNat xs).flatten)))
theorem op_times {X : Cx} : OpR X (binaryOp .Mult) (rTimes X.K) := by
  intro pins s σ H x y v u Q I rx ry h
  obtain ⟨l, k, xs, rfl, rfl, hT, hk, hz, h2, q1, q2⟩ := h
  by_cases hc : k = 1 ∨ xs = []
  · have q := q1 hc
    cases rx
    obtain ⟨t, rfl⟩ := ry
    obtain ⟨its, r, ⟨⟨cls, dd, data, sl⟩, ho, hc', n, hd⟩, hs⟩ := I.tuple hT
    simp only at hc' hd
    subst hc' hd
    have c0 : (decide (k < -(2 ^ 63)) || decide (k ≥ 2 ^ 63)) = false := by
      rw [decide_eq_false (by omega), decide_eq_false (by omega)] <;> rfl
    have c1 : (its.toArray.isEmpty || k == 1) = true := by
      rcases hc with rfl | rfl
      · simp
      · cases r; simp
    exact wpAny_binaryOp_repeat_ref (T := "tuple") (U := "int") (by decide) ⟨_, ho, rfl⟩ (fun s' => typeIs_int s' k t) noFill_tuple_mul F.fills_int_mul F.slot_int_rmul repeat_tuple F.slot_int_index.lookup
      (call_meets F.slot_int_rmul (typeIs_int s k t) F.entry_int_rmul (F.args_int_rmul_2 _ _) (int_rmul_tuple k t l its.toArray n dd sl)
        ⟨ho, rfl, ⟨_, ho, rfl⟩, call_meets F.slot_tuple_mul ⟨_, ho, rfl⟩ F.entry_tuple_mul (F.args_tuple_mul_2 _ _) (mulT_same l its.toArray n sl dd k t c0 c1) ⟨ho, ⟨.ref l, H, I, rfl, q⟩⟩⟩)
  · by_cases h0 : k ≤ 0
    · have hx : xs ≠ [] := fun z => hc (.inr z)
      have q := q2 hc
      cases rx
      obtain ⟨t, rfl⟩ := ry
      obtain ⟨its, r, ⟨⟨cls, dd, data, sl⟩, ho, hc', n, hd⟩, hs⟩ := I.tuple hT
      simp only at hc' hd
      subst hc' hd
      have c0 : (decide (k < -(2 ^ 63)) || decide (k ≥ 2 ^ 63)) = false := by
        rw [decide_eq_false (by omega), decide_eq_false (by omega)] <;> rfl
      have hi : its.toArray.isEmpty = false := by
        cases r with
        | nil => exact absurd rfl hx
        | cons a b => rfl
      have c1 : (its.toArray.isEmpty || k == 1) = false := by
        rw [hi, Bool.false_or]
        exact beq_eq_false_iff_ne.mpr (by omega)
      have c2 : (decide (k ≤ 0) || its.toArray.isEmpty) = true := by
        rw [decide_eq_true h0] <;> rfl
      refine wpAny_binaryOp_repeat_ref (T := "tuple") (U := "int") (by decide) ⟨_, ho, rfl⟩ (fun s' => typeIs_int s' k t) noFill_tuple_mul F.fills_int_mul F.slot_int_rmul repeat_tuple F.slot_int_index.lookup
        (call_meets F.slot_int_rmul (typeIs_int s k t) F.entry_int_rmul (F.args_int_rmul_2 _ _) (int_rmul_tuple k t l its.toArray n dd sl)
          ⟨ho, rfl, ⟨_, ho, rfl⟩, call_meets F.slot_tuple_mul ⟨_, ho, rfl⟩ F.entry_tuple_mul (F.args_tuple_mul_2 _ _) (mulT_none l its.toArray n sl dd k t c0 c1 c2) ⟨ho, ?_⟩⟩)
      have e0 : (List.replicate k.toNat xs).flatten = [] := by
        have : k.toNat = 0 := by omega
        rw [this] <;> rfl
      rw [e0] at q
      exact ⟨.ref s.heap.objs.size, _, I.laid (t' := s.toks) (o := .tup []) (fun b ob q => Heap.get?_push_of_some _ q) (Nat.le_refl _) ⟨Nat.zero_le _, [], .nil, IsTup.new _ _⟩, rfl, q _ (I.hok.fresh (Nat.le_refl _))⟩
    · exact op_repT pins s σ H _ _ v u Q I rx ry ⟨l, k, xs, rfl, rfl, hT, fun z => hc (.inr z), by omega, h2, hz, q2 hc⟩
end Ev
/-! Ev, part F1: operators with repetition, subscripts, slices. -/
namespace Ev
open PySem L2 PyProof.Rows

def le1000 (n : Nat) : Bool := Nat.ble n 1000
theorem le1000_of {n : Nat} (h : le1000 n = true) : n ≤ 1000 := Nat.le_of_ble_eq_true h
def mulG (n : Nat) (j : Int) (k : Res) : Res := match le1000 n with
  | true => match le1000 (nOf j) with
    | true => match lt30 j with
      | true => k
      | false => .bad
    | false => .bad
  | false => .bad
theorem mulG_post {K : PySem.W.Frag} {T : Ads} {W : Wd} {n : Nat} {j : Int} {k : Res} {Q : VK} {E : XK} (p : Post K T W (mulG n j k) Q E) : n ≤ 1000 ∧ nOf j ≤ 1000 ∧ j.natAbs < 1073741824 ∧ Post K T W k Q E := by
  unfold mulG at p
  cases h1 : le1000 n with
  | false => rw [h1] at p; exact p.elim
  | true =>
    rw [h1] at p
    cases h2 : le1000 (nOf j) with
    | false => rw [h2] at p; exact p.elim
    | true =>
      rw [h2] at p
      cases h3 : lt30 j with
      | false => rw [h3] at p; exact p.elim
      | true => rw [h3] at p; exact ⟨le1000_of h1, le1000_of h2, lt30_of h3, p⟩
def mulS (m : Bool) (x : D) (j : Int) (S : Sto) : Res := match x with
  | .tup xs => mulG xs.length j (.ok (.tup (rep xs (nOf j))) S)
  | x => match lisOf S x with
    | some xs => mulG xs.length j (newL m (rep xs (nOf j)) S)
    | none => .bad
def dOp (m : Bool) (op : Operator) (x y : D) (S : Sto) : Res := match op with
  | .Mult => match x with
    | .int i => dBin m .Mult (.int i) y S
    | x => match y with
      | .int j => mulS m x j S
      | _ => .bad
  | op => dBin m op x y S
section
variable {X : Cx} {T : Ads}
theorem op_all {m : Bool} {op : Operator} {E : XK} : OpR X (binaryOp op) (r2D X.K T (dOp m op) E) := by
  intro pins s σ H x y v u Q I rx ry ⟨W, d, e, S, rd, re, h, p⟩
  have old : dOp m op d e S = dBin m op d e S → wpAny (model X.prog X.w) X.A (binaryOp op v u) (EP X pins σ Q) X.xe s := fun z => op_bin pins s σ H x y v u Q I rx ry ⟨W, d, e, S, rd, re, h, z ▸ p⟩
  cases op with
  | Mult =>
    have lists : ∀ xs j, lisOf S d = some xs → e = .int j → Post X.K T W (mulG xs.length j (newL m (rep xs (nOf j)) S)) Q E → wpAny (model X.prog X.w) X.A (binaryOp .Mult v u) (EP X pins σ Q) X.xe s := by
      intro xs j e1 e2 p
      subst e2
      rename Post X.K T W (dOp m .Mult d (.int j) S) Q E => p0
      obtain ⟨g1, g2, g3, p⟩ := mulG_post p
      obtain ⟨a, vs, rfl, r1, q1⟩ := lis_at h rd e1
      have hl := r1.len
      refine op_rep pins s σ H _ y v u Q I rx ry ⟨a, j, vs, rfl, re, q1, by omega, by omega, ?_, fun q hq => ?_⟩
      · rw [hl, ← nOf_eq, sizeLine_eq]
        have := Nat.mul_le_mul g1 g2
        omega
      · have r2 := r1.rep (nOf j)
        rw [nOf_eq] at r2 p
        exact newL_ok h r2 hq p
    cases d with
    | int i => exact old rfl
    | tup xs =>
      cases e with
      | int j =>
        have p : Post X.K T W (mulG xs.length j (.ok (.tup (rep xs (nOf j))) S)) Q E := p
        obtain ⟨g1, g2, g3, p⟩ := mulG_post p
        obtain ⟨a, vs, rfl, q1, r1⟩ := rd
        have hl := r1.len
        refine op_times pins s σ H _ y v u Q I rx ry ⟨a, j, vs, rfl, re, SqT.up h.sub q1, by omega, by omega, by rw [nOf_eq] at g2; omega, fun z => ?_, fun z q hq => ?_⟩
        · refine p.here h ⟨a, vs, rfl, q1, ?_⟩
          rcases z with rfl | rfl
          · show Rvs X.K T W (xs ++ []) vs
            rw [List.append_nil]; exact r1
          · cases xs with
            | cons _ _ => obtain ⟨_, _, z, _⟩ := r1; cases z
            | nil =>
              have : ∀ n, rep ([] : List D) n = [] := fun n => by induction n with | zero => rfl | succ n ih => exact ih
              rw [this] <;> rfl
        · have r2 := r1.rep (nOf j)
          rw [nOf_eq] at r2 p
          exact newT_ok h r2 hq p
      | _ => exact p.elim
    | lis xs =>
      cases e with
      | int j => exact lists xs j rfl rfl p
      | _ => exact p.elim
    | loc l =>
      cases e with
      | int j =>
        have p : Post X.K T W (match lisOf S (.loc l) with | some xs => mulG xs.length j (newL m (rep xs (nOf j)) S) | none => .bad) Q E := p
        cases e1 : lisOf S (.loc l) with
        | none => rw [e1] at p; exact p.elim
        | some xs => rw [e1] at p; exact lists xs j e1 rfl p
      | _ => exact p.elim
    | _ => cases e <;> exact p.elim
  | _ => exact old rfl
end

/-! ### subscripts -/
theorem ixOf_eq (n : Nat) (i : Int) : ixOf n i = ixN n i := by
  unfold ixOf ixN
  cases i with
  | ofNat k =>
    simp only [blt_dec]
    by_cases h : k < n
    · rw [decide_eq_true h, if_pos (by simp), if_pos (by simp; omega)] <;> rfl
    · rw [decide_eq_false h, if_pos (by simp), if_neg (by simp; omega)]
  | negSucc k =>
    simp only [blt_dec]
    by_cases h : k < n
    · rw [decide_eq_true h, if_neg (by omega), if_pos (by omega)]
      show some (n - (k + 1)) = some (Int.negSucc k + (n : Int)).toNat
      congr 1; omega
    · rw [decide_eq_false h, if_neg (by omega), if_neg (by omega)]
def getD' (xs : List D) (i : Int) (S : Sto) : Res := match ixOf xs.length i with
  | some k => match lGet xs k with
    | some d => .ok d S
    | none => .bad
  | none => .bad
def dIx (x y : D) (S : Sto) : Res := match y with
  | .int i => match x with
    | .str z => match small z.length with
      | true => match ixOf z.cps.toList.length i with
        | some k => match lGet z.cps.toList k with
          | some c => .ok (.str ⟨#[c]⟩) S
          | none => .bad
        | none => .bad
      | false => .bad
    | x => match seqOf S x with
      | some xs => getD' xs i S
      | none => .bad
  | _ => .bad
def plainIx : Expr → Bool
  | .Slice .. => false
  | _ => true
theorem plainIx_ok {b : Expr} (h : plainIx b = true) : PlainIx b := fun o i => by
  cases b <;> first | rfl | cases h
section
variable {X : Cx} {T : Ads} {Wx : WX} {a b : Expr} {ca cb : C1} {pos : Pos}
theorem ix_all {E : XK} : IxR X (r2D X.K T dIx E) := by
  intro value slice pins s σ H x y v u Q I rx ry ⟨W, d, e, S, rd, re, h, p⟩ hs
  cases e with
  | int i =>
    have seqs : ∀ xs, seqOf S d = some xs → Post X.K T W (getD' xs i S) Q E → wpAny (model X.prog X.w) X.A (subscriptTail value slice v u) (EP X pins σ Q) X.xe s := by
      intro xs e1 p
      obtain ⟨a, vs, rfl, r1, hq⟩ := seq_at h rd e1
      unfold getD' at p
      cases e2 : ixOf xs.length i with
      | none => rw [e2] at p; exact p.elim
      | some k =>
        rw [e2] at p
        have p : Post X.K T W (match lGet xs k with | some d => .ok d S | none => .bad) Q E := p
        cases e3 : lGet xs k with
        | none => rw [e3] at p; exact p.elim
        | some z =>
          rw [e3] at p
          rw [lGet_eq] at e3
          obtain ⟨w, g1, g2⟩ := r1.get e3
          have ha : atI vs i = some w := by
            unfold atI
            rw [r1.len, ← ixOf_eq, e2]
            exact g1
          refine ix_seq value slice pins s σ H _ y v u Q I rx ry ?_ hs
          rcases hq with hq | hq
          · exact .inl ⟨a, vs, i, w, rfl, re, hq, ha, p.here h g2⟩
          · exact .inr (.inl ⟨a, vs, i, w, rfl, re, hq, ha, p.here h g2⟩)
    have gen : Post X.K T W (match seqOf S d with | some xs => getD' xs i S | none => .bad) Q E → wpAny (model X.prog X.w) X.A (subscriptTail value slice v u) (EP X pins σ Q) X.xe s := fun p => by
      cases e1 : seqOf S d with
      | none => rw [e1] at p; exact p.elim
      | some xs => rw [e1] at p; exact seqs xs e1 p
    cases d with
    | str z =>
      have p : Post X.K T W (match small z.length with
        | true => match ixOf z.cps.toList.length i with
          | some k => match lGet z.cps.toList k with
            | some c => .ok (.str ⟨#[c]⟩) S
            | none => .bad
          | none => .bad
        | false => .bad) Q E := p
      cases e1 : small z.length with
      | false => rw [e1] at p; exact p.elim
      | true =>
        rw [e1] at p
        have p : Post X.K T W (match ixOf z.cps.toList.length i with
          | some k => match lGet z.cps.toList k with
            | some c => .ok (.str ⟨#[c]⟩) S
            | none => .bad
          | none => .bad) Q E := p
        cases e2 : ixOf z.cps.toList.length i with
        | none => rw [e2] at p; exact p.elim
        | some k =>
          rw [e2] at p
          have p : Post X.K T W (match lGet z.cps.toList k with
            | some c => .ok (.str ⟨#[c]⟩) S
            | none => .bad) Q E := p
          cases e3 : lGet z.cps.toList k with
          | none => rw [e3] at p; exact p.elim
          | some c =>
            rw [e3] at p
            refine ix_seq value slice pins s σ H _ y v u Q I rx ry (.inr (.inr ⟨z, i, c, rd, re, small_line e1, ?_, p.here h rfl⟩)) hs
            unfold atI
            rw [← ixOf_eq, e2]
            show z.cps.toList[k]? = _
            rw [← lGet_eq]; exact e3
    | _ => exact gen p
  | _ => exact p.elim
theorem e_ix (hs : plainIx b = true) (ha : EE X T Wx a ca) (hb : EE X T Wx b cb) : EE X T Wx (.Subscript a b pos) (b2C dIx ca cb) :=
  PE.weak (pe_ix (r := fun x y H Q => ∃ E, r2D X.K T dIx E x y H Q) (fun value slice pins s σ H x y v u Q I rx ry ⟨E, h⟩ => ix_all value slice pins s σ H x y v u Q I rx ry h) ha hb (plainIx_ok hs)) fun τ H Q h => tE_b2 h
end

/-! ### slices -/
theorem cutOf_eq (n d : Nat) (i : Option Int) : cutOf n d i = HT.sIx n d i := by
  cases i with
  | none => rfl
  | some i =>
    cases i with
    | ofNat k =>
      show Nat.min k n = HT.sIx n d (some (k : Int))
      rw [HT.sIx_nat] <;> rfl
    | negSucc k =>
      show n - (k + 1) = if (Int.negSucc k) < 0 then (Int.negSucc k + (n : Int)).toNat else _
      rw [if_pos (by omega)]; omega
theorem Rvs.cut {K : PySem.W.Frag} {T : Ads} {W : Wd} {ds : List D} {vs : List V} (lo hi : Option Int) (h : Rvs K T W ds vs) : Rvs K T W (cutL ds lo hi) (cutV vs lo hi) := by
  unfold cutL cutV
  rw [cutOf_eq, cutOf_eq, h.len]
  exact (h.drop _).take _
/-- a list, the script's too -/
def lsqOf (S : Sto) : D → Option (List D)
  | .lis xs => some xs
  | .scr xs => some xs
  | .loc l => match sGet S l with
    | some (.lst xs) => some xs
    | _ => none
  | _ => none
theorem lsq_at {K : PySem.W.Frag} {T : Ads} {W : Wd} {S : Sto} {H : Hp} {d : D} {v : V} {ds : List D} (h : Rh K T W S H) (r : Rv K T W d v) (e : lsqOf S d = some ds) :
    ∃ a vs, v = .ref a ∧ Rvs K T W ds vs ∧ SqL K H a vs := by
  cases d with
  | lis xs =>
    obtain ⟨a, vs, e1, r1, q⟩ := lis_at h r (show lisOf S (.lis xs) = some ds from e)
    exact ⟨a, vs, e1, r1, SqL.of q⟩
  | loc l =>
    obtain ⟨a, vs, e1, r1, q⟩ := lis_at h r (show lisOf S (.loc l) = some ds from e)
    exact ⟨a, vs, e1, r1, SqL.of q⟩
  | scr xs =>
    cases e
    obtain ⟨a, vs, rfl, q, r⟩ := r
    exact ⟨a, vs, rfl, r, SqL.up h.sub q⟩
  | _ => cases e
def dCut (m : Bool) (x : D) (lo hi : Option Int) (S : Sto) : Res := match x with
  | .tup xs => .ok (.tup (cutL xs lo hi)) S
  | x => match lsqOf S x with
    | some xs => newL m (cutL xs lo hi) S
    | none => .bad
def partC (c : Option C1) (σ : Sl) (S : Sto) (k : Option Int → Sto → Res) : Res := match c with
  | none => k none S
  | some c => (c σ S).bind fun d S' => match d with
    | .int i => k (some i) S'
    | _ => .bad
def cutC (m : Bool) (c : C1) (lo hi : Option C1) : C1 := fun σ S => (c σ S).bind fun x S1 => partC lo σ S1 fun l S2 => partC hi σ S2 fun u S3 => dCut m x l u S3
section
variable {X : Cx} {T : Ads} {Wx : WX} {a : Expr} {ca : C1} {lo hi : Option Expr} {cl ch : Option C1} {pos p2 : Pos}
def rCut (K : PySem.W.Frag) (T : Ads) (m : Bool) (E : XK) : V → Option Int → Option Int → Hp → VK → Prop := fun x l u H Q => ∃ W d S, Rv K T W d x ∧ Rh K T W S H ∧ Post K T W (dCut m d l u S) Q E
theorem sl_all {m : Bool} {E : XK} : SlR X (rCut X.K T m E) := by
  intro pins s σ H x v vl vu l u sl Q I rx hs pl pu ⟨W, d, S, rd, h, p⟩
  have gen : Post X.K T W (match lsqOf S d with | some xs => newL m (cutL xs l u) S | none => .bad) Q E →
      ∃ T id, typeLookup (.type T) "__getitem__" = pure (some (.builtin id)) ∧ s.TypeIs v T ∧ wpAny (model X.prog X.w) X.A (getItem v (.ref sl)) (EP X pins σ Q) X.xe s := fun p => by
    cases e1 : lsqOf S d with
    | none => rw [e1] at p; exact p.elim
    | some xs =>
      rw [e1] at p
      obtain ⟨a, vs, rfl, r1, hq⟩ := lsq_at h rd e1
      exact sl_list pins s σ H _ v vl vu l u sl Q I rx hs pl pu ⟨a, vs, rfl, hq, fun q hq => newL_ok h (r1.cut l u) hq p⟩
  cases d with
  | tup xs =>
    obtain ⟨a, vs, rfl, q1, r1⟩ := rd
    have p : Post X.K T W (.ok (.tup (cutL xs l u)) S) Q E := p
    refine sl_tupA pins s σ H _ v vl vu l u sl Q I rx hs pl pu ⟨a, vs, rfl, SqT.up h.sub q1, fun z => p.here h ⟨a, vs, rfl, q1, ?_⟩, fun _ q hq => newT_ok h (r1.cut l u) hq p⟩
    have e : cutV vs l u = vs := by
      unfold cutV
      rw [z.1, z.2]
      simp
    have := r1.cut l u
    rw [e] at this
    exact this
  | _ => exact gen p
/-- a part's reading -/
def PartOk (X : Cx) (T : Ads) (Wx : WX) : Option Expr → Option C1 → Prop
  | none, none => True
  | some e, some c => EE X T Wx e c
  | _, _ => False
def tPt (K : PySem.W.Frag) (T : Ads) (Wx : WX) : Option C1 → TO
  | none => tNoPart
  | some c => tPart (tE K T Wx c)
theorem PartOk.po {e : Option Expr} {c : Option C1} (h : PartOk X T Wx e c) : PO X e (tPt X.K T Wx c) := by
  cases e with
  | none => cases c with
    | none => exact po_none
    | some _ => exact h.elim
  | some e => cases c with
    | none => exact h.elim
    | some c => exact po_some h
theorem part_run {K : PySem.W.Frag} {W : Wd} {σ : Sl} {τ : L2.St} {S : Sto} {H : Hp} {c : Option C1} {k : Option Int → Sto → Res} {Q : VK} {R : Option Int → Hp → Prop} (rs : Rs K T W σ τ) (rh : Rh K T W S H)
    (p : Post K T W (partC c σ S k) Q (fun cls p H' => Wx cls p τ H')) (hk : ∀ i U S' H', W.Le U → Rh K T U S' H' → Post K T U (k i S') Q (fun cls p H' => Wx cls p τ H') → R i H') : tPt K T Wx c τ H R := by
  cases c with
  | none => exact hk none W S H (Wd.Le.refl W) rh p
  | some c =>
    refine ⟨W, σ, S, rs, rh, Post.imp (fun v H' ⟨U, d, S1, le, rh1, rv, p1⟩ => ?_) (Post.bind p)⟩
    cases d with
    | int i => exact ⟨i, rv, hk (some i) U S1 H' le rh1 p1⟩
    | _ => exact p1.elim
theorem e_cut {m : Bool} (ha : EE X T Wx a ca) (hl : PartOk X T Wx lo cl) (hh : PartOk X T Wx hi ch) : EE X T Wx (.Subscript a (.Slice lo hi none p2) pos) (cutC m ca cl ch) :=
  PE.weak (pe_slice (r := fun x l u H Q => ∃ E, rCut X.K T m E x l u H Q) (fun pins s σ H x v vl vu l u sl Q I rx hs pl pu ⟨E, h⟩ => sl_all pins s σ H x v vl vu l u sl Q I rx hs pl pu h) ha hl.po hh.po) fun τ H Q ⟨W, σ, S, rs, rh, p⟩ => by
    refine ⟨W, σ, S, rs, rh, Post.imp (fun v H' ⟨U, d, S1, le, rh1, rv, p1⟩ => ?_) (Post.bind p)⟩
    refine part_run (rs.up le) rh1 p1 fun l U2 S2 H2 le2 rh2 p2 => ?_
    refine part_run ((rs.up le).up le2) rh2 p2 fun u U3 S3 H3 le3 rh3 p3 => ?_
    exact ⟨_, U3, d, S3, Rv.up (le2.trans le3) d v rv, rh3, p3⟩
/-- x[::-1] of a list -/
def revF (m : Bool) (x : D) (S : Sto) : Res := match lsqOf S x with
  | some xs => newL m xs.reverse S
  | none => .bad
theorem Rvs.rev {K : PySem.W.Frag} {T : Ads} {W : Wd} : ∀ {ds : List D} {vs : List V}, Rvs K T W ds vs → Rvs K T W ds.reverse vs.reverse
  | [], _, h => by cases h; exact rfl
  | d :: ds, _, ⟨v, r, e, h1, h2⟩ => by subst e; rw [List.reverse_cons, List.reverse_cons]; exact h2.rev.snoc h1
theorem e_rev {m : Bool} {k : Nat} {p1 p3 : Pos} (ha : EE X T Wx a ca) : EE X T Wx (.Subscript a (.Slice none none (some (.UnaryOp .USub (.Constant (.int 1) k p1) p2)) p3) pos) (u1C (revF m) ca) :=
  PE.weak (pe_revL ha) fun τ H Q h => by
    obtain ⟨W, σ, S, rs, rh, p⟩ := tE_u1 (K := X.K) (show tE X.K T Wx (u1C (revF m) ca) τ H Q from h)
    refine ⟨W, σ, S, rs, rh, Post.imp (fun x H1 ⟨E, U, d, S1, rv, rh1, p1⟩ => ?_) p⟩
    unfold revF at p1
    cases q : lsqOf S1 d with
    | none => rw [q] at p1; exact p1.elim
    | some xs =>
      rw [q] at p1
      obtain ⟨a, vs, rfl, r1, hq⟩ := lsq_at rh1 rv q
      exact ⟨a, vs, rfl, hq, fun p hp => newL_ok rh1 r1.rev hp p1⟩
end
end Ev
/-! Ev, part F2: built-ins. -/
namespace Ev
open PySem L2 PyProof.Rows

def apC (f : List D → Sto → Res) (a : C1L) : C1 := fun σ S => (a σ S).bind f
def rD (K : PySem.W.Frag) (T : Ads) (f : List D → Sto → Res) : List V → Hp → VK → Prop := fun vs H Q => ∃ E W ds S, Rvs K T W ds vs ∧ Rh K T W S H ∧ Post K T W (f ds S) Q E
/-- no starred one among them -/
def noStar : List Expr → Bool
  | [] => true
  | .Starred .. :: _ => false
  | _ :: r => noStar r
theorem star_cons {e : Expr} {es : List Expr} {env : Env} (h : noStar (e :: es) = true) : starEach (e :: es) env = (false, eval e env) :: starEach es env := by
  cases e <;> first | rfl | cases h
theorem star_tail {e : Expr} {es : List Expr} (h : noStar (e :: es) = true) : noStar es = true := by
  cases e <;> first | exact h | cases h
theorem star_none {env : Env} {pos : Pos} : ∀ {es : List Expr}, noStar es = true → (backTo pos (starEach es env)).any (·.1) = false
  | [], _ => rfl
  | e :: es, h => by
    rw [star_cons h]
    show (backTo pos (starEach es env)).any (·.1) = false
    exact star_none (star_tail h)
section
variable {X : Cx} {T : Ads} {Wx : WX} {e : Expr} {es : List Expr} {ca : C1L} {f : List D → Sto → Res} {x : Str} {p pos : Pos}
theorem tE_ap {K : PySem.W.Frag} {τ : L2.St} {H : Hp} {Q : VK} (h : tE K T Wx (apC f ca) τ H Q) : tA K T Wx ca τ H fun vs H1 => rD K T f vs H1 Q := by
  obtain ⟨W, σ, S, rs, rh, p⟩ := h
  exact ⟨W, σ, S, rs, rh, PostL.imp (fun vs H' ⟨U, ds, S1, le, rh1, rv, p1⟩ => ⟨_, U, ds, S1, rv, rh1, p1⟩) (PostL.bind p)⟩
theorem e_callB {id : String} (hc : CallR X (.builtin id) (rD X.K T f)) (hg : Gl X x) (hm : X.mg x = none) (hv : bootBuiltins x = some (.builtin id)) (ha : EA X T Wx (e :: es) ca) (hs : noStar (e :: es) = true)
    (hn : x ≠ "__name__") (hdb : (x == ("__debug__" : Str)) = false) : EE X T Wx (.Call (.Name x p) (e :: es) [] pos) (apC f ca) :=
  PE.weak (pe_callB hc hg hm hv ha hn hdb (star_cons hs) (star_none (star_tail hs))) fun τ H Q h => tE_ap h
theorem e_callTy {id : String} (hc : CallR X (.type id) (rD X.K T f)) (hg : Gl X x) (hm : X.mg x = none) (hv : bootBuiltins x = some (.type id)) (ha : EA X T Wx (e :: es) ca) (hs : noStar (e :: es) = true)
    (hn : x ≠ "__name__") (hdb : (x == ("__debug__" : Str)) = false) : EE X T Wx (.Call (.Name x p) (e :: es) [] pos) (apC f ca) :=
  PE.weak (pe_callTy hc hg hm hv ha hn hdb (star_cons hs) (star_none (star_tail hs))) fun τ H Q h => tE_ap h
end

/-! ### what they do -/
def lenF (ds : List D) (S : Sto) : Res := match ds with
  | [.str z] => match small z.length with
    | true => okI (.ofNat z.length) S
    | false => .bad
  | [d] => match seqOf S d with
    | some xs => okI (.ofNat xs.length) S
    | none => .bad
  | _ => .bad
def tupleF (ds : List D) (S : Sto) : Res := match ds with
  | [d] => match seqOf S d with
    | some xs => .ok (.tup xs) S
    | none => .bad
  | _ => .bad
def listF (m : Bool) (ds : List D) (S : Sto) : Res := match ds with
  | [d] => match seqOf S d with
    | some xs => newL m xs S
    | none => .bad
  | _ => .bad
/-- a scalar's truth -/
def dT0 : D → Option Bool
  | .non => some false
  | .bl b => some b
  | .int i => some (!iEq i 0)
  | _ => none
def allT : List D → Option Bool
  | [] => some true
  | d :: ds => match dT0 d with
    | none => none
    | some b => match allT ds with
      | none => none
      | some c => match b with
        | true => some c
        | false => some false
def anyT : List D → Option Bool
  | [] => some false
  | d :: ds => match dT0 d with
    | none => none
    | some b => match anyT ds with
      | none => none
      | some c => match b with
        | true => some true
        | false => some c
def foldF (g : List D → Option Bool) (ds : List D) (S : Sto) : Res := match ds with
  | [d] => match seqOf S d with
    | some xs => match g xs with
      | some b => .ok (.bl b) S
      | none => .bad
    | none => .bad
  | _ => .bad
def intsOf : List D → Option (List Int)
  | [] => some []
  | .int i :: ds => match intsOf ds with
    | some is => some (i :: is)
    | none => none
  | _ => none
def sumI : List Int → Int
  | [] => 0
  | i :: is => Int.add i (sumI is)
def minI (m : Int) : List Int → Int
  | [] => m
  | i :: is => match iLt i m with
    | true => minI i is
    | false => minI m is
def maxI (m : Int) : List Int → Int
  | [] => m
  | i :: is => match iLt m i with
    | true => maxI i is
    | false => maxI m is
def sumF (ds : List D) (S : Sto) : Res := match ds with
  | [d] => match lsqOf S d with
    | some xs => match intsOf xs with
      | some is => okI (sumI is) S
      | none => .bad
    | none => .bad
  | _ => .bad
def endF (g : Int → List Int → Int) (ds : List D) (S : Sto) : Res := match ds with
  | [.int i, .int j] => okI (g i [j]) S
  | [d] => match lsqOf S d with
    | some xs => match intsOf xs with
      | some (i :: is) => okI (g i is) S
      | _ => .bad
    | none => .bad
  | _ => .bad
def absF (ds : List D) (S : Sto) : Res := match ds with
  | [.int i] => okI (.ofNat i.natAbs) S
  | _ => .bad
def intF (ds : List D) (S : Sto) : Res := match ds with
  | [.int i] => .ok (.int i) S
  | [.bl b] => .ok (.int (b2 b)) S
  | _ => .bad

/-! ### and that they do it -/
section
variable {X : Cx} {T : Ads}
theorem rvs1 {K : PySem.W.Frag} {W : Wd} {d : D} {vs : List V} (h : Rvs K T W [d] vs) : ∃ v, vs = [v] ∧ Rv K T W d v := by
  obtain ⟨v, r, e, h1, h2⟩ := h
  cases h2
  exact ⟨v, e, h1⟩
theorem rvs2 {K : PySem.W.Frag} {W : Wd} {d e : D} {vs : List V} (h : Rvs K T W [d, e] vs) : ∃ v w, vs = [v, w] ∧ Rv K T W d v ∧ Rv K T W e w := by
  obtain ⟨v, r, e1, h1, w, r2, e2, h2, h3⟩ := h
  cases h3
  subst e2
  exact ⟨v, w, e1, h1, h2⟩
theorem c_len : CallR X (.builtin "len") (rD X.K T lenF) := by
  intro pins s σ H vs us Q I r ⟨E, W, ds, S, rv, rh, p⟩
  have gen : ∀ d, ds = [d] → Post X.K T W (match seqOf S d with | some xs => okI (.ofNat xs.length) S | none => .bad) Q E → wpAny (model X.prog X.w) X.A (call (.builtin "len") us) (EP X pins σ Q) X.xe s := by
    intro d e p'
    subst e
    have p := p'
    obtain ⟨v, rfl, r1⟩ := rvs1 rv
    cases q : seqOf S d with
    | none => rw [q] at p; exact p.elim
    | some xs =>
      rw [q] at p
      have p : Post X.K T W (okI (.ofNat xs.length) S) Q E := p
      rw [okI_eq] at p
      obtain ⟨a, vs, rfl, r2, hq⟩ := seq_at rh r1 q
      refine call_len pins s σ H _ us Q I r ⟨_, vs.length, rfl, ?_, by rw [r2.len]; exact p.here rh rfl⟩
      rcases hq with hq | hq
      · exact .inl ⟨vs, hq, rfl⟩
      · exact .inr ⟨vs, hq, rfl⟩
  match ds, rv, p with
  | [], _, p => exact p.elim
  | d :: _ :: _, _, p => cases d <;> exact p.elim
  | [d], rv, p =>
    cases d with
    | str z =>
      have p : Post X.K T W (match small z.length with | true => okI (.ofNat z.length) S | false => .bad) Q E := p
      obtain ⟨v, rfl, r1⟩ := rvs1 rv
      cases q : small z.length with
      | false => rw [q] at p; exact p.elim
      | true =>
        rw [q] at p
        have p : Post X.K T W (okI (.ofNat z.length) S) Q E := p
        rw [okI_eq] at p
        cases r1
        exact call_len pins s σ H _ us Q I r ⟨.str z, z.length, rfl, ⟨small_line q, rfl⟩, p.here rh rfl⟩
    | _ => exact gen _ rfl p
theorem c_tuple : CallR X (.type "tuple") (rD X.K T tupleF) := by
  intro pins s σ H vs us Q I r ⟨E, W, ds, S, rv, rh, p⟩
  match ds, rv, p with
  | [], _, p => exact p.elim
  | _ :: _ :: _, _, p => exact p.elim
  | [d], rv, p =>
    have p : Post X.K T W (match seqOf S d with | some xs => .ok (.tup xs) S | none => .bad) Q E := p
    obtain ⟨v, rfl, r1⟩ := rvs1 rv
    cases q : seqOf S d with
    | none => rw [q] at p; exact p.elim
    | some xs =>
      rw [q] at p
      have lists : lsqOf S d = some xs → wpAny (model X.prog X.w) X.A (call (.type "tuple") us) (EP X pins σ Q) X.xe s := fun q => by
        obtain ⟨a, vs, rfl, r2, hq⟩ := lsq_at rh r1 q
        exact call_tuple_of pins s σ H _ us Q I r ⟨a, vs, rfl, .inl ⟨hq, fun l hl => newT_ok rh r2 hl p⟩⟩
      cases d with
      | tup ys =>
        cases q
        obtain ⟨a, vs, rfl, q1, r2⟩ := r1
        exact call_tuple_of pins s σ H _ us Q I r ⟨a, vs, rfl, .inr ⟨SqT.up rh.sub q1, p.here rh ⟨a, vs, rfl, q1, r2⟩⟩⟩
      | lis ys => exact lists q
      | scr ys => exact lists q
      | loc l => exact lists q
      | _ => cases q
theorem c_list {m : Bool} : CallR X (.type "list") (rD X.K T (listF m)) := by
  intro pins s σ H vs us Q I r ⟨E, W, ds, S, rv, rh, p⟩
  match ds, rv, p with
  | [], _, p => exact p.elim
  | _ :: _ :: _, _, p => exact p.elim
  | [d], rv, p =>
    have p : Post X.K T W (match seqOf S d with | some xs => newL m xs S | none => .bad) Q E := p
    obtain ⟨v, rfl, r1⟩ := rvs1 rv
    cases q : seqOf S d with
    | none => rw [q] at p; exact p.elim
    | some xs =>
      rw [q] at p
      obtain ⟨a, vs, rfl, r2, hq⟩ := seq_at rh r1 q
      exact call_list_of pins s σ H _ us Q I r ⟨a, vs, rfl, hq, fun l hl => newL_ok rh r2 hl p⟩
/-- the truth of scalars -/
theorem truth0 {K : PySem.W.Frag} {W : Wd} {A : Around} {d : D} {v : V} {u : Value} {b : Bool} (h : dT0 d = some b) (r : Rv K T W d v) (ru : RelV v u) (s : Shared) (Q : Bool → Shared → Prop) (E : Value → Shared → Prop) (q : Q b s) : wpAny (model X.prog X.w) A (truthy u) Q E s := by
  cases d with
  | non => cases r; cases ru; cases h; exact PyProof.Rows.truthy_none q
  | bl c => cases r; cases ru; cases h; exact wpAny_truthy_bool q
  | int i =>
    cases r; obtain ⟨t, rfl⟩ := ru; cases h
    refine PySem.P.truthy_int ?_
    rw [iEq_eq] at q
    have e : (i != 0) = !decide (i = 0) := by rw [bne, Bool.beq_eq_decide_eq]
    rw [e]; exact q
  | _ => cases h
def t0s (xs : List D) (i : Nat) : Bool := match xs[i]? with
  | some d => (dT0 d).getD false
  | none => false
theorem truths {K : PySem.W.Frag} {W : Wd} {A : Around} {xs : List D} {vs : List V} {its : List Value} (h : ∀ d ∈ xs, dT0 d ≠ none) (r : Rvs K T W xs vs) (ru : Vals vs its) :
    TruthOf X.prog X.w A (fun i v => its.toArray[i]? = some v) (t0s xs) := fun i u s Q E hv hq => by
  have hv' : its[i]? = some u := by simpa using hv
  have hl : its.length = vs.length := ru.length.symm
  have hi : i < its.length := (List.getElem?_eq_some_iff.mp hv').1
  have hx : i < xs.length := by rw [← r.len]; omega
  obtain ⟨v, g1, g2⟩ := r.get (List.getElem?_eq_getElem hx)
  obtain ⟨w, g3, g4⟩ := ru.get g1
  rw [hv'] at g3; cases g3
  have hd := h _ (List.getElem_mem hx)
  cases q : dT0 xs[i] with
  | none => exact absurd q hd
  | some b =>
    have e : t0s xs i = b := by unfold t0s; rw [List.getElem?_eq_getElem hx]; show (dT0 xs[i]).getD false = b; rw [q] <;> rfl
    rw [e] at hq
    exact truth0 q g2 g4 s Q E hq
theorem allT_of : ∀ {xs : List D} {b : Bool}, allT xs = some b → (∀ d ∈ xs, dT0 d ≠ none) ∧ (List.range xs.length).all (t0s xs) = b
  | [], b, h => by cases h; exact ⟨by simp, by simp⟩
  | d :: xs, b, h => by
    have h' : (match dT0 d with | none => none | some b => match allT xs with | none => none | some c => match b with | true => some c | false => some false) = some b := h
    cases q : dT0 d with
    | none => rw [q] at h'; cases h'
    | some k =>
      rw [q] at h'
      cases q2 : allT xs with
      | none => rw [q2] at h'; cases h'
      | some c =>
        rw [q2] at h'
        obtain ⟨a1, a2⟩ := allT_of q2
        refine ⟨fun e he => ?_, ?_⟩
        · rcases List.mem_cons.mp he with rfl | he
          · rw [q]; intro z; cases z
          · exact a1 e he
        · rw [List.length_cons, List.range_succ_eq_map, List.all_cons, List.all_map]
          have e1 : t0s (d :: xs) 0 = k := by show (dT0 d).getD false = k; rw [q] <;> rfl
          have e2 : (t0s (d :: xs) ∘ Nat.succ) = t0s xs := rfl
          rw [e1, e2, a2]
          cases k <;> cases h' <;> rfl
theorem anyT_of : ∀ {xs : List D} {b : Bool}, anyT xs = some b → (∀ d ∈ xs, dT0 d ≠ none) ∧ (List.range xs.length).any (t0s xs) = b
  | [], b, h => by cases h; exact ⟨by simp, by simp⟩
  | d :: xs, b, h => by
    have h' : (match dT0 d with | none => none | some b => match anyT xs with | none => none | some c => match b with | true => some true | false => some c) = some b := h
    cases q : dT0 d with
    | none => rw [q] at h'; cases h'
    | some k =>
      rw [q] at h'
      cases q2 : anyT xs with
      | none => rw [q2] at h'; cases h'
      | some c =>
        rw [q2] at h'
        obtain ⟨a1, a2⟩ := anyT_of q2
        refine ⟨fun e he => ?_, ?_⟩
        · rcases List.mem_cons.mp he with rfl | he
          · rw [q]; intro z; cases z
          · exact a1 e he
        · rw [List.length_cons, List.range_succ_eq_map, List.any_cons, List.any_map]
          have e1 : t0s (d :: xs) 0 = k := by show (dT0 d).getD false = k; rw [q] <;> rfl
          have e2 : (t0s (d :: xs) ∘ Nat.succ) = t0s xs := rfl
          rw [e1, e2, a2]
          cases k <;> cases h' <;> rfl
theorem iterT {prog : Program} {w : World} {A : Around} {E : Value → Shared → Prop} {s : Shared} {l : Addr} {items : Array Value} {Q : Value → Shared → Prop} (hl : s.heap.IsTuple l items)
    (h : ∀ s₂ : Shared, s₂ = { s with heap := s.heap.push { cls := .type "tuple_iterator", data := .fields #[.ref l, .int 0 0] } } →
      (s₂.heap.IsTupleIter s.heap.objs.size l 0 ∧ s₂.heap.IsTuple l items) → l ≠ s.heap.objs.size → Q (.ref s.heap.objs.size) s₂) : wpAny (model prog w) A (pyIter (.ref l)) Q E s := by
  have hlt : l < s.heap.objs.size := by obtain ⟨_, e, _⟩ := hl; exact Heap.lt_size e
  exact wpAny_pyIter_tuple hl (h _ rfl ⟨⟨_, Heap.get?_push_size _ rfl, rfl, rfl⟩, hl.push _⟩ (Nat.ne_of_lt hlt))
theorem kept1 {h : Heap} {o : Obj} {h' : Heap} (hk : ∀ b ob, b ∉ [h.objs.size] → (h.push o).get? b = some ob → h'.get? b = some ob) : ∀ b ob, h.get? b = some ob → h'.get? b = some ob := fun b ob eo =>
  hk b ob (fun hm => by
    rcases List.mem_cons.mp hm with e1 | hm
    · exact absurd (e1 ▸ Heap.lt_size eo) (Nat.lt_irrefl _)
    · cases hm) (Heap.get?_push_of_some _ eo)
theorem c_all (hc : X.calm = true) : CallR X (.builtin "all") (rD X.K T (foldF allT)) := by
  intro pins s σ H vs us Q I r ⟨E, W, ds, S, rv, rh, p⟩
  match ds, rv, p with
  | [], _, p => exact p.elim
  | _ :: _ :: _, _, p => exact p.elim
  | [d], rv, p =>
    have p : Post X.K T W (match seqOf S d with | some xs => (match allT xs with | some b => .ok (.bl b) S | none => .bad) | none => .bad) Q E := p
    obtain ⟨v, rfl, r1⟩ := rvs1 rv
    cases q : seqOf S d with
    | none => rw [q] at p; exact p.elim
    | some xs =>
      rw [q] at p
      have p : Post X.K T W (match allT xs with | some b => .ok (.bl b) S | none => .bad) Q E := p
      cases q2 : allT xs with
      | none => rw [q2] at p; exact p.elim
      | some b =>
        rw [q2] at p
        obtain ⟨a1, a2⟩ := allT_of q2
        obtain ⟨a, vs, rfl, r2, hq⟩ := seq_at rh r1 q
        have q3 := p.here rh rfl
        rw [← a2, ← r2.len] at q3
        rw [Vals.ref1 r]
        rcases hq with hq | hq
        · obtain ⟨its, rw', hl, _⟩ := I.list hq
          refine call_all_walk (iter_any hl.isList fun s₂ e2 st hne => ?_)
          subst e2
          refine ⟨_, _, _, _, _, _, _, rfl, Walks.list (A := X.A.in1) (I.ok.hd hc) _ a hne its.toArray, st, truths a1 r2 rw', fun h' tk hk => ⟨.bl _, H, I.kept (t' := tk) (kept1 hk), rfl, ?_⟩⟩
          rw [List.size_toArray, ← rw'.length]; exact q3
        · obtain ⟨its, rw', hl, _⟩ := I.tuple hq
          refine call_all_walk (iterT hl fun s₂ e2 st hne => ?_)
          subst e2
          refine ⟨_, _, _, _, _, _, _, rfl, Walks.tuple (A := X.A.in1) (I.ok.hd hc) _ a hne its.toArray, st, truths a1 r2 rw', fun h' tk hk => ⟨.bl _, H, I.kept (t' := tk) (kept1 hk), rfl, ?_⟩⟩
          rw [List.size_toArray, ← rw'.length]; exact q3
theorem c_any (hc : X.calm = true) : CallR X (.builtin "any") (rD X.K T (foldF anyT)) := by
  intro pins s σ H vs us Q I r ⟨E, W, ds, S, rv, rh, p⟩
  match ds, rv, p with
  | [], _, p => exact p.elim
  | _ :: _ :: _, _, p => exact p.elim
  | [d], rv, p =>
    have p : Post X.K T W (match seqOf S d with | some xs => (match anyT xs with | some b => .ok (.bl b) S | none => .bad) | none => .bad) Q E := p
    obtain ⟨v, rfl, r1⟩ := rvs1 rv
    cases q : seqOf S d with
    | none => rw [q] at p; exact p.elim
    | some xs =>
      rw [q] at p
      have p : Post X.K T W (match anyT xs with | some b => .ok (.bl b) S | none => .bad) Q E := p
      cases q2 : anyT xs with
      | none => rw [q2] at p; exact p.elim
      | some b =>
        rw [q2] at p
        obtain ⟨a1, a2⟩ := anyT_of q2
        obtain ⟨a, vs, rfl, r2, hq⟩ := seq_at rh r1 q
        have q3 := p.here rh rfl
        rw [← a2, ← r2.len] at q3
        rw [Vals.ref1 r]
        rcases hq with hq | hq
        · obtain ⟨its, rw', hl, _⟩ := I.list hq
          refine call_any_walk (iter_any hl.isList fun s₂ e2 st hne => ?_)
          subst e2
          refine ⟨_, _, _, _, _, _, _, rfl, Walks.list (A := X.A.in1) (I.ok.hd hc) _ a hne its.toArray, st, truths a1 r2 rw', fun h' tk hk => ⟨.bl _, H, I.kept (t' := tk) (kept1 hk), rfl, ?_⟩⟩
          rw [List.size_toArray, ← rw'.length]; exact q3
        · obtain ⟨its, rw', hl, _⟩ := I.tuple hq
          refine call_any_walk (iterT hl fun s₂ e2 st hne => ?_)
          subst e2
          refine ⟨_, _, _, _, _, _, _, rfl, Walks.tuple (A := X.A.in1) (I.ok.hd hc) _ a hne its.toArray, st, truths a1 r2 rw', fun h' tk hk => ⟨.bl _, H, I.kept (t' := tk) (kept1 hk), rfl, ?_⟩⟩
          rw [List.size_toArray, ← rw'.length]; exact q3
theorem ints_of {K : PySem.W.Frag} {W : Wd} : ∀ {xs : List D} {is : List Int} {vs : List V}, intsOf xs = some is → Rvs K T W xs vs → vs = is.map V.int
  | [], is, vs, h, r => by cases h; cases r; rfl
  | d :: xs, is, vs, h, ⟨v, t, e, h1, h2⟩ => by
    subst e
    cases d with
    | int i =>
      have h' : (match intsOf xs with | some is => some (i :: is) | none => none) = some is := h
      cases q : intsOf xs with
      | none => rw [q] at h'; cases h'
      | some js =>
        rw [q] at h'; cases h'
        cases h1
        rw [ints_of q h2] <;> rfl
    | _ => cases h
theorem sumI_eq : ∀ is : List Int, sumI is = is.sum
  | [] => rfl
  | i :: is => by show i + sumI is = _; rw [sumI_eq is, List.sum_cons]
theorem minI_cons (m i : Int) (is : List Int) : minI m (i :: is) = if i < m then minI i is else minI m is := by
  show (match iLt i m with | true => minI i is | false => minI m is) = _
  rw [iLt_eq]
  by_cases h : i < m
  · rw [decide_eq_true h, if_pos h]
  · rw [decide_eq_false h, if_neg h]
theorem minI_of : ∀ (is : List Int) (m : Int), minI m is ∈ m :: is ∧ ∀ y ∈ m :: is, minI m is ≤ y
  | [], m => by simp [minI]
  | i :: is, m => by
    rw [minI_cons]
    by_cases h : i < m
    · rw [if_pos h]
      obtain ⟨a, b⟩ := minI_of is i
      refine ⟨List.mem_cons_of_mem _ a, fun y hy => ?_⟩
      rcases List.mem_cons.mp hy with rfl | hy
      · have := b i List.mem_cons_self; omega
      · exact b y hy
    · rw [if_neg h]
      obtain ⟨a, b⟩ := minI_of is m
      refine ⟨?_, fun y hy => ?_⟩
      · rcases List.mem_cons.mp a with e | a
        · rw [e]; exact List.mem_cons_self
        · exact List.mem_cons_of_mem _ (List.mem_cons_of_mem _ a)
      · rcases List.mem_cons.mp hy with rfl | hy
        · exact b _ List.mem_cons_self
        · rcases List.mem_cons.mp hy with rfl | hy
          · have := b m List.mem_cons_self; omega
          · exact b y (List.mem_cons_of_mem _ hy)
theorem maxI_cons (m i : Int) (is : List Int) : maxI m (i :: is) = if m < i then maxI i is else maxI m is := by
  show (match iLt m i with | true => maxI i is | false => maxI m is) = _
  rw [iLt_eq]
  by_cases h : m < i
  · rw [decide_eq_true h, if_pos h]
  · rw [decide_eq_false h, if_neg h]
theorem maxI_of : ∀ (is : List Int) (m : Int), maxI m is ∈ m :: is ∧ ∀ y ∈ m :: is, y ≤ maxI m is
  | [], m => by simp [maxI]
  | i :: is, m => by
    rw [maxI_cons]
    by_cases h : m < i
    · rw [if_pos h]
      obtain ⟨a, b⟩ := maxI_of is i
      refine ⟨List.mem_cons_of_mem _ a, fun y hy => ?_⟩
      rcases List.mem_cons.mp hy with rfl | hy
      · have := b i List.mem_cons_self; omega
      · exact b y hy
    · rw [if_neg h]
      obtain ⟨a, b⟩ := maxI_of is m
      refine ⟨?_, fun y hy => ?_⟩
      · rcases List.mem_cons.mp a with e | a
        · rw [e]; exact List.mem_cons_self
        · exact List.mem_cons_of_mem _ (List.mem_cons_of_mem _ a)
      · rcases List.mem_cons.mp hy with rfl | hy
        · exact b _ List.mem_cons_self
        · rcases List.mem_cons.mp hy with rfl | hy
          · have := b m List.mem_cons_self; omega
          · exact b y (List.mem_cons_of_mem _ hy)
theorem c_sum (hc : X.calm = true) : CallR X (.builtin "sum") (rD X.K T sumF) := by
  intro pins s σ H vs us Q I r ⟨E, W, ds, S, rv, rh, p⟩
  match ds, rv, p with
  | [], _, p => exact p.elim
  | _ :: _ :: _, _, p => exact p.elim
  | [d], rv, p =>
    have p : Post X.K T W (match lsqOf S d with | some xs => (match intsOf xs with | some is => okI (sumI is) S | none => .bad) | none => .bad) Q E := p
    obtain ⟨v, rfl, r1⟩ := rvs1 rv
    cases q : lsqOf S d with
    | none => rw [q] at p; exact p.elim
    | some xs =>
      rw [q] at p
      have p : Post X.K T W (match intsOf xs with | some is => okI (sumI is) S | none => .bad) Q E := p
      cases q2 : intsOf xs with
      | none => rw [q2] at p; exact p.elim
      | some is =>
        rw [q2] at p
        have p : Post X.K T W (okI (sumI is) S) Q E := p
        rw [okI_eq, sumI_eq] at p
        obtain ⟨a, vs, rfl, r2, hq⟩ := lsq_at rh r1 q
        rw [ints_of q2 r2] at hq
        exact cr_sum hc pins s σ H _ us Q I r ⟨a, is, rfl, hq, p.here rh rfl⟩
theorem c_min (hc : X.calm = true) : CallR X (.builtin "min") (rD X.K T (endF minI)) := by
  intro pins s σ H vs us Q I r ⟨E, W, ds, S, rv, rh, p⟩
  have one : ∀ d, ds = [d] → Post X.K T W (match lsqOf S d with | some xs => (match intsOf xs with | some (i :: is) => okI (minI i is) S | _ => .bad) | none => .bad) Q E → wpAny (model X.prog X.w) X.A (call (.builtin "min") us) (EP X pins σ Q) X.xe s := by
    intro d e p'
    subst e
    have p := p'
    obtain ⟨v, rfl, r1⟩ := rvs1 rv
    cases q : lsqOf S d with
    | none => rw [q] at p; exact p.elim
    | some xs =>
      rw [q] at p
      have p : Post X.K T W (match intsOf xs with | some (i :: is) => okI (minI i is) S | _ => .bad) Q E := p
      cases q2 : intsOf xs with
      | none => rw [q2] at p; exact p.elim
      | some is =>
        rw [q2] at p
        cases is with
        | nil => exact p.elim
        | cons i is =>
          have p : Post X.K T W (okI (minI i is) S) Q E := p
          rw [okI_eq] at p
          obtain ⟨a, vs, rfl, r2, hq⟩ := lsq_at rh r1 q
          rw [ints_of q2 r2] at hq
          obtain ⟨m1, m2⟩ := minI_of is i
          refine cr_min hc pins s σ H _ us Q I r ⟨a, i :: is, rfl, hq, by simp, fun m g1 g2 => ?_⟩
          have e : m = minI i is := by have a1 := g2 _ m1; have a2 := m2 m g1; omega
          rw [e]; exact p.here rh rfl
  match ds, rv, p with
  | [], _, p => exact p.elim
  | [d], rv, p => cases d <;> exact one _ rfl p
  | [d, e], rv, p =>
    cases d with
    | int i => cases e with
      | int j =>
        obtain ⟨v, w, rfl, r1, r2⟩ := rvs2 rv
        cases r1; cases r2
        have p : Post X.K T W (okI (minI i [j]) S) Q E := p
        rw [okI_eq] at p
        refine call_min2 hc pins s σ H _ us Q I r ⟨i, j, rfl, ?_⟩
        have e : (if j < i then j else i) = minI i [j] := by rw [minI_cons] <;> rfl
        rw [e]; exact p.here rh rfl
      | _ => exact p.elim
    | _ => exact p.elim
  | d :: e :: _ :: _, _, p => cases d <;> cases e <;> exact p.elim
theorem c_max (hc : X.calm = true) : CallR X (.builtin "max") (rD X.K T (endF maxI)) := by
  intro pins s σ H vs us Q I r ⟨E, W, ds, S, rv, rh, p⟩
  have one : ∀ d, ds = [d] → Post X.K T W (match lsqOf S d with | some xs => (match intsOf xs with | some (i :: is) => okI (maxI i is) S | _ => .bad) | none => .bad) Q E → wpAny (model X.prog X.w) X.A (call (.builtin "max") us) (EP X pins σ Q) X.xe s := by
    intro d e p'
    subst e
    have p := p'
    obtain ⟨v, rfl, r1⟩ := rvs1 rv
    cases q : lsqOf S d with
    | none => rw [q] at p; exact p.elim
    | some xs =>
      rw [q] at p
      have p : Post X.K T W (match intsOf xs with | some (i :: is) => okI (maxI i is) S | _ => .bad) Q E := p
      cases q2 : intsOf xs with
      | none => rw [q2] at p; exact p.elim
      | some is =>
        rw [q2] at p
        cases is with
        | nil => exact p.elim
        | cons i is =>
          have p : Post X.K T W (okI (maxI i is) S) Q E := p
          rw [okI_eq] at p
          obtain ⟨a, vs, rfl, r2, hq⟩ := lsq_at rh r1 q
          rw [ints_of q2 r2] at hq
          obtain ⟨m1, m2⟩ := maxI_of is i
          refine cr_max hc pins s σ H _ us Q I r ⟨a, i :: is, rfl, hq, by simp, fun m g1 g2 => ?_⟩
          have e : m = maxI i is := by have a1 := g2 _ m1; have a2 := m2 m g1; omega
          rw [e]; exact p.here rh rfl
  match ds, rv, p with
  | [], _, p => exact p.elim
  | [d], rv, p => cases d <;> exact one _ rfl p
  | [d, e], rv, p =>
    cases d with
    | int i => cases e with
      | int j =>
        obtain ⟨v, w, rfl, r1, r2⟩ := rvs2 rv
        cases r1; cases r2
        have p : Post X.K T W (okI (maxI i [j]) S) Q E := p
        rw [okI_eq] at p
        refine call_max2 hc pins s σ H _ us Q I r ⟨i, j, rfl, ?_⟩
        have e : (if j > i then j else i) = maxI i [j] := by rw [maxI_cons] <;> rfl
        rw [e]; exact p.here rh rfl
      | _ => exact p.elim
    | _ => exact p.elim
  | d :: e :: _ :: _, _, p => cases d <;> cases e <;> exact p.elim
theorem c_abs : CallR X (.builtin "abs") (rD X.K T absF) := by
  intro pins s σ H vs us Q I r ⟨E, W, ds, S, rv, rh, p⟩
  match ds, rv, p with
  | [], _, p => exact p.elim
  | [d], rv, p =>
    cases d with
    | int i =>
      obtain ⟨v, rfl, r1⟩ := rvs1 rv
      cases r1
      have p : Post X.K T W (okI (.ofNat i.natAbs) S) Q E := p
      rw [okI_eq] at p
      refine call_abs pins s σ H _ us Q I r ⟨i, rfl, ?_⟩
      have e : (if i < 0 then -i else i) = Int.ofNat i.natAbs := by
        simp only [Int.ofNat_eq_natCast]
        by_cases z : i < 0
        · rw [if_pos z]; omega
        · rw [if_neg z]; omega
      rw [e]; exact p.here rh rfl
    | _ => exact p.elim
  | d :: _ :: _, _, p => cases d <;> exact p.elim
theorem c_int : CallR X (.type "int") (rD X.K T intF) := by
  intro pins s σ H vs us Q I r ⟨E, W, ds, S, rv, rh, p⟩
  match ds, rv, p with
  | [], _, p => exact p.elim
  | [d], rv, p =>
    obtain ⟨v, rfl, r1⟩ := rvs1 rv
    cases d with
    | int i => cases r1; exact call_int1 pins s σ H _ us Q I r (.inl ⟨i, rfl, Post.here (show Post X.K T W (.ok (.int i) S) Q E from p) rh rfl⟩)
    | bl b =>
      cases r1
      refine call_int1 pins s σ H _ us Q I r (.inr ⟨b, rfl, ?_⟩)
      have e : (if b then 1 else 0 : Int) = b2 b := by cases b <;> rfl
      rw [e]; exact Post.here (show Post X.K T W (.ok (.int (b2 b)) S) Q E from p) rh rfl
    | _ => exact p.elim
  | d :: _ :: _, _, p => cases d <;> exact p.elim
end

/-! ### isinstance -/
inductive BT where
  | non | bl | int | str | lis | tup
def BT.nm : BT → String
  | .non => "NoneType"
  | .bl => "bool"
  | .int => "int"
  | .str => "str"
  | .lis => "list"
  | .tup => "tuple"
def btOf (S : Sto) : D → Option BT
  | .non => some .non
  | .bl _ => some .bl
  | .int _ => some .int
  | .str _ => some .str
  | .tup _ => some .tup
  | .lis _ => some .lis
  | .scr _ => some .lis
  | .loc l => match sGet S l with
    | some (.lst _) => some .lis
    | _ => none
  | _ => none
def isB : BT → BT → Bool
  | .bl, .bl => true
  | .bl, .int => true
  | .int, .int => true
  | .str, .str => true
  | .lis, .lis => true
  | .tup, .tup => true
  | .non, .non => true
  | _, _ => false
def isAny (t : BT) : List BT → Bool
  | [] => false
  | u :: us => match isB t u with
    | true => true
    | false => isAny t us
def isiF (us : List BT) (d : D) (S : Sto) : Res := match btOf S d with
  | some t => .ok (.bl (isAny t us)) S
  | none => .bad
theorem kit_bt (K : PySem.W.Frag) (t u : BT) : PySem.W.kitOne K (.type t.nm) (.type u.nm) = some (isB t u) := by
  cases t <;> cases u <;> rfl
theorem kit_any (K : PySem.W.Frag) (t : BT) : ∀ us : List BT, PySem.W.kitAny K (.type t.nm) (us.map fun u => .type u.nm) = some (isAny t us)
  | [] => rfl
  | u :: us => by
    rw [List.map_cons]
    unfold PySem.W.kitAny
    rw [kit_bt]
    show _ = some (match isB t u with | true => true | false => isAny t us)
    cases isB t u with
    | true => rfl
    | false => exact kit_any K t us
section
variable {X : Cx} {T : Ads} {Wx : WX}
theorem Rd.lst_ty {K : PySem.W.Frag} {H : Hp} {a : Addr} {vs : List V} (h : SqL K H a vs) : TyX K H (.ref a) (.type "list") := by
  rcases h with h | ⟨o, its, n, e, c, _⟩
  · rcases h with h | ⟨o, h⟩
    · exact .base (.lst h)
    · exact .base (.frz h)
  · exact .kList e c
theorem Rd.tup_ty {K : PySem.W.Frag} {H : Hp} {a : Addr} {vs : List V} (h : SqT K H a vs) : TyX K H (.ref a) (.type "tuple") := by
  rcases h with h | ⟨o, its, n, e, c, _⟩
  · rcases h with h | ⟨o, h⟩
    · exact .base (.tup h)
    · exact .fTuple h
  · exact .kTuple e c
theorem ty_at {K : PySem.W.Frag} {W : Wd} {S : Sto} {H : Hp} {d : D} {v : V} {t : BT} (h : Rh K T W S H) (r : Rv K T W d v) (e : btOf S d = some t) : TyX K H v (.type t.nm) := by
  have lists : ∀ xs, lsqOf S d = some xs → t = .lis → TyX K H v (.type t.nm) := fun xs q z => by
    obtain ⟨a, vs, rfl, _, hq⟩ := lsq_at h r q
    subst z
    exact Rd.lst_ty hq
  cases d with
  | non => cases r; cases e; exact .base .non
  | bl b => cases r; cases e; exact .base (.bl b)
  | int i => cases r; cases e; exact .base (.int i)
  | str x => cases r; cases e; exact .base (.str x)
  | tup xs =>
    cases e
    obtain ⟨a, vs, rfl, q, _⟩ := r
    exact Rd.tup_ty (SqT.up h.sub q)
  | lis xs => cases e; exact lists xs rfl rfl
  | scr xs => cases e; exact lists xs rfl rfl
  | loc l =>
    have e' : (match sGet S l with | some (.lst _) => some BT.lis | _ => none) = some t := e
    cases g : sGet S l with
    | none => rw [g] at e'; cases e'
    | some o =>
      rw [g] at e'
      cases o with
      | lst xs => cases e'; exact lists xs (by show (match sGet S l with | some (.lst xs) => some xs | _ => none) = _; rw [g]) rfl
      | dic _ _ => cases e'
      | ins _ _ _ => cases e'
  | _ => cases e
def btBy (x : Str) : Option BT :=
  match strEq x "int" with
  | true => some .int
  | false => match strEq x "bool" with
    | true => some .bl
    | false => match strEq x "list" with
      | true => some .lis
      | false => match strEq x "tuple" with
        | true => some .tup
        | false => match strEq x "str" with
          | true => some .str
          | false => none
theorem btBy_ok {x : Str} {t : BT} (h : btBy x = some t) : bootBuiltins x = some (.type t.nm) ∧ x ≠ "__name__" ∧ (x == ("__debug__" : Str)) = false := by
  unfold btBy at h
  simp only [strEq_eq] at h
  by_cases h1 : x = "int"
  · rw [decide_eq_true h1] at h; cases h; subst h1; exact ⟨by kernel_rfl, by decide +kernel, by decide +kernel⟩
  · rw [decide_eq_false h1] at h
    by_cases h2 : x = "bool"
    · simp only [decide_eq_true h2] at h; cases h; subst h2; exact ⟨by kernel_rfl, by decide +kernel, by decide +kernel⟩
    · simp only [decide_eq_false h2] at h
      by_cases h3 : x = "list"
      · simp only [decide_eq_true h3] at h; cases h; subst h3; exact ⟨by kernel_rfl, by decide +kernel, by decide +kernel⟩
      · simp only [decide_eq_false h3] at h
        by_cases h4 : x = "tuple"
        · simp only [decide_eq_true h4] at h; cases h; subst h4; exact ⟨by kernel_rfl, by decide +kernel, by decide +kernel⟩
        · simp only [decide_eq_false h4] at h
          by_cases h5 : x = "str"
          · simp only [decide_eq_true h5] at h; cases h; subst h5; exact ⟨by kernel_rfl, by decide +kernel, by decide +kernel⟩
          · simp only [decide_eq_false h5] at h; cases h
theorem pe_bt {x : Str} {t : BT} {p : Pos} (h : btBy x = some t) (hg : Gl X x) (hm : X.mg x = none) : PE X (.Name x p) (tC (.ty t.nm)) := by
  obtain ⟨a, b, c⟩ := btBy_ok h
  exact pe_bltn hg hm a rfl b c
theorem isi_name {a : Expr} {ca : C1} {x : Str} {t : BT} {p p2 pos : Pos} (ha : EE X T Wx a ca) (hs : noStar [a] = true) (h : btBy x = some t) (hg : Gl X x) (hm : X.mg x = none) (hgi : Gl X "isinstance") (hmi : X.mg "isinstance" = none) :
    EE X T Wx (.Call (.Name "isinstance" p) [a, .Name x p2] [] pos) (u1C (isiF [t]) ca) := by
  have hb : PA X [a, .Name x p2] (tCons (tE X.K T Wx ca) (tCons (tC (.ty t.nm)) tNil)) := pa_cons ha (pa_cons (pe_bt h hg hm) pa_nil) (by rw [star_cons (show noStar (a :: [.Name x p2]) = true from by cases a <;> first | rfl | cases hs)])
  refine PE.weak (pe_callB call_isi hgi hmi (by kernel_rfl) hb (by decide +kernel) (by decide +kernel) (star_cons (by cases a <;> first | rfl | cases hs)) rfl) fun τ H Q h => ?_
  obtain ⟨W, σ, S, rs, rh, p⟩ := tE_u1 h
  refine ⟨W, σ, S, rs, rh, Post.imp (fun v H1 ⟨E, U, d, S1, rv, rh1, p1⟩ => ?_) p⟩
  unfold isiF at p1
  cases q : btOf S1 d with
  | none => rw [q] at p1; exact p1.elim
  | some b =>
    rw [q] at p1
    refine ⟨v, .ty t.nm, .type b.nm, .type t.nm, isAny b [t], rfl, .ty _, ty_at rh1 rv q, ?_, p1.here rh1 rfl⟩
    rw [kit_bt]
    congr 1
    show isB b t = match isB b t with | true => true | false => false
    cases isB b t <;> rfl
/-- names of types, one behind another -/
def btsBy : List Expr → Option (List BT)
  | [] => some []
  | .Name x _ :: r => match btBy x with
    | some t => match btsBy r with
      | some ts => some (t :: ts)
      | none => none
    | none => none
  | _ => none
theorem pa_bts : ∀ {es : List Expr} {ts : List BT}, btsBy es = some ts → (∀ x p, .Name x p ∈ es → Gl X x ∧ X.mg x = none) → PA X es (fun _ H Q => Q (ts.map fun t => V.ty t.nm) H)
  | [], ts, h, _ => by cases h; exact PA.weak pa_nil fun _ _ _ q => q
  | e :: es, ts, h, hg => by
    cases e with
    | Name x p =>
      have h' : (match btBy x with | some t => (match btsBy es with | some ts => some (t :: ts) | none => none) | none => none) = some ts := h
      cases q : btBy x with
      | none => rw [q] at h'; cases h'
      | some t =>
        rw [q] at h'
        cases q2 : btsBy es with
        | none => rw [q2] at h'; cases h'
        | some us =>
          rw [q2] at h'; cases h'
          obtain ⟨g1, g2⟩ := hg x p List.mem_cons_self
          exact PA.weak (pa_cons (pe_bt q g1 g2) (pa_bts q2 fun y p hy => hg y p (List.mem_cons_of_mem _ hy)) rfl) fun _ _ _ q => q
    | _ => cases h
theorem cls_all : ∀ ts : List BT, Paired ClsV (ts.map fun t => V.ty t.nm) (ts.map fun t => Value.type t.nm)
  | [] => .nil
  | t :: ts => .cons (.ty _) (cls_all ts)
theorem isi_tup {a : Expr} {ca : C1} {es : List Expr} {ts : List BT} {k : Nat} {p p2 pos : Pos} (ha : EE X T Wx a ca) (hs : noStar [a] = true) (h : btsBy es = some ts) (hg : ∀ x p, .Name x p ∈ es → Gl X x ∧ X.mg x = none) (hn : small ts.length = true)
    (hgi : Gl X "isinstance") (hmi : X.mg "isinstance" = none) : EE X T Wx (.Call (.Name "isinstance" p) [a, .Tuple es k p2] [] pos) (u1C (isiF ts) ca) := by
  have hb : PA X [a, .Tuple es k p2] (tCons (tE X.K T Wx ca) (tCons (tTup fun _ H Q => Q (ts.map fun t => V.ty t.nm) H) tNil)) :=
    pa_cons ha (pa_cons (pe_tup (pa_bts h hg)) pa_nil) (by rw [star_cons (show noStar (a :: [.Tuple es k p2]) = true from by cases a <;> first | rfl | cases hs)])
  refine PE.weak (pe_callB call_isiT hgi hmi (by kernel_rfl) hb (by decide +kernel) (by decide +kernel) (star_cons (by cases a <;> first | rfl | cases hs)) rfl) fun τ H Q h => ?_
  obtain ⟨W, σ, S, rs, rh, p⟩ := tE_u1 h
  refine ⟨W, σ, S, rs, rh, Post.imp (fun v H1 ⟨E, U, d, S1, rv, rh1, p1⟩ => ?_) p⟩
  unfold isiF at p1
  cases q : btOf S1 d with
  | none => rw [q] at p1; exact p1.elim
  | some b =>
    rw [q] at p1
    refine ⟨by rw [List.length_map]; exact small_line hn, fun tp htp => ?_⟩
    obtain ⟨le, rh2⟩ := rh1.lay (.tup (ts.map fun t => V.ty t.nm)) htp
    refine ⟨v, tp, ts.map fun t => V.ty t.nm, .type b.nm, ts.map fun t => .type t.nm, isAny b ts, rfl, upd_same, cls_all ts, ty_at rh2 (Rv.up le d v rv) q, kit_any _ b ts, (p1.up le).here rh2 rfl⟩
end
end Ev
/-! Ev, part F3: calls. -/
namespace Ev
open PySem L2 PyProof.Rows
section
variable {α : Type}
theorem add_loop (N : List Str) (f : Str × Value → List (Str × Value) × List (Str × Value) → Sem (ForInStep (List (Str × Value) × List (Str × Value))))
    (hf : ∀ q a, q.1 ∈ N → a.lookup q.1 = none → f q (a, []) = pure (.yield (a ++ [q], []))) :
    ∀ (qs a : List (Str × Value)), (∀ q ∈ qs, q.1 ∈ N) → (qs.map (·.1)).Nodup → (∀ q ∈ qs, a.lookup q.1 = none) → forIn qs (a, []) f = pure (a ++ qs, [])
  | [], a, _, _, _ => by rw [List.forIn_nil, List.append_nil]
  | q :: qs, a, h1, h2, h3 => by
    rw [List.forIn_cons, hf q a (h1 q List.mem_cons_self) (h3 q List.mem_cons_self), pure_bind]
    obtain ⟨n1, n2⟩ := List.nodup_cons.mp h2
    have n1 : q.1 ∉ qs.map (·.1) := n1
    show forIn qs (a ++ [q], []) f = _
    rw [add_loop N f hf qs (a ++ [q]) (fun z hz => h1 z (List.mem_cons_of_mem _ hz)) n2 (fun z hz => ?_), List.append_assoc]
    · rfl
    · have ne : (z.1 == q.1) = false := beq_eq_false_iff_ne.mpr fun e => n1 (by rw [← e]; exact List.mem_map_of_mem (f := (·.1)) hz)
      rw [List.lookup_append, h3 z (List.mem_cons_of_mem _ hz), List.lookup_cons, ne]
      rfl
theorem look_zip : ∀ {N : List Str} {vs : List Value} {n : Str}, N.length = vs.length → n ∈ N → ((N.zip vs).lookup n).isSome = true
  | [], _, _, _, h => by simp at h
  | m :: N, [], _, h, _ => by simp at h
  | m :: N, v :: vs, n, hl, h => by
    rw [List.zip_cons_cons, List.lookup_cons]
    cases e : n == m with
    | true => rfl
    | false =>
      refine look_zip (by simpa using hl) ?_
      rcases List.mem_cons.mp h with z | z
      · rw [z, beq_self_eq_true] at e; cases e
      · exact z
theorem look_none : ∀ {N : List Str} {vs : List Value} {n : Str}, n ∉ N → (N.zip vs).lookup n = none
  | [], _, _, _ => rfl
  | m :: N, [], _, _ => rfl
  | m :: N, v :: vs, n, h => by
    rw [List.zip_cons_cons, List.lookup_cons]
    have e : (n == m) = false := beq_eq_false_iff_ne.mpr fun z => h (z ▸ List.mem_cons_self)
    rw [e]
    exact look_none fun z => h (List.mem_cons_of_mem _ z)
theorem all_zip : ∀ {N : List Str} {vs : List Value} (S : List (Str × Value)), N.length = vs.length → N.Nodup → (∀ n v, (n, v) ∈ N.zip vs → S.lookup n = some v) → N.filterMap (fun n => (S.lookup n).map fun v => (n, v)) = N.zip vs
  | [], _, _, _, _, _ => by simp
  | m :: N, [], _, h, _, _ => by simp at h
  | m :: N, v :: vs, S, hl, nd, h => by
    rw [List.filterMap_cons, h m v (by rw [List.zip_cons_cons]; exact List.mem_cons_self), List.zip_cons_cons]
    show (m, v) :: _ = _
    rw [all_zip S (by simpa using hl) (List.nodup_cons.mp nd).2 fun n w hw => h n w (by rw [List.zip_cons_cons]; exact List.mem_cons_of_mem _ hw)]
theorem look_own : ∀ {N : List Str} {vs : List Value} {n : Str} {v : Value}, N.Nodup → (n, v) ∈ N.zip vs → (N.zip vs).lookup n = some v
  | [], _, _, _, _, h => by simp at h
  | m :: N, [], _, _, _, h => by simp at h
  | m :: N, w :: vs, n, v, nd, h => by
    rw [List.zip_cons_cons] at h ⊢
    rw [List.lookup_cons]
    rcases List.mem_cons.mp h with e | h
    · cases e; rw [beq_self_eq_true]
    · have ne : (n == m) = false := beq_eq_false_iff_ne.mpr fun z => (List.nodup_cons.mp nd).1 (z ▸ (List.of_mem_zip h).1)
      rw [ne]
      exact look_own (List.nodup_cons.mp nd).2 h
theorem zip_parts (N : List Str) (us ws : List Value) : N.zip us ++ (N.drop us.length).zip ws = N.zip (us ++ ws) := by
  induction us generalizing N with
  | nil => simp
  | cons u us ih =>
    cases N with
    | nil => simp
    | cons n N => simp only [List.zip_cons_cons, List.cons_append, List.length_cons, List.drop_succ_cons, ih]
end
theorem bind_pos {fd : FuncData} {as : List Arg} (hp : fd.params = ⟨[], as, none, [], [], none, []⟩) (hd : fd.defaults = .none) (nd : (as.map (·.arg)).Nodup) (us ws : List Value) (hl : us.length + ws.length = as.length) :
    bindArgs fd ⟨us, ((as.map (·.arg)).drop us.length).zip ws⟩ = pure ((as.map (·.arg)).zip (us ++ ws)) := by
  generalize hN : as.map (·.arg) = N at nd ⊢
  have hNl : N.length = us.length + ws.length := by rw [← hN, List.length_map, hl]
  unfold bindArgs
  rw [hp, hd]
  simp only [List.map_nil, List.nil_append, List.append_nil, hN]
  have nodrop : (N.drop us.length).Nodup := nd.sublist (List.drop_sublist _ _)
  have disj : ∀ n, n ∈ N.drop us.length → n ∉ N.take us.length := fun n h1 h2 => by
    have := nd
    rw [← List.take_append_drop us.length N, List.nodup_append] at this
    exact this.2.2 n h2 n h1 rfl
  have zt : N.zip us = (N.take us.length).zip us := by
    rw [show N.zip us = N.zip us from rfl, List.zip_eq_zip_take_min, List.zip_eq_zip_take_min (l₁ := N.take us.length)]
    have e : min N.length us.length = us.length := by omega
    have e2 : min (N.take us.length).length us.length = us.length := by rw [List.length_take]; omega
    rw [e, e2, List.take_take, Nat.min_self]
  have k1 : ∀ q ∈ (N.drop us.length).zip ws, q.1 ∈ N := fun q hq => List.mem_of_mem_drop (List.of_mem_zip hq).1
  have k2 : (((N.drop us.length).zip ws).map (·.1)).Nodup := by
    have : ((N.drop us.length).zip ws).map (·.1) = N.drop us.length := by
      rw [List.map_fst_zip]
      rw [List.length_drop]; omega
    rw [this]; exact nodrop
  have k3 : ∀ q ∈ (N.drop us.length).zip ws, (N.zip us).lookup q.1 = none := fun q hq => by
    rw [zt]
    exact look_none (disj _ (List.of_mem_zip hq).1)
  rw [add_loop N _ (fun q a h1 h2 => by simp [h1, h2]) _ _ k1 k2 k3, pure_bind, zip_parts]
  have full : ∀ n ∈ N, ((N.zip (us ++ ws)).lookup n).isSome = true := fun n hn => look_zip (by rw [List.length_append]; exact hNl) hn
  have miss : List.filter (fun n => (List.lookup n (N.zip (us ++ ws))).isNone) N = [] := List.filter_eq_nil_iff.mpr fun n hn => by
    have := full n hn
    cases q : List.lookup n (N.zip (us ++ ws)) with
    | none => rw [q] at this; cases this
    | some _ => simp
  have e0 : seqItems? Value.none = pure none := rfl
  have le : ¬ N.length < us.length := by omega
  have fin := all_zip (N := N) (vs := us ++ ws) (N.zip (us ++ ws)) (by rw [List.length_append]; exact hNl) nd (fun n v h => look_own nd h)
  rw [e0, pure_bind]
  simp [le, miss, fin]

/-! ### what a def promises -/
def spOf (K : PySem.W.Frag) (T : Ads) (n : Nat) (f : List D → Sto → Res) : Sp := fun vs H Q E => ∃ W ds S, Rvs K T W ds vs ∧ Rh K T W S H ∧ ds.length = n ∧ Post K T W (f ds S) Q E
structure FnFact (X : Cx) (T : Ads) (i : Nat) (f : List D → Sto → Res) (ps : List Str) : Prop where
  ex : ∃ k fd, Room k X.A ∧ FnOk X.prog X.w X.K X.mg X.base (L2.CX X.prog X.w) k (T.fn i) fd ps (spOf X.K T ps.length f) ∧
    ∀ (us ws : List Value) (s : Shared), us.length + ws.length = ps.length → BindsTo s fd ⟨us, (ps.drop us.length).zip ws⟩ (ps.zip (us ++ ws))
  keep : PySem.W.keepIn X.K (.ref (T.fn i)) = true
section
variable {X : Cx} {T : Ads} {Wx : WX} {i : Nat} {f : List D → Sto → Res} {ps : List Str}
theorem run_def {pins : List (Addr × Obj)} {τ : L2.St} {H : Hp} {s : Shared} {Q : VK} {us ws : List Value} {vs zs : List V} {W : Wd} {ds : List D} {S : Sto} (F : FnFact X T i f ps) (tk : Takes X Wx) (I : Inv X pins τ H s) (r : Vals vs us) (rz : Vals zs ws)
    (rv : Rvs X.K T W ds (vs ++ zs)) (rh : Rh X.K T W S H) (hn : ds.length = ps.length) (p : Post X.K T W (f ds S) Q (fun cls p H' => Wx cls p τ H')) :
    wpAny (model X.prog X.w) X.A (call (.ref (T.fn i)) us ((ps.drop us.length).zip ws)) (EP X pins τ Q) X.xe s := by
  obtain ⟨k, fd, hr, F, hb⟩ := F.ex
  have hl : us.length + ws.length = ps.length := by rw [← hn, ← rv.len, List.length_append, r.length, rz.length]
  refine wpAny_call (codeAny_mono (F.run X.A X.stack s H _ (us ++ ws) (vs ++ zs) Q _ hr I.env0 (hb us ws s hl) (r.append rz) ⟨W, ds, S, rv, rh, hn, p⟩) fun r s' hq => ?_)
  cases r with
  | error e => exact passAt tk τ pins H s e s' I hq
  | ok fl =>
    cases fl with
    | ret u => exact I.after hq
    | next => exact False.elim hq
    | brk => exact False.elim hq
    | cont => exact False.elim hq
def callC (f : List D → Sto → Res) (a : C1L) : C1 := fun σ S => (a σ S).bind f
def callK (f : List D → Sto → Res) (a k : C1L) : C1 := fun σ S => (a σ S).bind fun ds S1 => (k σ S1).bind fun es S2 => f (ds ++ es) S2
/-- how many come of a list of arguments -/
def LenL (c : C1L) (n : Nat) : Prop := ∀ σ S ds S', c σ S = .ok ds S' → ds.length = n
theorem LenL.nil : LenL aNil 0 := fun _ _ ds _ h => by cases h; rfl
theorem LenL.cons {a : C1} {b : C1L} {n : Nat} (h : LenL b n) : LenL (aCons a b) (n + 1) := fun σ S ds S' e => by
  have e : ((a σ S).bindL fun x S1 => (b σ S1).bindL fun xs S2 => .ok (x :: xs) S2) = .ok ds S' := e
  cases q : a σ S with
  | ok x S1 =>
    rw [q] at e
    have e : ((b σ S1).bindL fun xs S2 => .ok (x :: xs) S2) = .ok ds S' := e
    cases q2 : b σ S1 with
    | ok xs S2 => rw [q2] at e; cases e; rw [List.length_cons, h _ _ _ _ q2]
    | exc _ _ _ => rw [q2] at e; cases e
    | bad => rw [q2] at e; cases e
  | exc _ _ _ => rw [q] at e; cases e
  | bad => rw [q] at e; cases e
theorem PostL.len {K : PySem.W.Frag} {W : Wd} {c : C1L} {n : Nat} {σ : Sl} {S : Sto} {Q : List V → Hp → Prop} {E : XK} {k : List D → Sto → Res} {R : VK} (hl : LenL c n) (p : Post K T W ((c σ S).bind k) R E)
    (h : ∀ vs H U ds S', ds.length = n → W.Le U → Rh K T U S' H → Rvs K T U ds vs → Post K T U (k ds S') R E → Q vs H) : PostL K T W (c σ S) Q E := by
  cases q : c σ S with
  | ok ds S' =>
    rw [q] at p
    have p : Post K T W (k ds S') R E := p
    exact fun U H vs le rh rv => h vs H U ds S' (hl _ _ _ _ q) le rh rv (p.up le)
  | exc c x S' => rw [q] at p; exact p
  | bad => rw [q] at p; exact p
/-- the arguments have come: the call -/
def GoOk (X : Cx) (T : Ads) (Wx : WX) (τ : L2.St) (f : List D → Sto → Res) (n : Nat) (Q : VK) : List V → Hp → Prop := fun vs H => ∃ U ds S, ds.length = n ∧ Rh X.K T U S H ∧ Rvs X.K T U ds vs ∧ Post X.K T U (f ds S) Q (fun cls p H' => Wx cls p τ H')
theorem GoOk.run {pins : List (Addr × Obj)} {τ : L2.St} {H : Hp} {s : Shared} {Q : VK} {us : List Value} {vs : List V} (F : FnFact X T i f ps) (tk : Takes X Wx) (I : Inv X pins τ H s) (r : Vals vs us) (g : GoOk X T Wx τ f ps.length Q vs H) :
    wpAny (model X.prog X.w) X.A (call (.ref (T.fn i)) ([] ++ us) []) (EP X pins τ Q) X.xe s := by
  obtain ⟨U, ds, S', hn, rh, rv, p⟩ := g
  have := run_def (ws := []) (zs := []) F tk I r .nil (by rw [List.append_nil]; exact rv) rh hn p
  rw [List.zip_nil_right] at this
  exact this
/-- f(..) of a global def -/
theorem e_call {x : Str} {e : Expr} {es : List Expr} {ca : C1L} {p pos : Pos} (F : FnFact X T i f ps) (tk : Takes X Wx) (hg : Gl X x) (hm : X.mg x = some (.ref (T.fn i))) (hdb : (x == ("__debug__" : Str)) = false) (ha : EA X T Wx (e :: es) ca) (hl : LenL ca ps.length) (hs : noStar (e :: es) = true) :
    EE X T Wx (.Call (.Name x p) (e :: es) [] pos) (callC f ca) := by
  refine ⟨fun pins s τ H Q I ⟨W, σ, S, rs, rh, pp⟩ => ?_⟩
  refine wpAny_Call_Name_kw (ld_glob I hg hm ?_ hdb)
  have z : tA X.K T Wx ca τ H (GoOk X T Wx τ f ps.length Q) := ⟨W, σ, S, rs, rh, PostL.len hl pp fun vs H U ds S' hn le rh rv p => ⟨U, ds, S', hn, rh, rv, p⟩⟩
  exact PySem.W.callWith_K (h₀ := X.base) I.ok.mod.kin F.keep (thn (ha.run pos pins s τ H _ I z) fun us s1 ⟨vs, H1, I1, r, q⟩ => ⟨I1.kIn, q.run F tk I1 r⟩) (star_cons hs) (star_none (star_tail hs))
theorem e_call0 {x : Str} {p pos : Pos} (F : FnFact X T i f ps) (tk : Takes X Wx) (hg : Gl X x) (hm : X.mg x = some (.ref (T.fn i))) (hdb : (x == ("__debug__" : Str)) = false) (hn : ps.length = 0) : EE X T Wx (.Call (.Name x p) [] [] pos) (callC f aNil) := by
  refine ⟨fun pins s τ H Q I ⟨W, σ, S, rs, rh, pp⟩ => ?_⟩
  refine wpAny_Call_Name_kw (ld_glob I hg hm ?_ hdb)
  exact PySem.W.callWith_K0 I.kIn F.keep (GoOk.run F tk I .nil ⟨W, [], S, hn.symm, rh, rfl, pp⟩)
/-- v(..), v a name of the body -/
def callV (cs : Calls) (ar : List Nat) (j : Nat) (a : C1L) : C1 := fun σ S => match σGet σ j with
  | some (.fn i) => match lGet ar i with
    | some n => (a σ S).bind fun ds S' => match Nat.beq ds.length n with
      | true => cs i ds S'
      | false => .bad
    | none => .bad
  | _ => .bad
theorem e_callV {cs : Calls} {ar : List Nat} {x : Str} {j : Nat} {e : Expr} {es : List Expr} {ca : C1L} {p pos : Pos} (F : ∀ i n, ar[i]? = some n → ∃ ps : List Str, ps.length = n ∧ FnFact X T i (cs i) ps) (tk : Takes X Wx) (hv : PE X (.Name x p) (tVar j))
    (ha : EA X T Wx (e :: es) ca) (hs : noStar (e :: es) = true) : EE X T Wx (.Call (.Name x p) (e :: es) [] pos) (callV cs ar j ca) := by
  refine ⟨fun pins s τ H Q I ⟨W, σ, S, rs, rh, pp⟩ => ?_⟩
  refine wpAny_Call_Name_kw ?_
  unfold callV σGet at pp
  rw [lGet_eq] at pp
  cases q : σ[j]? with
  | none => rw [q] at pp; exact pp.elim
  | some o =>
    rw [q] at pp
    cases o with
    | none => exact pp.elim
    | some d =>
      cases d with
      | fn i =>
        have pp : Post X.K T W (match lGet ar i with | some n => (ca σ S).bind fun ds S' => (match Nat.beq ds.length n with | true => cs i ds S' | false => .bad) | none => .bad) Q _ := pp
        rw [lGet_eq] at pp
        obtain ⟨v, hv1, hv2⟩ := rs.2 j _ q
        cases hv2
        cases hn : ar[i]? with
        | none => rw [hn] at pp; exact pp.elim
        | some n =>
          rw [hn] at pp
          have pp : Post X.K T W ((ca σ S).bind fun ds S' => (match Nat.beq ds.length n with | true => cs i ds S' | false => .bad)) Q _ := pp
          obtain ⟨ps, hl, FF⟩ := F i n hn
          refine thn (hv.run pins s τ H (fun x H1 => x = .ref (T.fn i) ∧ H1 = H) I ⟨_, hv1, rfl, rfl⟩) fun u s0 ⟨x, H0, I0, rx, ex, eH⟩ => ?_
          subst ex eH
          cases rx
          have z : tA X.K T Wx ca τ H0 (GoOk X T Wx τ (cs i) ps.length Q) := ⟨W, σ, S, rs, rh, PostL.imp (fun vs H1 ⟨U, ds, S1, le, rh1, rv, p1⟩ => by
            rw [beq_dec] at p1
            by_cases hz : ds.length = n
            · rw [decide_eq_true hz] at p1; exact ⟨U, ds, S1, hz.trans hl.symm, rh1, rv, p1⟩
            · rw [decide_eq_false hz] at p1; exact p1.elim) (PostL.bind pp)⟩
          exact PySem.W.callWith_K (h₀ := X.base) I0.ok.mod.kin FF.keep (thn (ha.run pos pins s0 τ H0 _ I0 z) fun us s1 ⟨vs, H1, I1, r, q3⟩ => ⟨I1.kIn, q3.run FF tk I1 r⟩) (star_cons hs) (star_none (star_tail hs))
      | _ => exact pp.elim
/-- keywords -/
abbrev EK (X : Cx) (T : Ads) (Wx : WX) (kws : List Keyword) (c : C1L) : Prop := PK X kws (tA X.K T Wx c)
theorem PK.weak {kws : List Keyword} {t t' : TA} (h : PK X kws t) (k : ∀ τ H Q, t' τ H Q → t τ H Q) : PK X kws t' := ⟨fun p pins s σ H Q I q => h.run p pins s σ H Q I (k σ H Q q)⟩
theorem k_nil : EK X T Wx [] aNil := PK.weak pk_nil fun τ H Q ⟨W, σ, S, rs, rh, p⟩ => p W H [] (Wd.Le.refl W) rh rfl
theorem k_cons {e : Expr} {kws : List Keyword} {ca : C1} {cb : C1L} {nm : Option Str} {kp : Pos} (ha : EE X T Wx e ca) (hb : EK X T Wx kws cb) : EK X T Wx (⟨nm, e, kp⟩ :: kws) (aCons ca cb) :=
  PK.weak (pk_cons ha hb) fun τ H Q ⟨W, σ, S, rs, rh, p⟩ => by
    refine ⟨W, σ, S, rs, rh, Post.imp (fun v H' ⟨U, d, S1, le, rh1, rv, p1⟩ => ?_) (Post.bindL p)⟩
    refine ⟨U, σ, S1, rs.up le, rh1, PostL.imp (fun vs H2 ⟨U2, ds, S2, le2, rh2, rv2, p2⟩ => ?_) (PostL.bindL p1)⟩
    exact p2 U2 H2 _ (Wd.Le.refl _) rh2 ⟨v, vs, rfl, Rv.up le2 d v rv, rv2⟩
/-- the keywords' names are these -/
def kwsAre : List Keyword → List Str → Bool
  | [], [] => true
  | ⟨some k, _, _⟩ :: r, n :: ns => match strEq k n with
    | true => kwsAre r ns
    | false => false
  | _, _ => false
theorem kws_names {env : Env} {pos : Pos} : ∀ {kws : List Keyword} {ns : List Str}, kwsAre kws ns = true →
    (backToKw pos (keywordEach kws env)).filterMap (·.1) = ns ∧ (backToKw pos (keywordEach kws env)).all (·.1.isSome) = true ∧ (backToKw pos (keywordEach kws env)).any (·.1.isNone) = false
  | [], [], _ => ⟨rfl, rfl, rfl⟩
  | [], _ :: _, h => by cases h
  | ⟨none, _, _⟩ :: _, [], h => by cases h
  | ⟨some _, _, _⟩ :: _, [], h => by cases h
  | ⟨none, _, _⟩ :: _, _ :: _, h => by cases h
  | ⟨some k, e, p⟩ :: r, n :: ns, h => by
    have h' : (match strEq k n with | true => kwsAre r ns | false => false) = true := h
    rw [strEq_eq] at h'
    by_cases q : k = n
    · rw [decide_eq_true q] at h'
      obtain ⟨a, b, c⟩ := kws_names (env := env) (pos := pos) h'
      subst q
      refine ⟨?_, ?_, ?_⟩
      · show k :: (backToKw pos (keywordEach r env)).filterMap (·.1) = _; rw [a]
      · exact b
      · exact c
    · rw [decide_eq_false q] at h'; cases h'
theorem go_kw {pins : List (Addr × Obj)} {τ : L2.St} {H : Hp} {s : Shared} {Q : VK} {us ws : List Value} {vs zs : List V} {U : Wd} {ds es : List D} {S : Sto} (F : FnFact X T i f ps) (tk : Takes X Wx) (I : Inv X pins τ H s) (r : Vals vs us) (rz : Vals zs ws)
    (rv : Rvs X.K T U ds vs) (re : Rvs X.K T U es zs) (rh : Rh X.K T U S H) (hn : ds.length + es.length = ps.length) (p : Post X.K T U (f (ds ++ es) S) Q (fun cls p H' => Wx cls p τ H')) :
    wpAny (model X.prog X.w) X.A (call (.ref (T.fn i)) ([] ++ us) ((ps.drop ds.length).zip ws)) (EP X pins τ Q) X.xe s := by
  have := run_def (us := us) (ws := ws) F tk I r rz (rv.app re) rh (by rw [List.length_append]; exact hn) p
  rw [← r.length, rv.len] at this
  exact this
theorem e_callK {x : Str} {e : Expr} {es : List Expr} {kws : List Keyword} {ca ck : C1L} {n m : Nat} {p pos : Pos} (F : FnFact X T i f ps) (tk : Takes X Wx) (hg : Gl X x) (hm : X.mg x = some (.ref (T.fn i))) (hdb : (x == ("__debug__" : Str)) = false) (ha : EA X T Wx (e :: es) ca) (hk : EK X T Wx kws ck)
    (hl : LenL ca n) (hlk : LenL ck m) (hnm : n + m = ps.length) (hks : kwsAre kws (ps.drop n) = true) (hs : noStar (e :: es) = true) : EE X T Wx (.Call (.Name x p) (e :: es) kws pos) (callK f ca ck) := by
  refine ⟨fun pins s τ H Q I ⟨W, σ, S, rs, rh, pp⟩ => ?_⟩
  refine wpAny_Call_Name_kw (ld_glob I hg hm ?_ hdb)
  obtain ⟨k1, k2, k3⟩ := kws_names (env := X.env) (pos := pos) hks
  have z : tA X.K T Wx ca τ H fun vs H1 => tA X.K T Wx ck τ H1 fun zs H2 => ∃ U ds es S2, ds.length = n ∧ es.length = m ∧ Rh X.K T U S2 H2 ∧ Rvs X.K T U ds vs ∧ Rvs X.K T U es zs ∧ Post X.K T U (f (ds ++ es) S2) Q (fun cls p H' => Wx cls p τ H') :=
    ⟨W, σ, S, rs, rh, PostL.len hl pp fun vs H1 U ds S1 hn le rh1 rv p1 => ⟨U, σ, S1, rs.up le, rh1, PostL.len hlk p1 fun zs H2 U2 es S2 hm le2 rh2 rz p2 => ⟨U2, ds, es, S2, hn, hm, rh2, Rvs.up le2 _ _ rv, rz, p2⟩⟩⟩
  refine PySem.W.callWith_KW (h₀ := X.base) I.ok.mod.kin F.keep k2 (thn (ha.run pos pins s τ H _ I z) fun us s1 ⟨vs, H1, I1, r, q⟩ => ?_) (by rw [star_cons hs]; show ((false || (backTo pos (starEach es X.env)).any (·.1)) || _) = false; rw [star_none (star_tail hs), k3] <;> rfl) (star_cons hs)
  refine thn (hk.run pos pins s1 τ H1 _ I1 q) fun ws s2 ⟨zs, H2, I2, rz, U, ds, es, S2, hn, hm', rh2, rv, re, p2⟩ => ⟨I2.kIn, ?_⟩
  rw [k1, ← hn]
  exact go_kw F tk I2 r rz rv re rh2 (by rw [hn, hm']; exact hnm) p2
theorem e_callK0 {x : Str} {kws : List Keyword} {ck : C1L} {m : Nat} {p pos : Pos} (F : FnFact X T i f ps) (tk : Takes X Wx) (hg : Gl X x) (hm : X.mg x = some (.ref (T.fn i))) (hdb : (x == ("__debug__" : Str)) = false) (hk : EK X T Wx kws ck)
    (hlk : LenL ck m) (hnm : m = ps.length) (hks : kwsAre kws ps = true) : EE X T Wx (.Call (.Name x p) [] kws pos) (callC f ck) := by
  refine ⟨fun pins s τ H Q I ⟨W, σ, S, rs, rh, pp⟩ => ?_⟩
  refine wpAny_Call_Name_kw (ld_glob I hg hm ?_ hdb)
  obtain ⟨k1, k2, k3⟩ := kws_names (env := X.env) (pos := pos) hks
  have z : tA X.K T Wx ck τ H fun zs H2 => ∃ U es S2, es.length = m ∧ Rh X.K T U S2 H2 ∧ Rvs X.K T U es zs ∧ Post X.K T U (f es S2) Q (fun cls p H' => Wx cls p τ H') :=
    ⟨W, σ, S, rs, rh, PostL.len hlk pp fun zs H2 U es S2 hm le rh2 rz p2 => ⟨U, es, S2, hm, rh2, rz, p2⟩⟩
  refine PySem.W.callWith_KW0 (h₀ := X.base) I.ok.mod.kin F.keep k2 (thn (hk.run pos pins s τ H _ I z) fun ws s2 ⟨zs, H2, I2, rz, U, es, S2, hm', rh2, re, p2⟩ => ⟨I2.kIn, ?_⟩) (by show (false || _) = false; rw [k3] <;> rfl)
  rw [k1]
  exact go_kw (us := []) (vs := []) (ds := []) F tk I2 .nil rz rfl re rh2 (by rw [hm']; simpa using hnm) p2
end
end Ev
/-! Ev, part G1: what is walked: lists and tuples, ranges, zip, enumerate. -/
namespace Ev
open PySem L2 PyProof.Rows

/-! ### a list or a tuple -/
def SqA (K : PySem.W.Frag) (k : Bool) (H : Hp) (a : Addr) (xs : List V) : Prop := match k with
  | true => SqL K H a xs
  | false => SqT K H a xs
def ItA (k : Bool) (h : Heap) (it l : Addr) (i : Nat) : Prop := match k with
  | true => h.IsListIter it l i
  | false => h.IsTupleIter it l i
def IsA (k : Bool) (h : Heap) (l : Addr) (items : Array Value) : Prop := match k with
  | true => h.IsList l items
  | false => h.IsTuple l items
def itO (k : Bool) (l : Addr) : Obj := match k with
  | true => { cls := .type "list_iterator", data := .fields #[.ref l, .int 0 0] }
  | false => { cls := .type "tuple_iterator", data := .fields #[.ref l, .int 0 0] }
theorem IsA.lt {k : Bool} {h : Heap} {l : Addr} {items : Array Value} (x : IsA k h l items) : l < h.objs.size := by
  cases k with
  | true => obtain ⟨_, e, _⟩ := x; exact Heap.lt_size e
  | false => obtain ⟨_, e, _⟩ := x; exact Heap.lt_size e
theorem ItA.keep {k : Bool} {h h' : Heap} {it l : Addr} {i : Nat} (x : ItA k h it l i) (e : ∀ o, h.get? it = some o → h'.get? it = some o) : ItA k h' it l i := by
  cases k with
  | true => obtain ⟨o, q, r⟩ := x; exact ⟨o, e o q, r⟩
  | false => obtain ⟨o, q, r⟩ := x; exact ⟨o, e o q, r⟩
theorem ItA.at0 {k : Bool} {h : Heap} {it l : Addr} (e : h.get? it = some (itO k l)) : ItA k h it l 0 := by
  cases k with
  | true => exact ⟨_, e, rfl, rfl⟩
  | false => exact ⟨_, e, rfl, rfl⟩
theorem ItA.ob {k : Bool} {h : Heap} {it l : Addr} {i : Nat} (x : ItA k h it l i) : ∃ o, h.get? it = some o ∧ ∀ v, o.data ≠ .cell v := by
  cases k with
  | true => obtain ⟨o, q, c, d⟩ := x; exact ⟨o, q, fun v z => by rw [d] at z; cases z⟩
  | false => obtain ⟨o, q, c, d⟩ := x; exact ⟨o, q, fun v z => by rw [d] at z; cases z⟩
theorem drawsA {prog : Program} {w : World} {A : Around} (k : Bool) (hh : A.handled = none) (it l : Addr) (hne : l ≠ it) (items : Array Value) :
    Draws prog w A it [it, l] items.size (fun i v => items[i]? = some v) (fun i h => ItA k h it l i ∧ IsA k h l items) := by
  cases k with
  | true => exact Draws.list hh it l hne items
  | false => exact Draws.tuple hh it l hne items
theorem beginsA (k : Bool) (l : Addr) (items : Array Value) : Begins (.ref l) (itO k l) fun h => IsA k h l items := by
  cases k with
  | true => exact begins_list l items
  | false => exact begins_tuple l items
section
variable {X : Cx} {pins : List (Addr × Obj)} {σ : L2.St} {H : Hp} {s : Shared}
theorem seqA (I : Inv X pins σ H s) {k : Bool} {a : Addr} {xs : List V} (h : SqA X.K k H a xs) : ∃ its : List Value, Vals xs its ∧ IsA k s.heap a its.toArray := by
  cases k with
  | true => obtain ⟨its, r, p, _⟩ := I.list h; exact ⟨its, r, p.isList⟩
  | false => obtain ⟨its, r, p, _⟩ := I.tuple h; exact ⟨its, r, p⟩
theorem sameA (I : Inv X pins σ H s) {k : Bool} {a : Addr} {xs ys : List V} (h : SqA X.K k H a xs) (g : SqA X.K k H a ys) : xs = ys := by
  cases k with
  | true => exact I.list_inj h g
  | false => exact I.tuple_inj h g
end

/-! ### zip -/
def ItZ (K : PySem.W.Frag) (ka kb : Bool) (a b : Addr) : It :=
  ⟨fun i H => ∃ (xs ys : List V) (x y : V), SqA K ka H a xs ∧ SqA K kb H b ys ∧ xs[i]? = some x ∧ ys[i]? = some y,
    fun i H v H' => ∃ T x y, v = .ref T ∧ H T = none ∧ H' = upd H T (.tup [x, y]) ∧ (∀ xs, SqA K ka H a xs → xs[i]? = some x) ∧ ∀ ys, SqA K kb H b ys → ys[i]? = some y,
    fun i H => ∃ xs ys : List V, SqA K ka H a xs ∧ SqA K kb H b ys ∧ min xs.length ys.length = i⟩
def zipT (z TI TO i1 i2 a b : Addr) (ka kb : Bool) (i : Nat) (h : Heap) : Prop := IsZip h z TI TO .none ∧ IsTupOf2 h TI (.ref i1) (.ref i2) ∧ (∃ u v, IsTupOf2 h TO u v) ∧ ItA ka h i1 a i ∧ ItA kb h i2 b i
theorem turn_zipG {P : Program} {w : World} {K : PySem.W.Frag} {elts : List Expr} {kk : Nat} {tpos : Pos} {ka kb : Bool} {a b z TI TO i1 i2 : Addr} (Z : ZipSep2 z TI TO i1 i2 [i1, a] [i2, b]) (ha : a ≠ i1) (hb : b ≠ i2) :
    Turn P w K (.Tuple elts kk tpos) (ItZ K ka kb a b) [z, TI, TO, i1, i2] z (zipT z TI TO i1 i2 a b ka kb) where
  mem := by simp
  obj := fun i h st c hc => by
    obtain ⟨hz, hTI, ⟨u, v, hTO⟩, h1, h2⟩ := st
    have e' : c = z ∨ c = TI ∨ c = TO ∨ c = i1 ∨ c = i2 := by simpa using hc
    rcases e' with q | q | q | q | q <;> subst q
    · exact ⟨_, hz, fun v q => nomatch q⟩
    · exact ⟨_, hTI, fun v q => nomatch q⟩
    · exact ⟨_, hTO, fun v q => nomatch q⟩
    · exact h1.ob
    · exact h2.ob
  keep := fun i h h' st k => by
    obtain ⟨hz, hTI, ⟨u, v, hTO⟩, h1, h2⟩ := st
    exact ⟨k z (by simp) _ hz, k TI (by simp) _ hTI, ⟨u, v, k TO (by simp) _ hTO⟩, h1.keep fun o q => k i1 (by simp) o q, h2.keep fun o q => k i2 (by simp) o q⟩
  item := by
    intro X hP hw hK hc i pins s σ H E I hf st hg
    subst hP hw hK
    obtain ⟨xs, ys, x, y, hqx, hqy, hx, hy⟩ := hg
    obtain ⟨hz, hTI, hTO, h1, h2⟩ := st
    obtain ⟨its, rv, p1⟩ := seqA I hqx
    obtain ⟨its2, rv2, p2⟩ := seqA I hqy
    obtain ⟨u, hu, ru⟩ := rv.get hx
    obtain ⟨u2, hu2, ru2⟩ := rv2.get hy
    have l1 : i < its.length := (List.getElem?_eq_some_iff.mp hu).1
    have l2 : i < its2.length := (List.getElem?_eq_some_iff.mp hu2).1
    have W := WalksT.zipD2 (A := X.A) (prog := X.prog) (w := X.w) Z (drawsA (A := X.A.in1) ka (I.ok.hd hc) i1 a ha its.toArray) (drawsA (A := X.A.in1) kb (I.ok.hd hc) i2 b hb its2.toArray)
    have old : ∀ c ∈ [z, TI, TO, i1, i2], c < s.heap.objs.size := fun c hc => by
      have e' : c = z ∨ c = TI ∨ c = TO ∨ c = i1 ∨ c = i2 := by simpa using hc
      rcases e' with q | q | q | q | q <;> subst q
      · exact Heap.lt_size hz
      · exact Heap.lt_size hTI
      · obtain ⟨_, _, q⟩ := hTO; exact Heap.lt_size q
      · obtain ⟨_, q, _⟩ := h1.ob; exact Heap.lt_size q
      · obtain ⟨_, q, _⟩ := h2.ob; exact Heap.lt_size q
    refine W.item i s _ E (by simp; omega) ⟨hz, hTI, hTO, ⟨h1, p1⟩, ⟨h2, p2⟩⟩ fun T vals h' tk hP hT hTup hMid hk => ⟨_, rfl, ?_⟩
    refine W.go elts kk tpos i T { s with heap := h', toks := tk } _ E hMid fun h'' st'' hk'' => ?_
    obtain ⟨x1, x2, e1, e2, ev⟩ := hP
    have e1 : its[i]? = some x1 := by simpa using e1
    have e2 : its2[i]? = some x2 := by simpa using e2
    rw [hu] at e1; cases e1
    rw [hu2] at e2; cases e2
    subst ev
    have kk : ∀ c o, c ∉ [z, TI, TO, i1, i2] → s.heap.get? c = some o → h''.get? c = some o := fun c o hb q =>
      hk'' c o (fun q' => hb (by simp at q' ⊢; rcases q' with q' | q' | q' | q' <;> simp [q'])) (hk c o (fun q' => hb (by simp at q' ⊢; rcases q' with q' | q' | q' | q' <;> simp [q'])) q)
    have hT2 : h''.IsTuple T #[u, u2] := by
      obtain ⟨o, q1, q2⟩ := hTup
      exact ⟨o, hk'' T o (W.apart i T _ hMid) q1, q2⟩
    have new : ObjOk X.prog X.w (upd H T (.tup [x, y])) h'' T (.tup [x, y]) := ⟨by show 2 ≤ sizeLine; decide, [u, u2], .cons ru (.cons ru2 .nil), hT2⟩
    have I1 : Inv X pins σ (upd H T (.tup [x, y])) { s with heap := h'', toks := tk } := I.turnedNew (ch := [z, TI, TO, i1, i2]) kk hf hT new
    obtain ⟨z'', TI'', TO'', ⟨i1'', _⟩, ⟨i2'', _⟩⟩ := st''
    refine ⟨.ref T, _, I1, rfl, ⟨T, x, y, rfl, I.hok.fresh hT, rfl, fun l hl => by rw [sameA I hl hqx]; exact hx, fun l hl => by rw [sameA I hl hqy]; exact hy⟩, ⟨z'', TI'', TO'', i1'', i2''⟩, fun c hcm => ?_⟩
    rw [upd_ne (Nat.ne_of_lt (Nat.lt_of_lt_of_le (old c hcm) hT))]
    exact (hf c hcm).1
  done := by
    intro X hP hw hK hc i pins s σ H E I hf st hg
    subst hP hw hK
    obtain ⟨xs, ys, hqx, hqy, hend⟩ := hg
    obtain ⟨hz, hTI, hTO, h1, h2⟩ := st
    obtain ⟨its, rv, p1⟩ := seqA I hqx
    obtain ⟨its2, rv2, p2⟩ := seqA I hqy
    have l1 := rv.length
    have l2 := rv2.length
    have W := WalksT.zipD2 (A := X.A) (prog := X.prog) (w := X.w) Z (drawsA (A := X.A.in1) ka (I.ok.hd hc) i1 a ha its.toArray) (drawsA (A := X.A.in1) kb (I.ok.hd hc) i2 b hb its2.toArray)
    have en : min its.toArray.size its2.toArray.size = i := by simp; omega
    refine W.done s _ E (by rw [en]; exact ⟨hz, hTI, hTO, ⟨h1, p1⟩, ⟨h2, p2⟩⟩) fun h' tk hk => ⟨rfl, I.turnedL (ch := [z, TI, TO, i1, i2]) (fun c o hb q => hk c o (fun q' => hb (by simp at q' ⊢; rcases q' with q' | q' | q' | q' <;> simp [q'])) q) hf⟩
  self := fun A i s Q E st h => wpAny_pyIter_zip st.1 h
theorem one_lt {a : Addr} {n : Nat} (h : a < n) : ∀ c ∈ [a], c < n := fun c hc => (List.mem_singleton.mp hc) ▸ h
def iZipG (K : PySem.W.Frag) (ta : TA) : TI := fun σ H R => ta σ H fun vs H1 => ∃ a b xs ys ka kb, vs = [.ref a, .ref b] ∧ SqA K ka H1 a xs ∧ SqA K kb H1 b ys ∧ R (ItZ K ka kb a b) H1
theorem pi_zipG {X : Cx} {e e2 : Expr} {ta : TA} {p pos tpos : Pos} {elts : List Expr} {kk : Nat} (hg : Gl X "zip") (hm : X.mg "zip" = none) (ha : PA X [e, e2] ta)
    (hs : starEach [e, e2] X.env = (false, eval e X.env) :: starEach [e2] X.env) (hpl : (backTo pos (starEach [e2] X.env)).any (·.1) = false) :
    PI X (.Tuple elts kk tpos) (.Call (.Name "zip" p) [e, e2] [] pos) (iZipG X.K ta) := by
  refine ⟨fun pins s σ H R I h => ?_⟩
  refine Call_ (ld_blt I hg hm PyProof.Rows.boot_zip (PyProof.Rows.callWith_type1 (thn (ha.run pos pins s σ H _ I h) fun us s1 ⟨vs, H1, I1, r1, q1⟩ => ?_) hs hpl))
  obtain ⟨a, b, xs, ys, ka, kb, ex, hqx, hqy, q⟩ := q1
  subst ex
  cases r1 with
  | cons r rr =>
    cases rr with
    | cons r' rr =>
      cases rr; cases r; cases r'
      obtain ⟨its, rv, p1⟩ := seqA I1 hqx
      obtain ⟨its2, rv2, p2⟩ := seqA I1 hqy
      refine zip_begins2 (beginsA ka a its.toArray) (beginsA kb b its2.toArray) p1 p2 fun h' hz hTI hTO g1 g2 hsz hk => wpAny_pyIter_zip hz ?_
      have I2 : Inv X pins σ H1 { s1 with heap := h' } := I1.kept (t' := s1.toks) hk
      have Z := zip_sep2 (N := s1.heap.objs.size) (fp1 := [a]) (fp2 := [b]) (one_lt p1.lt) (one_lt p2.lt)
      refine ⟨s1.heap.objs.size + 4, [s1.heap.objs.size + 4, s1.heap.objs.size + 2, s1.heap.objs.size + 3, s1.heap.objs.size, s1.heap.objs.size + 1], _, _, H1, rfl, I2,
        turn_zipG Z (Nat.ne_of_lt p1.lt) (Nat.ne_of_lt (Nat.lt_succ_of_lt p2.lt)), ⟨hz, hTI, ⟨_, _, hTO⟩, ItA.at0 g1, ItA.at0 g2⟩, fun c hcm => ?_, q⟩
      have e' : c = s1.heap.objs.size + 4 ∨ c = s1.heap.objs.size + 2 ∨ c = s1.heap.objs.size + 3 ∨ c = s1.heap.objs.size ∨ c = s1.heap.objs.size + 1 := by simpa using hcm
      have hle : s1.heap.objs.size ≤ c := by
        rcases e' with z | z | z | z | z <;> rw [z] <;> first | exact Nat.le_refl _ | exact Nat.le_add_right _ _
      exact I1.fpOk hle (I1.hok.fresh hle)

/-! ### enumerate -/
def ItE (K : PySem.W.Frag) (k : Bool) (a : Addr) : It :=
  ⟨fun i H => ∃ (xs : List V) (x : V), SqA K k H a xs ∧ xs[i]? = some x,
    fun i H v H' => ∃ T x, v = .ref T ∧ H T = none ∧ H' = upd H T (.tup [.int (i : Nat), x]) ∧ ∀ xs, SqA K k H a xs → xs[i]? = some x,
    fun i H => ∃ xs : List V, SqA K k H a xs ∧ xs.length = i⟩
theorem two_ne {a b c : Addr} (h : a ≠ b) (g : a ≠ c) : a ∉ [b, c] := fun z => (List.mem_cons.mp z).elim h fun z => g (List.mem_singleton.mp z)
theorem turn_enumG {P : Program} {w : World} {K : PySem.W.Frag} {elts : List Expr} {kk : Nat} {tpos : Pos} {k : Bool} {a e it : Addr} (hei : e ≠ it) (hea : e ≠ a) (ha : a ≠ it) :
    Turn P w K (.Tuple elts kk tpos) (ItE K k a) [e, it] e (fun i h => (∃ old, IsEnum h e it ((i : Nat) : Int) old) ∧ ItA k h it a i) where
  mem := by simp
  obj := fun i h st c hc => by
    obtain ⟨⟨old, he⟩, h1⟩ := st
    have e' : c = e ∨ c = it := by simpa using hc
    rcases e' with q | q <;> subst q
    · exact ⟨_, he, fun v q => nomatch q⟩
    · exact h1.ob
  keep := fun i h h' st k => by
    obtain ⟨⟨old, he⟩, h1⟩ := st
    exact ⟨⟨old, k e (by simp) _ he⟩, h1.keep fun o q => k it (by simp) o q⟩
  item := by
    intro X hP hw hK hc i pins s σ H E I hf st hg
    subst hP hw hK
    obtain ⟨xs, x, hqx, hx⟩ := hg
    obtain ⟨he, h1⟩ := st
    obtain ⟨its, rv, p1⟩ := seqA I hqx
    obtain ⟨u, hu, ru⟩ := rv.get hx
    have l1 : i < its.length := (List.getElem?_eq_some_iff.mp hu).1
    have W := WalksT.enumerateD (A := X.A) (prog := X.prog) (w := X.w) (drawsA (A := X.A.in1) k (I.ok.hd hc) it a ha its.toArray) e hei (two_ne hei hea) List.mem_cons_self
    have old : ∀ c ∈ [e, it], c < s.heap.objs.size := fun c hc => by
      have e' : c = e ∨ c = it := by simpa using hc
      rcases e' with q | q <;> subst q
      · obtain ⟨_, q⟩ := he; exact Heap.lt_size q
      · obtain ⟨_, q, _⟩ := h1.ob; exact Heap.lt_size q
    refine W.item i s _ E (by simpa using l1) ⟨he, ⟨h1, p1⟩⟩ fun T vals h' tk hP hT hTup hMid hk => ⟨_, rfl, ?_⟩
    refine W.go elts kk tpos i T { s with heap := h', toks := tk } _ E hMid fun h'' st'' hk'' => ?_
    obtain ⟨t, x1, e1, ev⟩ := hP
    have e1 : its[i]? = some x1 := by simpa using e1
    rw [hu] at e1; cases e1
    subst ev
    have kk : ∀ c o, c ∉ [e, it] → s.heap.get? c = some o → h''.get? c = some o := fun c o hb q => hk'' c o hb (hk c o hb q)
    have hT2 : h''.IsTuple T #[.int i t, u] := by
      obtain ⟨o, q1, q2⟩ := hTup
      exact ⟨o, hk'' T o (W.apart i T _ hMid) q1, q2⟩
    have new : ObjOk X.prog X.w (upd H T (.tup [.int (i : Nat), x])) h'' T (.tup [.int (i : Nat), x]) := ⟨by show 2 ≤ sizeLine; decide, [.int i t, u], .cons ⟨t, rfl⟩ (.cons ru .nil), hT2⟩
    have I1 : Inv X pins σ (upd H T (.tup [.int (i : Nat), x])) { s with heap := h'', toks := tk } := I.turnedNew (ch := [e, it]) kk hf hT new
    obtain ⟨e'', ⟨i1'', _⟩⟩ := st''
    refine ⟨.ref T, _, I1, rfl, ⟨T, x, rfl, I.hok.fresh hT, rfl, fun l hl => by rw [sameA I hl hqx]; exact hx⟩, ⟨e'', i1''⟩, fun c hcm => ?_⟩
    rw [upd_ne (Nat.ne_of_lt (Nat.lt_of_lt_of_le (old c hcm) hT))]
    exact (hf c hcm).1
  done := by
    intro X hP hw hK hc i pins s σ H E I hf st hg
    subst hP hw hK
    obtain ⟨xs, hqx, hend⟩ := hg
    obtain ⟨he, h1⟩ := st
    obtain ⟨its, rv, p1⟩ := seqA I hqx
    have l1 := rv.length
    have W := WalksT.enumerateD (A := X.A) (prog := X.prog) (w := X.w) (drawsA (A := X.A.in1) k (I.ok.hd hc) it a ha its.toArray) e hei (two_ne hei hea) List.mem_cons_self
    have en : its.toArray.size = i := by simp; omega
    refine W.done s _ E (by rw [en]; exact ⟨he, ⟨h1, p1⟩⟩) fun h' tk hk => ⟨rfl, I.turnedL (ch := [e, it]) hk hf⟩
  self := fun A i s Q E st h => let ⟨⟨_, he⟩, _⟩ := st; wpAny_pyIter_enum he h
def iEnumG (K : PySem.W.Frag) (ta : TA) : TI := fun σ H R => ta σ H fun vs H1 => ∃ a xs k, vs = [.ref a] ∧ SqA K k H1 a xs ∧ R (ItE K k a) H1
theorem enum_new {v : Value} {o : Obj} {G : Heap → Prop} (B : Begins v o G) :
    Meets (Builtin.«enumerate.__new__» ⟨[.type "enumerate", v], []⟩) (fun _ R t => G t.heap ∧
      R (.ok (.ret (.ref (t.heap.push o).objs.size))) { t with heap := (t.heap.push o).push { cls := .type "enumerate", data := .fields #[.none, .bool false, .ref t.heap.objs.size, rawInt 0, .none, .none] } }) :=
  .of_wp fun prog w A R t h => by
    obtain ⟨hp, gs, dr, tk, os⟩ := t
    obtain ⟨h1, h⟩ := h
    have sb := sub_enumerate
    have it1 : ∀ {A' : Around} {E Q : Value → Shared → Prop}, Q (.ref hp.objs.size) ⟨hp.push o, gs, dr, tk, os⟩ → wpAny (model prog w) A' (pyIter v) Q E ⟨hp, gs, dr, tk, os⟩ :=
      fun z => B.iter prog w _ _ ⟨hp, gs, dr, tk, os⟩ _ h1 z
    wp_walk using it1
    refine wpAny_stack_any fun st => wpAny_pure ?_
    split
    · rename_i cl _ _ _ _ _
      cases (cl == Value.type "enumerate") <;> (wp_walk using it1; exact ⟨_, rfl, h⟩)
    · wp_walk using it1
      exact ⟨_, rfl, h⟩
theorem enum_start {prog : Program} {w : World} {A : Around} {E : Value → Shared → Prop} {s : Shared} {v : Value} {o : Obj} {G : Heap → Prop} {Q : Value → Shared → Prop} (B : Begins v o G) (h1 : G s.heap)
    (h : ∀ h', IsEnum h' (s.heap.objs.size + 1) s.heap.objs.size 0 .none → h'.get? s.heap.objs.size = some o → (∀ b u, s.heap.get? b = some u → h'.get? b = some u) → Q (.ref (s.heap.objs.size + 1)) { s with heap := h' }) :
    wpAny (model prog w) A (call (.type "enumerate") [v]) Q E s := by
  refine callType_new F.called_enumerate (by decide) (F.typeCall_enumerate_1 _) (F.newCall_enumerate_1 _) (fun ob => F.args_object_init_2 ob _) F.entry_enumerate_new (enum_new B) ⟨h1, ?_⟩
  have z1 : (s.heap.push o).objs.size = s.heap.objs.size + 1 := Heap.size_push ..
  show _ ∧ _
  rw [z1]
  have en : IsEnum ((s.heap.push o).push { cls := .type "enumerate", data := .fields #[.none, .bool false, .ref s.heap.objs.size, rawInt 0, .none, .none] }) (s.heap.objs.size + 1) s.heap.objs.size 0 .none := by
    have q := Heap.get?_push_size (s.heap.push o) (o := { cls := .type "enumerate", data := .fields #[.none, .bool false, .ref s.heap.objs.size, rawInt 0, .none, .none] }) rfl
    rw [z1] at q
    exact q
  exact ⟨⟨_, en, rfl⟩, h _ en (Heap.get?_push_of_some _ (Heap.get?_push_size _ B.free)) fun b u x => Heap.get?_push_of_some _ (Heap.get?_push_of_some _ x)⟩
theorem pi_enumG {X : Cx} {e : Expr} {ta : TA} {p pos tpos : Pos} {elts : List Expr} {kk : Nat} (hg : Gl X "enumerate") (hm : X.mg "enumerate" = none) (ha : PA X [e] ta)
    (hs : starEach [e] X.env = (false, eval e X.env) :: starEach [] X.env) : PI X (.Tuple elts kk tpos) (.Call (.Name "enumerate" p) [e] [] pos) (iEnumG X.K ta) := by
  refine ⟨fun pins s σ H R I h => ?_⟩
  refine Call_ (ld_blt I hg hm boot_enumerate (PyProof.Rows.callWith_type1 (thn (ha.run pos pins s σ H _ I h) fun us s1 ⟨vs, H1, I1, r1, q1⟩ => ?_) hs rfl))
  obtain ⟨a, xs, k, ex, hqx, q⟩ := q1
  subst ex
  cases r1 with
  | cons r rr =>
    cases rr; cases r
    obtain ⟨its, rv, p1⟩ := seqA I1 hqx
    refine enum_start (beginsA k a its.toArray) p1 fun h' he g1 hk => wpAny_pyIter_enum he ?_
    have I2 : Inv X pins σ H1 { s1 with heap := h' } := I1.kept (t' := s1.toks) hk
    refine ⟨s1.heap.objs.size + 1, [s1.heap.objs.size + 1, s1.heap.objs.size], _, _, H1, rfl, I2, turn_enumG (Nat.succ_ne_self _) (Nat.ne_of_gt (Nat.lt_succ_of_lt p1.lt)) (Nat.ne_of_lt p1.lt), ⟨⟨.none, he⟩, ItA.at0 g1⟩, fun c hcm => ?_, q⟩
    have hle : s1.heap.objs.size ≤ c := by
      rcases List.mem_cons.mp hcm with z | z
      · rw [z]; exact Nat.le_succ _
      · rw [List.mem_singleton.mp z]; exact Nat.le_refl _
    exact I1.fpOk hle (I1.hok.fresh hle)
/-! ### a list or a tuple itself -/
def iBoth (K : PySem.W.Frag) (tl : TE) : TI := fun σ H R => tl σ H fun x H1 => ∃ a xs, x = .ref a ∧ ((SqL K H1 a xs ∧ R (Itl K a) H1) ∨ (SqT K H1 a xs ∧ R (Itt K a) H1))
theorem pi_both {X : Cx} {tg l : Expr} {tl : TE} (hl : PE X l tl) : PI X tg l (iBoth X.K tl) := by
  refine ⟨fun pins s σ H R I h => ?_⟩
  refine thn (hl.run pins s σ H _ I h) fun v s1 ⟨x, H1, I1, r1, a, xs, ex, q⟩ => ?_
  subst ex
  cases r1
  have new : ∀ o, FpOk X pins H1 s1.heap.objs.size ∧ Inv X pins σ H1 { s1 with heap := s1.heap.push o } := fun o =>
    ⟨I1.fpOk (Nat.le_refl _) (I1.hok.fresh (Nat.le_refl _)), I1.kept (t' := s1.toks) fun b ob e => Heap.get?_push_of_some _ e⟩
  rcases q with ⟨hq, q⟩ | ⟨hq, q⟩
  · obtain ⟨its, _, p, _⟩ := I1.list hq
    exact wpAny_pyIter_list p.isList ⟨s1.heap.objs.size, [s1.heap.objs.size], _, _, H1, rfl, (new _).2, turn_list a _, ⟨_, Heap.get?_push_size _ rfl, rfl, rfl⟩, fun b hb => (List.mem_singleton.mp hb) ▸ (new default).1, q⟩
  · obtain ⟨its, _, p, _⟩ := I1.tuple hq
    exact wpAny_pyIter_tuple (show s1.heap.IsTuple a its.toArray from p) ⟨s1.heap.objs.size, [s1.heap.objs.size], _, _, H1, rfl, (new _).2, turn_tuple a _, ⟨_, Heap.get?_push_size _ rfl, rfl, rfl⟩, fun b hb => (List.mem_singleton.mp hb) ▸ (new default).1, q⟩
end Ev
/-! Ev, part G2: targets, sources, list comprehensions. -/
namespace Ev
open PySem L2 PyProof.Rows

/-! ### targets -/
inductive Tg where
  | nm (j : Nat)
  | tp (ts : List Tg)
mutual
def setT : Tg → D → Sl → Option Sl
  | .nm j, d, σ => some (lSet σ j (some d))
  | .tp ts, d, σ => match d with
    | .tup ds => setTs ts ds σ
    | _ => none
def setTs : List Tg → List D → Sl → Option Sl
  | [], ds, σ => match ds with
    | [] => some σ
    | _ :: _ => none
  | t :: ts, ds, σ => match ds with
    | [] => none
    | d :: ds => match setT t d σ with
      | some σ' => setTs ts ds σ'
      | none => none
end
mutual
def Tg.ix : Tg → List Nat
  | .nm j => [j]
  | .tp ts => Tg.ixs ts
def Tg.ixs : List Tg → List Nat
  | [] => []
  | t :: ts => t.ix ++ Tg.ixs ts
end
/-- only these places differ -/
def Only (js : List Nat) (τ τ' : L2.St) : Prop := τ'.length = τ.length ∧ ∀ i, i ∉ js → τ'[i]? = τ[i]?
theorem Only.refl (js : List Nat) (τ : L2.St) : Only js τ τ := ⟨rfl, fun _ _ => rfl⟩
theorem Only.trans {js ks : List Nat} {τ τ' τ'' : L2.St} (h : Only js τ τ') (g : Only ks τ' τ'') : Only (js ++ ks) τ τ'' :=
  ⟨g.1.trans h.1, fun i hi => (g.2 i fun z => hi (List.mem_append_right _ z)).trans (h.2 i fun z => hi (List.mem_append_left _ z))⟩
section
variable {K : PySem.W.Frag} {T : Ads}
theorem Rs.set {W : Wd} {σ : Sl} {τ : L2.St} {d : D} {v : V} (j : Nat) (h : Rs K T W σ τ) (r : Rv K T W d v) : Rs K T W (lSet σ j (some d)) (τ.set j (some v)) := by
  rw [lSet_eq]
  refine ⟨by rw [List.length_set, List.length_set]; exact h.1, fun i e q => ?_⟩
  by_cases z : j = i
  · subst z
    by_cases hj : j < σ.length
    · rw [List.getElem?_set_self hj] at q
      cases q
      exact ⟨v, by rw [List.getElem?_set_self (by rw [← h.1]; exact hj)], r⟩
    · rw [List.getElem?_eq_none (by rw [List.length_set]; omega)] at q; cases q
  · rw [List.getElem?_set_ne z] at q
    obtain ⟨w, a, b⟩ := h.2 i e q
    exact ⟨w, by rw [List.getElem?_set_ne z]; exact a, b⟩
def tG (K : PySem.W.Frag) (T : Ads) (g : Tg) : TG := fun v τ H Q => ∃ W d σ S σ', Rs K T W σ τ ∧ Rv K T W d v ∧ Rh K T W S H ∧ setT g d σ = some σ' ∧ ∀ τ', Rs K T W σ' τ' → Only g.ix τ τ' → Q τ' H
def tGs (K : PySem.W.Frag) (T : Ads) (gs : List Tg) : TGs := fun vs τ H Q => ∃ W ds σ S σ', Rs K T W σ τ ∧ Rvs K T W ds vs ∧ Rh K T W S H ∧ setTs gs ds σ = some σ' ∧ ∀ τ', Rs K T W σ' τ' → Only (Tg.ixs gs) τ τ' → Q τ' H
theorem setTs_len : ∀ {gs : List Tg} {ds : List D} {σ σ' : Sl}, setTs gs ds σ = some σ' → ds.length = gs.length
  | [], [], _, _, _ => rfl
  | [], _ :: _, _, _, h => by simp [setTs] at h
  | _ :: _, [], _, _, h => by simp [setTs] at h
  | g :: gs, d :: ds, σ, σ', h => by
    simp only [setTs] at h
    cases q : setT g d σ with
    | none => rw [q] at h; cases h
    | some σ1 => rw [q] at h; rw [List.length_cons, List.length_cons, setTs_len h]
end
section
variable {X : Cx} {T : Ads}
theorem PG.weak {e : Expr} {t t' : TG} (h : PG X e t) (k : ∀ v τ H Q, t' v τ H Q → t v τ H Q) : PG X e t' := ⟨fun pins s σ H v u Q I r q => h.run pins s σ H v u Q I r (k v σ H Q q)⟩
theorem PGs.weak {e : List Expr} {t t' : TGs} (h : PGs X e t) (k : ∀ v τ H Q, t' v τ H Q → t v τ H Q) : PGs X e t' := ⟨fun pins s σ H v u Q I r q => h.run pins s σ H v u Q I r (k v σ H Q q)⟩
theorem g_name {i : Nat} {x : Str} {pos : Pos} (hN : X.N.Nodup) (hi : X.N[i]? = some x) (hx : Loc X.env.scope x) (hf : X.fn x = true ∨ X.env.scope.names.lookup x = some .local) : PG X (.Name x pos) (tG X.K T (.nm i)) :=
  PG.weak (pg_name hN hi hx hf) fun v τ H Q ⟨W, d, σ, S, σ', rs, rv, rh, e, k⟩ => by
    simp only [setT] at e
    cases e
    exact k _ (rs.set i rv) ⟨by rw [List.length_set], fun j hj => by
      have : i ≠ j := fun z => hj (by simp [Tg.ix, z])
      rw [List.getElem?_set_ne this]⟩
theorem gs_nil : PGs X [] (tGs X.K T []) := PGs.weak pgs_nil fun vs τ H Q ⟨W, ds, σ, S, σ', rs, rv, rh, e, k⟩ => by
  have := setTs_len e
  cases ds with
  | cons _ _ => simp at this
  | nil => cases rv; simp only [setTs] at e; cases e; exact ⟨rfl, k τ rs (Only.refl _ _)⟩
theorem gs_cons {e : Expr} {es : List Expr} {t : Tg} {ts : List Tg} (h1 : PG X e (tG X.K T t)) (h2 : PGs X es (tGs X.K T ts)) (hs : (assignEach (e :: es) X.env).map (·.2) = assign e X.env :: (assignEach es X.env).map (·.2)) :
    PGs X (e :: es) (tGs X.K T (t :: ts)) := PGs.weak (pgs_cons h1 h2 hs) fun vs τ H Q ⟨W, ds, σ, S, σ', rs, rv, rh, e, k⟩ => by
  cases ds with
  | nil => simp [setTs] at e
  | cons d ds =>
    obtain ⟨v, r, ev, h1, h2⟩ := rv
    simp only [setTs] at e
    cases q : setT t d σ with
    | none => rw [q] at e; cases e
    | some σ1 =>
      rw [q] at e
      exact ⟨v, r, ev, W, d, σ, S, σ1, rs, h1, rh, q, fun τ1 rs1 o1 => ⟨W, ds, σ1, S, σ', rs1, h2, rh, e, fun τ2 rs2 o2 => k τ2 rs2 (o1.trans o2)⟩⟩
theorem g_tup {es : List Expr} {k : Nat} {ts : List Tg} {pos : Pos} (hc : X.calm = true) (h : PGs X es (tGs X.K T ts)) (hn : (assignEach es X.env).length = ts.length) (hst : (assignEach es X.env).findIdx? (·.1) = none) :
    PG X (.Tuple es k pos) (tG X.K T (.tp ts)) := PG.weak (pg_tup hc h hn hst) fun v τ H Q ⟨W, d, σ, S, σ', rs, rv, rh, e, q⟩ => by
  cases d with
  | tup ds =>
    simp only [setT] at e
    obtain ⟨a, vs, rfl, hq, r⟩ := rv
    exact ⟨a, vs, rfl, SqT.up rh.sub hq, by rw [r.len]; exact setTs_len e, W, ds, σ, S, σ', rs, r, rh, e, q⟩
  | _ => simp [setT] at e
end

/-! ### sources -/
inductive Src where
  | one (d : D)
  | rng (lo : Int) (n : Nat)
  | zip (a b : D)
  | enm (d : D)
inductive RI where
  | ok (s : Src) (S : Sto)
  | exc (c : Nat) (v : D) (S : Sto)
  | bad
def endAt (n i : Nat) : Option (Option D) := match Nat.beq n i with
  | true => some none
  | false => none
def Src.at (S : Sto) (i : Nat) : Src → Option (Option D)
  | .one d => match seqOf S d with
    | some xs => some (lGet xs i)
    | none => none
  | .rng lo n => match Nat.blt i n with
    | true => some (some (iForce (Int.add lo (.ofNat i)) .int))
    | false => some none
  | .zip a b => match seqOf S a with
    | some xs => match seqOf S b with
      | some ys => match lGet xs i with
        | some x => match lGet ys i with
          | some y => some (some (.tup [x, y]))
          | none => endAt (Nat.min xs.length ys.length) i
        | none => endAt (Nat.min xs.length ys.length) i
      | none => none
    | none => none
  | .enm d => match seqOf S d with
    | some xs => match lGet xs i with
      | some x => some (some (.tup [.int (.ofNat i), x]))
      | none => endAt xs.length i
    | none => none
theorem endAt_none {n i : Nat} {d : D} : endAt n i ≠ some (some d) := fun h => by
  unfold endAt at h; cases q : Nat.beq n i <;> rw [q] at h <;> cases h
theorem endAt_some {n i : Nat} (h : endAt n i = some none) : n = i := by
  unfold endAt at h
  cases q : Nat.beq n i with
  | true => exact Nat.eq_of_beq_eq_true q
  | false => rw [q] at h; cases h
abbrev C1I := Sl → Sto → RI
section
variable (K : PySem.W.Frag) (T : Ads)
structure ItOk (U : Wd) (s : Src) (J : It) : Prop where
  go : ∀ V S H i d, U.Le V → Rh K T V S H → s.at S i = some (some d) → J.go i H ∧ ∀ x H', J.yld i H x H' → ∃ V', V.Le V' ∧ Rh K T V' S H' ∧ Rv K T V' d x
  stop : ∀ V S H i, U.Le V → Rh K T V S H → s.at S i = some none → J.stop i H
def PostI (W : Wd) (r : RI) (R : It → Hp → Prop) (E : XK) : Prop := match r with
  | .ok s S => ∀ (U : Wd) (H : Hp) (J : It), W.Le U → Rh K T U S H → ItOk K T U s J → R J H
  | .exc c x S => ∀ (U : Wd) (H : Hp) (cls : Value) (p : Option Addr), W.Le U → Rh K T U S H → Rx K T U H c x cls p → E cls p H
  | .bad => False
def tI (Wx : WX) (c : C1I) : TI := fun τ H R => ∃ W σ S, Rs K T W σ τ ∧ Rh K T W S H ∧ PostI K T W (c σ S) R (fun cls p H' => Wx cls p τ H')
end
section
variable {K : PySem.W.Frag} {T : Ads} {U : Wd}
/-- what is a tuple, what a list -/
def isT : D → Bool
  | .tup _ => true
  | _ => false
theorem seq_kind {V : Wd} {S : Sto} {H : Hp} {d : D} {v : L2.V} {xs : List D} (h : Rh K T V S H) (r : Rv K T V d v) (e : seqOf S d = some xs) : ∃ a vs, v = .ref a ∧ Rvs K T V xs vs ∧ SqA K (!isT d) H a vs := by
  cases d with
  | tup ds => cases e; obtain ⟨a, vs, rfl, q, r⟩ := r; exact ⟨a, vs, rfl, r, SqT.up h.sub q⟩
  | lis ds => exact lsq_at h r e
  | scr ds => exact lsq_at h r e
  | loc l => exact lsq_at h r e
  | _ => cases e
theorem Rv.one {W : Wd} {d : D} {a b : L2.V} {S : Sto} {xs : List D} (e : seqOf S d = some xs) (r : Rv K T W d a) (g : Rv K T W d b) (h : ∃ p, b = .ref p) : ∃ p, a = .ref p := by
  cases d with
  | tup ds => obtain ⟨p, _, q, _⟩ := r; exact ⟨p, q⟩
  | lis ds => obtain ⟨p, _, q, _⟩ := r; exact ⟨p, q⟩
  | scr ds => obtain ⟨p, _, q, _⟩ := r; exact ⟨p, q⟩
  | loc l => obtain ⟨p, q, _⟩ := r; exact ⟨p, q⟩
  | _ => cases e
/-- over a list or a tuple -/
theorem it_seq {d : D} {a : Addr} (r : Rv K T U d (.ref a)) : ItOk K T U (.one d) (match isT d with | true => Itt K a | false => Itl K a) := by
  have key : ∀ V S H xs, U.Le V → Rh K T V S H → seqOf S d = some xs → ∃ vs, Rvs K T V xs vs ∧ SqA K (!isT d) H a vs := fun V S H xs le rh e => by
    obtain ⟨b, vs, e1, r1, q⟩ := seq_kind rh (Rv.up le d _ r) e
    cases e1
    exact ⟨vs, r1, q⟩
  refine ⟨fun V S H i x le rh e => ?_, fun V S H i le rh e => ?_⟩
  · have e' : (match seqOf S d with | some xs => some (lGet xs i) | none => none) = some (some x) := e
    cases q : seqOf S d with
    | none => rw [q] at e'; cases e'
    | some xs =>
      rw [q] at e'
      have e' : lGet xs i = some x := Option.some.inj e'
      rw [lGet_eq] at e'
      obtain ⟨vs, r1, hq⟩ := key V S H xs le rh q
      obtain ⟨w, g1, g2⟩ := r1.get e'
      cases k : isT d with
      | true =>
        rw [k] at hq
        exact ⟨⟨vs, w, hq, g1⟩, fun y H' ⟨e1, e2⟩ => ⟨V, Wd.Le.refl V, e1 ▸ rh, by have := (e2 vs hq).symm.trans g1; cases this; exact g2⟩⟩
      | false =>
        rw [k] at hq
        exact ⟨⟨vs, w, hq, g1⟩, fun y H' ⟨e1, e2⟩ => ⟨V, Wd.Le.refl V, e1 ▸ rh, by have := (e2 vs hq).symm.trans g1; cases this; exact g2⟩⟩
  · have e' : (match seqOf S d with | some xs => some (lGet xs i) | none => none) = some none := e
    cases q : seqOf S d with
    | none => rw [q] at e'; cases e'
    | some xs =>
      rw [q] at e'
      have e' : lGet xs i = none := Option.some.inj e'
      rw [lGet_eq] at e'
      obtain ⟨vs, r1, hq⟩ := key V S H xs le rh q
      have hl : vs.length ≤ i := by rw [r1.len]; exact List.getElem?_eq_none_iff.mp e'
      cases k : isT d with
      | true => rw [k] at hq; exact ⟨vs, hq, hl⟩
      | false => rw [k] at hq; exact ⟨vs, hq, hl⟩
theorem it_rng {lo : Int} {n : Nat} : ItOk K T U (.rng lo n) (Itr lo n) := by
  refine ⟨fun V S H i x le rh e => ?_, fun V S H i le rh e => ?_⟩
  · have e' : (match Nat.blt i n with | true => some (some (iForce (Int.add lo (.ofNat i)) D.int)) | false => some none) = some (some x) := e
    rw [blt_dec, iForce_eq] at e'
    by_cases h : i < n
    · rw [decide_eq_true h] at e'
      cases e'
      exact ⟨h, fun y H' ⟨e1, e2⟩ => ⟨V, Wd.Le.refl V, e1 ▸ rh, e2⟩⟩
    · rw [decide_eq_false h] at e'; cases e'
  · have e' : (match Nat.blt i n with | true => some (some (iForce (Int.add lo (.ofNat i)) D.int)) | false => some none) = some none := e
    rw [blt_dec] at e'
    by_cases h : i < n
    · rw [decide_eq_true h] at e'; cases e'
    · exact Nat.le_of_not_lt h
theorem it_zip {d e : D} {a b : Addr} (r : Rv K T U d (.ref a)) (g : Rv K T U e (.ref b)) : ItOk K T U (.zip d e) (ItZ K (!isT d) (!isT e) a b) := by
  have key : ∀ V S H d a xs, Rv K T U d (.ref a) → U.Le V → Rh K T V S H → seqOf S d = some xs → ∃ vs, Rvs K T V xs vs ∧ SqA K (!isT d) H a vs := fun V S H d a xs r le rh e => by
    obtain ⟨b, vs, e1, r1, q⟩ := seq_kind rh (Rv.up le d _ r) e
    cases e1
    exact ⟨vs, r1, q⟩
  have un : ∀ S i, (Src.zip d e).at S i = (match seqOf S d with
    | some xs => match seqOf S e with
      | some ys => match lGet xs i with
        | some x => match lGet ys i with
          | some y => some (some (.tup [x, y]))
          | none => endAt (Nat.min xs.length ys.length) i
        | none => endAt (Nat.min xs.length ys.length) i
      | none => none
    | none => none) := fun _ _ => rfl
  refine ⟨fun V S H i x le rh h => ?_, fun V S H i le rh h => ?_⟩
  · rw [un] at h
    cases q1 : seqOf S d with
    | none => rw [q1] at h; cases h
    | some xs =>
      cases q2 : seqOf S e with
      | none => rw [q1, q2] at h; cases h
      | some ys =>
        simp only [q1, q2] at h
        cases h1 : lGet xs i with
        | none => rw [h1] at h; exact absurd h endAt_none
        | some x1 =>
          simp only [h1] at h
          cases h2 : lGet ys i with
          | none => rw [h2] at h; exact absurd h endAt_none
          | some y1 =>
            simp only [h2] at h
            cases h
            rw [lGet_eq] at h1 h2
            obtain ⟨vs, r1, hq⟩ := key V S H d a xs r le rh q1
            obtain ⟨ws, r2, hq2⟩ := key V S H e b ys g le rh q2
            obtain ⟨w1, g1, g2⟩ := r1.get h1
            obtain ⟨w2, g3, g4⟩ := r2.get h2
            refine ⟨⟨vs, ws, w1, w2, hq, hq2, g1, g3⟩, fun y H' ⟨p, u1, u2, e1, e2, e3, e4, e5⟩ => ?_⟩
            have z1 := (e4 vs hq).symm.trans g1
            have z2 := (e5 ws hq2).symm.trans g3
            cases z1; cases z2
            subst e1 e3
            obtain ⟨le2, rh2⟩ := rh.lay (.tup [w1, w2]) e2
            exact ⟨_, le2, rh2, p, [w1, w2], rfl, .inl (.inl upd_same), w1, [w2], rfl, Rv.up le2 _ _ g2, w2, [], rfl, Rv.up le2 _ _ g4, rfl⟩
  · rw [un] at h
    cases q1 : seqOf S d with
    | none => rw [q1] at h; cases h
    | some xs =>
      cases q2 : seqOf S e with
      | none => rw [q1, q2] at h; cases h
      | some ys =>
        simp only [q1, q2] at h
        obtain ⟨vs, r1, hq⟩ := key V S H d a xs r le rh q1
        obtain ⟨ws, r2, hq2⟩ := key V S H e b ys g le rh q2
        have fin : endAt (Nat.min xs.length ys.length) i = some none → (ItZ K (!isT d) (!isT e) a b).stop i H := fun z => ⟨vs, ws, hq, hq2, by rw [r1.len, r2.len]; exact endAt_some z⟩
        cases h1 : lGet xs i with
        | none => rw [h1] at h; exact fin h
        | some x1 =>
          simp only [h1] at h
          cases h2 : lGet ys i with
          | none => rw [h2] at h; exact fin h
          | some y1 => simp only [h2] at h; cases h
theorem it_enm {d : D} {a : Addr} (r : Rv K T U d (.ref a)) : ItOk K T U (.enm d) (ItE K (!isT d) a) := by
  have key : ∀ V S H xs, U.Le V → Rh K T V S H → seqOf S d = some xs → ∃ vs, Rvs K T V xs vs ∧ SqA K (!isT d) H a vs := fun V S H xs le rh e => by
    obtain ⟨b, vs, e1, r1, q⟩ := seq_kind rh (Rv.up le d _ r) e
    cases e1
    exact ⟨vs, r1, q⟩
  have un : ∀ S i, (Src.enm d).at S i = (match seqOf S d with
    | some xs => match lGet xs i with
      | some x => some (some (.tup [.int (.ofNat i), x]))
      | none => endAt xs.length i
    | none => none) := fun _ _ => rfl
  refine ⟨fun V S H i x le rh h => ?_, fun V S H i le rh h => ?_⟩
  · rw [un] at h
    cases q1 : seqOf S d with
    | none => rw [q1] at h; cases h
    | some xs =>
      simp only [q1] at h
      cases h1 : lGet xs i with
      | none => rw [h1] at h; exact absurd h endAt_none
      | some x1 =>
        simp only [h1] at h
        cases h
        rw [lGet_eq] at h1
        obtain ⟨vs, r1, hq⟩ := key V S H xs le rh q1
        obtain ⟨w1, g1, g2⟩ := r1.get h1
        refine ⟨⟨vs, w1, hq, g1⟩, fun y H' ⟨p, u1, e1, e2, e3, e4⟩ => ?_⟩
        have z1 := (e4 vs hq).symm.trans g1
        cases z1
        subst e1 e3
        obtain ⟨le2, rh2⟩ := rh.lay (.tup [.int (i : Nat), w1]) e2
        exact ⟨_, le2, rh2, p, [.int (i : Nat), w1], rfl, .inl (.inl upd_same), _, [w1], rfl, rfl, w1, [], rfl, Rv.up le2 _ _ g2, rfl⟩
  · rw [un] at h
    cases q1 : seqOf S d with
    | none => rw [q1] at h; cases h
    | some xs =>
      simp only [q1] at h
      obtain ⟨vs, r1, hq⟩ := key V S H xs le rh q1
      cases h1 : lGet xs i with
      | none => rw [h1] at h; exact ⟨vs, hq, by rw [r1.len]; exact endAt_some h⟩
      | some x1 => simp only [h1] at h; cases h
end

/-! ### what is walked, by own code -/
def Res.bindI (r : Res) (k : D → Sto → RI) : RI := match r with
  | .ok d S => k d S
  | .exc c v S => .exc c v S
  | .bad => .bad
def ResL.bindI (r : ResL) (k : List D → Sto → RI) : RI := match r with
  | .ok d S => k d S
  | .exc c v S => .exc c v S
  | .bad => .bad
def seqI (c : C1) : C1I := fun σ S => (c σ S).bindI fun d S1 => match seqOf S1 d with
  | some _ => .ok (.one d) S1
  | none => .bad
def lt62 (i : Int) : Bool := Nat.blt i.natAbs 4611686018427387904
def natI (i : Int) : Nat := match i with
  | .ofNat n => n
  | .negSucc _ => 0
def rngI (ds : List D) (S : Sto) : RI := match ds with
  | [.int j] => match lt62 j with
    | true => nForce (natI j) fun n => .ok (.rng 0 n) S
    | false => .bad
  | [.int i, .int j] => match lt62 i with
    | true => match lt62 j with
      | true => nForce (natI (Int.sub j i)) fun n => .ok (.rng i n) S
      | false => .bad
    | false => .bad
  | _ => .bad
def zipI (ds : List D) (S : Sto) : RI := match ds with
  | [a, b] => match seqOf S a with
    | some _ => match seqOf S b with
      | some _ => .ok (.zip a b) S
      | none => .bad
    | none => .bad
  | _ => .bad
def enmI (ds : List D) (S : Sto) : RI := match ds with
  | [a] => match seqOf S a with
    | some _ => .ok (.enm a) S
    | none => .bad
  | _ => .bad
def apI (f : List D → Sto → RI) (a : C1L) : C1I := fun σ S => (a σ S).bindI f
section
variable {K : PySem.W.Frag} {T : Ads} {W : Wd}
theorem PostI.up {U : Wd} {r : RI} {R : It → Hp → Prop} {E : XK} (h : W.Le U) (p : PostI K T W r R E) : PostI K T U r R E := by
  cases r with
  | ok s S => exact fun V H J l => p V H J (h.trans l)
  | exc c x S => exact fun V H v q l => p V H v q (h.trans l)
  | bad => exact p
theorem PostI.bind {r : Res} {k : D → Sto → RI} {R : It → Hp → Prop} {E : XK} (p : PostI K T W (r.bindI k) R E) : Post K T W r (fun v H => ∃ U d S, W.Le U ∧ Rh K T U S H ∧ Rv K T U d v ∧ PostI K T U (k d S) R E) E := by
  cases r with
  | ok d S => exact fun U H v l h r => ⟨U, d, S, l, h, r, p.up l⟩
  | exc c x S => exact p
  | bad => exact p
theorem PostI.bindL {r : ResL} {k : List D → Sto → RI} {R : It → Hp → Prop} {E : XK} (p : PostI K T W (r.bindI k) R E) : PostL K T W r (fun v H => ∃ U d S, W.Le U ∧ Rh K T U S H ∧ Rvs K T U d v ∧ PostI K T U (k d S) R E) E := by
  cases r with
  | ok d S => exact fun U H v l h r => ⟨U, d, S, l, h, r, p.up l⟩
  | exc c x S => exact p
  | bad => exact p
theorem PostI.here {s : Src} {S : Sto} {H : Hp} {J : It} {R : It → Hp → Prop} {E : XK} (p : PostI K T W (.ok s S) R E) (h : Rh K T W S H) (j : ItOk K T W s J) : R J H := p W H J (Wd.Le.refl W) h j
end
section
variable {X : Cx} {T : Ads} {Wx : WX} {tg l e e2 : Expr} {es : List Expr} {c : C1} {ca : C1L} {p pos : Pos}
theorem PI.weak {tg iter : Expr} {t t' : TI} (h : PI X tg iter t) (k : ∀ τ H R, t' τ H R → t τ H R) : PI X tg iter t' := ⟨fun pins s σ H R I q => h.run pins s σ H R I (k σ H R q)⟩
abbrev EI (X : Cx) (T : Ads) (Wx : WX) (tg iter : Expr) (c : C1I) : Prop := PI X tg iter (tI X.K T Wx c)
theorem i_seq (h : EE X T Wx l c) : EI X T Wx tg l (seqI c) := PI.weak (pi_both h) fun τ H R ⟨W, σ, S, rs, rh, q⟩ => by
  refine ⟨W, σ, S, rs, rh, Post.imp (fun v H1 ⟨U, d, S1, le, rh1, rv, q1⟩ => ?_) (PostI.bind q)⟩
  cases e : seqOf S1 d with
  | none => rw [e] at q1; exact q1.elim
  | some xs =>
    rw [e] at q1
    obtain ⟨a, vs, rfl, r1, hq⟩ := seq_kind rh1 rv e
    have j := it_seq rv
    refine ⟨a, vs, rfl, ?_⟩
    cases k : isT d with
    | true => rw [k] at hq j; exact .inr ⟨hq, q1.here rh1 j⟩
    | false => rw [k] at hq j; exact .inl ⟨hq, q1.here rh1 j⟩
theorem lt62_of {i : Int} (h : lt62 i = true) : -(2 ^ 62) ≤ i ∧ i < 2 ^ 62 := by
  have := Nat.le_of_ble_eq_true h
  omega
theorem natI_eq (i : Int) : natI i = i.toNat := by cases i <;> rfl
theorem rng_bad {ds : List D} {S : Sto} (h : ∀ j, ds ≠ [.int j]) (h2 : ∀ i j, ds ≠ [.int i, .int j]) : rngI ds S = .bad := by
  unfold rngI
  split
  · exact absurd rfl (h _)
  · exact absurd rfl (h2 _ _)
  · rfl
theorem i_rng1 (hg : Gl X "range") (hm : X.mg "range" = none) (ha : EA X T Wx [e] ca) (hl : LenL ca 1) (hs : noStar [e] = true) : EI X T Wx tg (.Call (.Name "range" p) [e] [] pos) (apI rngI ca) :=
  PI.weak (pi_range1 hg hm ha (by rw [star_cons hs] <;> rfl)) fun τ H R ⟨W, σ, S, rs, rh, q⟩ => by
    refine ⟨W, σ, S, rs, rh, ?_⟩
    have q : PostI X.K T W ((ca σ S).bindI rngI) R _ := q
    cases z : ca σ S with
    | exc c x S' => rw [z] at q; exact q
    | bad => rw [z] at q; exact q
    | ok ds S' =>
      rw [z] at q
      have q : PostI X.K T W (rngI ds S') R _ := q
      have hn := hl _ _ _ _ z
      intro U H1 vs le rh1 rv
      match ds, hn, rv, q with
      | [d], _, rv, q =>
        cases d with
        | int j =>
          obtain ⟨v, rfl, r1⟩ := rvs1 rv
          cases r1
          have q : PostI X.K T W (match lt62 j with | true => nForce (natI j) fun n => .ok (.rng 0 n) S' | false => .bad) R _ := q
          cases h : lt62 j with
          | false => rw [h] at q; exact q.elim
          | true =>
            rw [h] at q
            have q : PostI X.K T W (nForce (natI j) fun n => .ok (.rng 0 n) S') R _ := q
            rw [nForce_eq, natI_eq] at q
            obtain ⟨h1, h2⟩ := lt62_of h
            exact ⟨j, rfl, h1, h2, (q.up le).here rh1 it_rng⟩
        | _ => exact q.elim
theorem i_rng2 (hg : Gl X "range") (hm : X.mg "range" = none) (ha : EA X T Wx [e, e2] ca) (hl : LenL ca 2) (hs : noStar [e, e2] = true) : EI X T Wx tg (.Call (.Name "range" p) [e, e2] [] pos) (apI rngI ca) :=
  PI.weak (pi_range2 hg hm ha (by rw [star_cons hs, star_cons (star_tail hs)] <;> rfl) (by rw [star_cons (star_tail hs)] <;> rfl)) fun τ H R ⟨W, σ, S, rs, rh, q⟩ => by
    refine ⟨W, σ, S, rs, rh, ?_⟩
    have q : PostI X.K T W ((ca σ S).bindI rngI) R _ := q
    cases z : ca σ S with
    | exc c x S' => rw [z] at q; exact q
    | bad => rw [z] at q; exact q
    | ok ds S' =>
      rw [z] at q
      have q : PostI X.K T W (rngI ds S') R _ := q
      have hn := hl _ _ _ _ z
      intro U H1 vs le rh1 rv
      match ds, hn, rv, q with
      | [d, d2], _, rv, q =>
        by_cases hd : ∃ i j, d = .int i ∧ d2 = .int j
        · obtain ⟨i, j, rfl, rfl⟩ := hd
          obtain ⟨v, w, rfl, r1, r2⟩ := rvs2 rv
          cases r1; cases r2
          have q : PostI X.K T W (match lt62 i with | true => (match lt62 j with | true => nForce (natI (Int.sub j i)) fun n => .ok (.rng i n) S' | false => .bad) | false => .bad) R _ := q
          cases h : lt62 i with
          | false => rw [h] at q; exact q.elim
          | true =>
            rw [h] at q
            have q : PostI X.K T W (match lt62 j with | true => nForce (natI (Int.sub j i)) fun n => .ok (.rng i n) S' | false => .bad) R _ := q
            cases h' : lt62 j with
            | false => rw [h'] at q; exact q.elim
            | true =>
              rw [h'] at q
              have q : PostI X.K T W (nForce (natI (Int.sub j i)) fun n => .ok (.rng i n) S') R _ := q
              rw [nForce_eq, natI_eq] at q
              obtain ⟨h1, h2⟩ := lt62_of h
              obtain ⟨h3, h4⟩ := lt62_of h'
              exact ⟨i, j, rfl, ⟨h1, h2, h3, h4⟩, (q.up le).here rh1 it_rng⟩
        · rw [rng_bad (fun j z => by cases z) (fun i j z => by cases z; exact hd ⟨_, _, rfl, rfl⟩)] at q
          exact q.elim
theorem i_zip {elts : List Expr} {kk : Nat} {tpos : Pos} (hg : Gl X "zip") (hm : X.mg "zip" = none) (ha : EA X T Wx [e, e2] ca) (hs : noStar [e, e2] = true) : EI X T Wx (.Tuple elts kk tpos) (.Call (.Name "zip" p) [e, e2] [] pos) (apI zipI ca) :=
  PI.weak (pi_zipG hg hm ha (star_cons hs) (star_none (star_tail hs))) fun τ H R ⟨W, σ, S, rs, rh, q⟩ => by
    refine ⟨W, σ, S, rs, rh, PostL.imp (fun vs H1 ⟨U, ds, S1, le, rh1, rv, q1⟩ => ?_) (PostI.bindL q)⟩
    match ds, rv, q1 with
    | [], _, q1 => exact q1.elim
    | [_], _, q1 => exact q1.elim
    | _ :: _ :: _ :: _, _, q1 => exact q1.elim
    | [a, b], rv, q1 =>
      obtain ⟨v, w, rfl, r1, r2⟩ := rvs2 rv
      have q1 : PostI X.K T U (match seqOf S1 a with | some _ => (match seqOf S1 b with | some _ => .ok (.zip a b) S1 | none => .bad) | none => .bad) R _ := q1
      cases h1 : seqOf S1 a with
      | none => rw [h1] at q1; exact q1.elim
      | some xs =>
        cases h2 : seqOf S1 b with
        | none => rw [h1, h2] at q1; exact q1.elim
        | some ys =>
          rw [h1, h2] at q1
          obtain ⟨a', vs, rfl, _, hq1⟩ := seq_kind rh1 r1 h1
          obtain ⟨b', ws, rfl, _, hq2⟩ := seq_kind rh1 r2 h2
          exact ⟨a', b', vs, ws, _, _, rfl, hq1, hq2, PostI.here q1 rh1 (it_zip r1 r2)⟩
theorem i_enm {elts : List Expr} {kk : Nat} {tpos : Pos} (hg : Gl X "enumerate") (hm : X.mg "enumerate" = none) (ha : EA X T Wx [e] ca) (hs : noStar [e] = true) : EI X T Wx (.Tuple elts kk tpos) (.Call (.Name "enumerate" p) [e] [] pos) (apI enmI ca) :=
  PI.weak (pi_enumG hg hm ha (star_cons hs)) fun τ H R ⟨W, σ, S, rs, rh, q⟩ => by
    refine ⟨W, σ, S, rs, rh, PostL.imp (fun vs H1 ⟨U, ds, S1, le, rh1, rv, q1⟩ => ?_) (PostI.bindL q)⟩
    match ds, rv, q1 with
    | [], _, q1 => exact q1.elim
    | _ :: _ :: _, _, q1 => exact q1.elim
    | [a], rv, q1 =>
      obtain ⟨v, rfl, r1⟩ := rvs1 rv
      have q1 : PostI X.K T U (match seqOf S1 a with | some _ => .ok (.enm a) S1 | none => .bad) R _ := q1
      cases h1 : seqOf S1 a with
      | none => rw [h1] at q1; exact q1.elim
      | some xs =>
        rw [h1] at q1
        obtain ⟨a', vs, rfl, _, hq1⟩ := seq_kind rh1 r1 h1
        exact ⟨a', vs, _, rfl, hq1, PostI.here q1 rh1 (it_enm r1)⟩
end

/-! ### list comprehensions -/
def wipeD (σ : Sl) : List Nat → Sl
  | [] => σ
  | v :: vs => lSet (wipeD σ vs) v none
def lcLoop (src : Src) (tg : Tg) (tt te : C1) (σ : Sl) : Nat → Nat → List D → Sto → ResL
  | 0, _, _, _ => .bad
  | Nat.succ n, i, acc, S => match src.at S i with
    | none => .bad
    | some none => .ok acc.reverse S
    | some (some d) => match setT tg d σ with
      | none => .bad
      | some σ2 => match tt σ2 S with
        | .ok (.bl true) S1 => match te σ2 S1 with
          | .ok v S2 => lcLoop src tg tt te σ n (Nat.succ i) (v :: acc) S2
          | _ => .bad
        | .ok (.bl false) S1 => lcLoop src tg tt te σ n (Nat.succ i) acc S1
        | _ => .bad
def lcC (m : Bool) (it : C1I) (vs : List Nat) (tg : Tg) (tt te : C1) : C1 := fun σ S => match it σ S with
  | .ok src S1 => match lcLoop src tg tt te (wipeD σ vs) 1000000 0 [] S1 with
    | .ok xs S2 => newL m xs S2
    | _ => .bad
  | .exc c v S1 => .exc c v S1
  | .bad => .bad
def WF : WX := fun _ _ _ _ => False
section
variable {K : PySem.W.Frag} {T : Ads}
theorem Rs.wipe {W : Wd} {σ : Sl} {τ : L2.St} (h : Rs K T W σ τ) : ∀ vs : List Nat, Rs K T W (wipeD σ vs) (L2.wipe τ vs)
  | [] => h
  | v :: vs => by
    have g := Rs.wipe h vs
    unfold wipeD L2.wipe
    rw [lSet_eq]
    refine ⟨by rw [List.length_set, List.length_set]; exact g.1, fun i e q => ?_⟩
    by_cases z : v = i
    · subst z
      by_cases hj : v < (wipeD σ vs).length
      · rw [List.getElem?_set_self hj] at q; cases q
      · rw [List.getElem?_eq_none (by rw [List.length_set]; omega)] at q; cases q
    · rw [List.getElem?_set_ne z] at q
      obtain ⟨w, a, b⟩ := g.2 i e q
      exact ⟨w, by rw [List.getElem?_set_ne z]; exact a, b⟩
theorem wipe_get (τ : L2.St) (i : Nat) : ∀ vs : List Nat, (L2.wipe τ vs)[i]? = if i ∈ vs then (if i < τ.length then some none else none) else τ[i]?
  | [] => by simp [L2.wipe]
  | v :: vs => by
    have ih := wipe_get τ i vs
    have hl := wipe_length τ vs
    unfold L2.wipe
    by_cases z : v = i
    · subst z
      rw [if_pos List.mem_cons_self]
      by_cases hj : v < τ.length
      · rw [List.getElem?_set_self (by omega), if_pos hj]
      · rw [List.getElem?_eq_none (by rw [List.length_set]; omega), if_neg hj]
    · rw [List.getElem?_set_ne z, ih]
      have : (i ∈ v :: vs) ↔ i ∈ vs := by simp [Ne.symm z]
      by_cases hi : i ∈ vs
      · rw [if_pos hi, if_pos (this.mpr hi)]
      · rw [if_neg hi, if_neg (fun q => hi (this.mp q))]
theorem wipe_only {vs js : List Nat} {τ τ2 : L2.St} (h : Only js (L2.wipe τ vs) τ2) (hj : ∀ j ∈ js, j ∈ vs) : L2.wipe τ2 vs = L2.wipe τ vs := by
  refine List.ext_getElem? fun i => ?_
  rw [wipe_get, wipe_get]
  have hl : τ2.length = τ.length := h.1.trans (wipe_length τ vs)
  by_cases hi : i ∈ vs
  · rw [if_pos hi, if_pos hi, hl]
  · rw [if_neg hi, if_neg hi, h.2 i fun z => hi (hj i z), wipe_get, if_neg hi]
end
section
variable {X : Cx} {T : Ads} {Wx : WX} {it : C1I} {tg : Tg} {tt te : C1} {vs : List Nat} {m : Bool}
theorem tLc_of {τ : L2.St} {H : Hp} {Q : VK} (hj : ∀ j ∈ tg.ix, j ∈ vs) (h : tE X.K T Wx (lcC m it vs tg tt te) τ H Q) : tLc (tI X.K T Wx it) (tG X.K T tg) (tT X.K T WF tt) (tE X.K T WF te) vs τ H Q := by
  obtain ⟨W, σ, S, rs, rh, p⟩ := h
  refine ⟨W, σ, S, rs, rh, ?_⟩
  unfold lcC at p
  cases z : it σ S with
  | exc c x S1 => rw [z] at p; exact p
  | bad => rw [z] at p; exact p
  | ok src S1 =>
    rw [z] at p
    have p : Post X.K T W (match lcLoop src tg tt te (wipeD σ vs) 1000000 0 [] S1 with | .ok xs S2 => newL m xs S2 | _ => .bad) Q _ := p
    intro U H1 J le rh1 hJ D hD
    have hYU : U.Y D = none := by
      cases q : U.Y D with
      | none => rfl
      | some o => have := (rh1.way D o q).1; rw [hD] at this; cases this
    have hYW : W.Y D = none := by
      cases q : W.Y D with
      | none => rfl
      | some o => rw [le.y _ _ q] at hYU; cases hYU
    -- what the loop's end is good for
    let Fin : ResL → Prop := fun r => match r with
      | .ok xs S' => ∀ V vs' H', U.Le V → V.Y D = some (.lst vs') → Rvs X.K T V xs vs' → Rh X.K T V S' H' → Q (.ref D) H'
      | _ => False
    let Inv' : Nat → Nat → Hp → Prop := fun i n H' => ∃ acc S' V vs', U.Le V ∧ V.Y D = some (.lst vs') ∧ Rvs X.K T V acc.reverse vs' ∧ Rh X.K T V S' H' ∧ acc.length + n ≤ 1000000 ∧ Fin (lcLoop src tg tt te (wipeD σ vs) n i acc S')
    have start : Fin (lcLoop src tg tt te (wipeD σ vs) 1000000 0 [] S1) := by
      cases q : lcLoop src tg tt te (wipeD σ vs) 1000000 0 [] S1 with
      | exc c x S' => rw [q] at p; exact p.elim
      | bad => rw [q] at p; exact p.elim
      | ok xs S' =>
        rw [q] at p
        have p : Post X.K T W (newL m xs S') Q _ := p
        intro V vs' H' leV hy rx rhV
        obtain ⟨y1, y2, y3⟩ := rhV.way D _ hy
        have rb := rhV.bare D
        have hb : (V.bare D).Y D = none := if_pos rfl
        have leb : W.Le (V.bare D) := ⟨fun a o e => (le.trans leV).f a o e, fun l a e => (le.trans leV).r l a e, fun a o e => by
          show (if a = D then none else V.Y a) = some o
          rw [if_neg (fun w => by subst w; rw [hYW] at e; cases e)]
          exact (le.trans leV).y a o e⟩
        have rx' : Rvs X.K T (V.bare D) xs vs' := Rvs.far (W := V) (U := V.bare D) rfl rfl _ _ rx
        cases m with
        | false =>
          obtain ⟨l2, r2⟩ := rb.show (p := D) (o := .lst vs') y1 y2 y3 hb
          exact p _ _ _ (leb.trans l2) r2 ⟨D, vs', rfl, upd_same, Rvs.up l2 _ _ rx'⟩
        | true =>
          obtain ⟨l2, r2, r3⟩ := rb.take (p := D) (x := .lst xs) (by rw [y1]; intro w; cases w) y2 y3 hb ⟨vs', y1, rx'⟩
          exact p _ _ _ (leb.trans l2) r2 ⟨D, rfl, r3⟩
    refine ⟨fun i n H' => Inv' i n H', ⟨1000000, ?_⟩, ?_⟩
    · obtain ⟨l0, r0⟩ := rh1.hideNew (p := D) (o := .lst []) hD
      exact ⟨[], S1, _, [], l0, upd_same, rfl, r0, Nat.le_refl _, start⟩
    · rintro i n H' ⟨acc, S', V, vs', leV, hy, rx, rhV, hn, fin⟩
      cases n with
      | zero => exact fin.elim
      | succ n =>
        obtain ⟨y1, y2, y3⟩ := rhV.way D _ hy
        have un : lcLoop src tg tt te (wipeD σ vs) (Nat.succ n) i acc S' = (match src.at S' i with
          | none => .bad
          | some none => .ok acc.reverse S'
          | some (some d) => match setT tg d (wipeD σ vs) with
            | none => .bad
            | some σ2 => match tt σ2 S' with
              | .ok (.bl true) S1 => match te σ2 S1 with
                | .ok v S2 => lcLoop src tg tt te (wipeD σ vs) n (Nat.succ i) (v :: acc) S2
                | _ => .bad
              | .ok (.bl false) S1 => lcLoop src tg tt te (wipeD σ vs) n (Nat.succ i) acc S1
              | _ => .bad) := rfl
        rw [un] at fin
        cases q1 : src.at S' i with
        | none => rw [q1] at fin; exact fin.elim
        | some o =>
          rw [q1] at fin
          cases o with
          | none => exact .inl ⟨hJ.stop V S' H' i leV rhV q1, fin V vs' H' leV hy rx rhV⟩
          | some d =>
            obtain ⟨g1, g2⟩ := hJ.go V S' H' i d leV rhV q1
            refine .inr ⟨g1, fun H3 => Inv' (i + 1) n H3, fun H3 h3 => ⟨n, Nat.lt_succ_self _, h3⟩, fun x H2 hx => ?_⟩
            obtain ⟨V2, le2, rh2, rv2⟩ := g2 x H2 hx
            have fin : Fin (match setT tg d (wipeD σ vs) with
              | none => .bad
              | some σ2 => match tt σ2 S' with
                | .ok (.bl true) S1 => match te σ2 S1 with
                  | .ok v S2 => lcLoop src tg tt te (wipeD σ vs) n (Nat.succ i) (v :: acc) S2
                  | _ => .bad
                | .ok (.bl false) S1 => lcLoop src tg tt te (wipeD σ vs) n (Nat.succ i) acc S1
                | _ => .bad) := fin
            cases q2 : setT tg d (wipeD σ vs) with
            | none => rw [q2] at fin; exact fin.elim
            | some σ2 =>
              simp only [q2] at fin
              refine ⟨V2, d, wipeD σ vs, S', σ2, ((rs.up (le.trans (leV.trans le2))).wipe vs), rv2, rh2, q2, fun τ2 rs2 on => ⟨wipe_only on hj, V2, σ2, S', rs2, rh2, ?_⟩⟩
              cases q3 : tt σ2 S' with
              | exc c x S3 => simp only [q3] at fin; exact fin.elim
              | bad => simp only [q3] at fin; exact fin.elim
              | ok b S3 =>
                simp only [q3] at fin
                cases b with
                | bl b =>
                  intro V3 H3 w le3 rh3 rw3
                  cases rw3
                  refine ⟨b, rfl, ?_⟩
                  cases b with
                  | false =>
                    have fin : Fin (lcLoop src tg tt te (wipeD σ vs) n (Nat.succ i) acc S3) := fin
                    show Inv' (i + 1) n H3
                    exact ⟨acc, S3, V3, vs', leV.trans (le2.trans le3), (le2.trans le3).y _ _ hy, Rvs.up (le2.trans le3) _ _ rx, rh3, by omega, fin⟩
                  | true =>
                    refine ⟨V3, σ2, S3, rs2.up le3, rh3, ?_⟩
                    cases q4 : te σ2 S3 with
                    | exc c x S4 => simp only [q4] at fin; exact fin.elim
                    | bad => simp only [q4] at fin; exact fin.elim
                    | ok v S4 =>
                      simp only [q4] at fin
                      intro V4 H4 y le4 rh4 rv4
                      have l24 := le2.trans (le3.trans le4)
                      have hy4 := l24.y _ _ hy
                      obtain ⟨w1, w2, w3⟩ := rh4.way D _ hy4
                      have hlen : vs'.length = acc.length := by rw [rx.len, List.length_reverse]
                      refine ⟨vs', w1, by rw [hlen, sizeLine_eq]; omega, v :: acc, S4, V4.hide D (.lst (vs' ++ [y])), vs' ++ [y], ⟨fun a o e => (leV.trans l24).f a o e, fun l a e => (leV.trans l24).r l a e, fun a o e => ?_⟩, upd_same, ?_, rh4.hide w2 w3, by rw [List.length_cons]; omega, fin⟩
                      · show upd V4.Y D _ a = some o
                        rw [upd_ne (fun z => by subst z; rw [hYU] at e; cases e)]
                        exact (leV.trans l24).y a o e
                      · rw [List.reverse_cons]
                        exact (Rvs.far (W := V4) (U := V4.hide D _) rfl rfl _ _ (Rvs.up l24 _ _ rx)).snoc (Rv.far (W := V4) (U := V4.hide D _) rfl rfl _ _ rv4)
                | _ => exact fin.elim
end
end Ev
/-! Ev, part G3: comprehensions as expressions; a list's append. -/
namespace Ev
open PySem L2 PyProof.Rows
def notSet : Expr → Bool
  | .Set .. => false
  | _ => true
theorem notSet_ok {e : Expr} {env : Env} (h : notSet e = true) : ∀ x, foldedSetIterable e env x = pure x := fun x => by
  cases e <;> first | rfl | cases h
section
variable {X : Cx} {T : Ads} {Wx : WX} {it : C1I} {tg : Tg} {tt te : C1} {m : Bool}
abbrev Blk (X : Cx) (scope : Scope) (s : Shared) (H : Hp) (C : Addr) (cl : List (Str × Addr)) (fp : List Addr) : Cx := X.blk s H scope (compEnvC scope cl C X.env) fp
theorem e_lc {elt t iter : Expr} {ifs : List Expr} {scope : Scope} {own : List (Str × Nat)} {pos : Pos} (hc : X.calm = true) (hN : X.N.Nodup) (hi : EI X T Wx t iter it) (ok : BlkOk X.N X.env.scope scope own) (hj : ∀ j ∈ tg.ix, j ∈ own.map (·.2))
    (hg : ∀ s H C cl fp, PG (Blk X scope s H C cl fp) t (tG X.K T tg)) (ht : ∀ s H C cl fp, PTs (Blk X scope s H C cl fp) ifs (tT X.K T WF tt)) (he : ∀ s H C cl fp, EE (Blk X scope s H C cl fp) T WF elt te) (hs : notSet iter = true) :
    EE X T Wx (.ListComp elt [⟨t, iter, ifs, 0⟩] scope pos) (lcC m it (own.map (·.2)) tg tt te) :=
  PE.weak (pe_lc hc hN hi ok hg ht he (notSet_ok hs)) fun τ H Q h => tLc_of hj h
/-- a test that always holds -/
def yesC : C1 := fun _ S => .ok (.bl true) S
theorem pts_yes : PTs X [] (tT X.K T WF yesC) := ⟨fun pins s τ H Q I ⟨W, σ, S, rs, rh, p⟩ => pts_nil.run pins s τ H Q I (by
  obtain ⟨b, e, q⟩ := Post.here (v := .bl true) p rh rfl
  cases e; exact q)⟩
theorem pts_c {c : Expr} (h : ET X T WF c tt) : PTs X [c] (tT X.K T WF tt) := pts_one h
/-! ### append -/
def appF (d x : D) (S : Sto) : Res := match d with
  | .loc l => match sGet S l with
    | some (.lst xs) => match small (Nat.succ xs.length) with
      | true => .ok .non (sSet S l (.lst (xs ++ [x])))
      | false => .bad
    | _ => .bad
  | _ => .bad
/-- a method's receiver is a list -/
def appC (o : Nat) (a : C1) : C1 := fun σ S => match σGet σ o with
  | some (.loc l) => match sGet S l with
    | some (.lst _) => (a σ S).bind fun x S1 => appF (.loc l) x S1
    | _ => .bad
  | _ => .bad
theorem e_append {i : Nat} {x : Str} {e : Expr} {ca : C1} {p ap pos : Pos} (hv : PE X (.Name x p) (tVar i)) (ha : EE X T Wx e ca) (hs : noStar [e] = true) (hline : (ap.endLine == pos.line) = true) :
    EE X T Wx (.Call (.Attribute (.Name x p) "append" ap) [e] [] pos) (appC i ca) := by
  refine PE.weak (pe_bm PySem.F.plainAttrs_list PySem.F.slot_list_append PySem.F.type_list_append mt_append hv (pa_cons ha pa_nil (star_cons hs)) rfl ?_ hline (star_cons hs) rfl) fun τ H Q ⟨W, σ, S, rs, rh, q⟩ => ?_
  · rw [star_cons hs] <;> rfl
  unfold appC σGet at q
  rw [lGet_eq] at q
  cases e1 : σ[i]? with
  | none => rw [e1] at q; exact q.elim
  | some o =>
    rw [e1] at q
    cases o with
    | none => exact q.elim
    | some d =>
      cases d with
      | loc l =>
        have q : Post X.K T W (match sGet S l with | some (.lst _) => (ca σ S).bind fun x S1 => appF (.loc l) x S1 | _ => .bad) Q _ := q
        cases e2 : sGet S l with
        | none => rw [e2] at q; exact q.elim
        | some ob =>
          rw [e2] at q
          cases ob with
          | dic _ _ => exact q.elim
          | ins _ _ _ => exact q.elim
          | lst xs =>
            have q : Post X.K T W ((ca σ S).bind fun x S1 => appF (.loc l) x S1) Q _ := q
            obtain ⟨v, hv1, a, rfl, hl⟩ := rs.2 i _ e1
            obtain ⟨b, hb, vs, ho, hr⟩ := rh.obj l _ e2
            rw [hl] at hb; cases hb
            refine ⟨.ref a, hv1, .inl ⟨rfl, vs, SqL.of ho⟩, W, σ, S, rs, rh, Post.imp (fun y H1 ⟨U, x1, S1, le, rh1, rv1, q1⟩ => ?_) (Post.bind q)⟩
            have q1 : Post X.K T U (match sGet S1 l with | some (.lst xs) => (match small (Nat.succ xs.length) with | true => .ok .non (sSet S1 l (.lst (xs ++ [x1]))) | false => .bad) | _ => .bad) Q _ := q1
            have hl1 := le.r _ _ hl
            cases e3 : sGet S1 l with
            | none => rw [e3] at q1; exact q1.elim
            | some ob =>
              rw [e3] at q1
              cases ob with
              | dic _ _ => exact q1.elim
              | ins _ _ _ => exact q1.elim
              | lst ys =>
                have q1 : Post X.K T U (match small (Nat.succ ys.length) with | true => .ok .non (sSet S1 l (.lst (ys ++ [x1]))) | false => .bad) Q _ := q1
                cases e4 : small (Nat.succ ys.length) with
                | false => rw [e4] at q1; exact q1.elim
                | true =>
                  rw [e4] at q1
                  obtain ⟨b, hb, ws, ho, hr⟩ := rh1.obj l _ e3
                  rw [hl1] at hb; cases hb
                  have sz := Nat.le_of_ble_eq_true e4
                  refine ⟨a, ws, y, rfl, rfl, ho, by rw [hr.len, sizeLine_eq]; omega, ?_⟩
                  exact Post.here q1 (rh1.chg hl1 e3 ⟨_, upd_same, hr.snoc rv1⟩) rfl
      | _ => exact q.elim
end
end Ev
/-! Ev, part H1: statements. -/
namespace Ev
open PySem L2 PyProof.Rows

/-! ### own code for statements -/
def skipC : C1S := fun σ S => .nx σ S
def seqC (a b : C1S) : C1S := fun σ S => match a σ S with
  | .nx σ' S' => b σ' S'
  | r => r
def dropC (c : C1) : C1S := fun σ S => (c σ S).bindS σ fun _ S' => .nx σ S'
def asgC (tg : Tg) (c : C1) : C1S := fun σ S => (c σ S).bindS σ fun d S' => match setT tg d σ with
  | some σ' => .nx σ' S'
  | none => .bad
def par2C (i j : Nat) (a : C1L) : C1S := fun σ S => (a σ S).bindS σ fun ds S' => match ds with
  | [d, e] => .nx (lSet (lSet σ i (some d)) j (some e)) S'
  | _ => .bad
def par3C (i j k : Nat) (a : C1L) : C1S := fun σ S => (a σ S).bindS σ fun ds S' => match ds with
  | [d, e, f] => .nx (lSet (lSet (lSet σ i (some d)) j (some e)) k (some f)) S'
  | _ => .bad
def retC (c : C1) : C1S := fun σ S => (c σ S).bindS σ fun d S' => .rt d S'
def retNC : C1S := fun _ S => .rt .non S
def brkC : C1S := fun σ S => .bk σ S
def cntC : C1S := fun σ S => .ct σ S
def ifS (c : C1) (a b : C1S) : C1S := fun σ S => (c σ S).bindS σ fun d S' => match d with
  | .bl true => a σ S'
  | .bl false => b σ S'
  | _ => .bad
def forLoop (src : Src) (tg : Tg) (body : C1S) : Nat → Nat → Sl → Sto → SR
  | 0, _, _, _ => .bad
  | Nat.succ n, i, σ, S => match src.at S i with
    | none => .bad
    | some none => .nx σ S
    | some (some d) => match setT tg d σ with
      | none => .bad
      | some σ2 => match body σ2 S with
        | .nx σ3 S3 => forLoop src tg body n (Nat.succ i) σ3 S3
        | .ct σ3 S3 => forLoop src tg body n (Nat.succ i) σ3 S3
        | .bk σ3 S3 => .nx σ3 S3
        | r => r
def forC (it : C1I) (tg : Tg) (body : C1S) : C1S := fun σ S => match it σ S with
  | .ok src S1 => forLoop src tg body 1000000 0 σ S1
  | .exc c v S1 => .exc c v σ S1
  | .bad => .bad
def whLoop (c : C1) (body : C1S) : Nat → Sl → Sto → SR
  | 0, _, _ => .bad
  | Nat.succ n, σ, S => (c σ S).bindS σ fun d S' => match d with
    | .bl true => match body σ S' with
      | .nx σ3 S3 => whLoop c body n σ3 S3
      | .ct σ3 S3 => whLoop c body n σ3 S3
      | .bk σ3 S3 => .nx σ3 S3
      | r => r
    | .bl false => .nx σ S'
    | _ => .bad
def whC (c : C1) (body : C1S) : C1S := fun σ S => whLoop c body 1000000 σ S
def raiC (c : Nat) : C1S := fun σ S => .exc c .non σ S
/-- x[i] = v -/
def putF (o i v : D) (S : Sto) : Option Sto := match o with
  | .loc l => match i with
    | .int k => match sGet S l with
      | some (.lst xs) => match ixOf xs.length k with
        | some n => some (sSet S l (.lst (lSet xs n v)))
        | none => none
      | _ => none
    | _ => none
  | _ => none
def putC (o i v : C1) : C1S := fun σ S => (v σ S).bindS σ fun x S1 => (o σ S1).bindS σ fun y S2 => (i σ S2).bindS σ fun z S3 => match putF y z x S3 with
  | some S4 => .nx σ S4
  | none => .bad

section
variable {X : Cx} {T : Ads} {Wx : WX} {pos : Pos}
theorem PS.weak {st : Stmt} {t t' : TS} (h : PS X st t) (k : ∀ D τ H, t' D τ H → t D τ H) : PS X st t' := ⟨fun pins s σ H D I q => h.run pins s σ H D I (k D σ H q)⟩
theorem PSs.weak {st : List Stmt} {t t' : TS} (h : PSs X st t) (k : ∀ D τ H, t' D τ H → t D τ H) : PSs X st t' := ⟨fun pins s σ H D I q => h.run pins s σ H D I (k D σ H q)⟩
abbrev ES (X : Cx) (T : Ads) (Wx : WX) (st : Stmt) (c : C1S) : Prop := PS X st (tS X.K T Wx c)
abbrev ESs (X : Cx) (T : Ads) (Wx : WX) (st : List Stmt) (c : C1S) : Prop := PSs X st (tS X.K T Wx c)
theorem PostS.here {K : PySem.W.Frag} {W : Wd} {σ : Sl} {S : Sto} {τ : L2.St} {H : Hp} {D : Ends} (p : PostS K T W (.nx σ S) D Wx) (rs : Rs K T W σ τ) (rh : Rh K T W S H) : D.nx τ H := p W H τ (Wd.Le.refl W) rh rs
theorem PostS.bindL {K : PySem.W.Frag} {W : Wd} {r : ResL} {k : List D → Sto → SR} {σ : Sl} {τ : L2.St} {D : Ends} (hs : Rs K T W σ τ) (p : PostS K T W (r.bindS σ k) D Wx) :
    PostL K T W r (fun v H => ∃ U d S, W.Le U ∧ Rh K T U S H ∧ Rvs K T U d v ∧ PostS K T U (k d S) D Wx) (fun cls q H => Wx cls q τ H) := by
  cases r with
  | ok d S => exact fun U H v l h r => ⟨U, d, S, l, h, r, p.up l⟩
  | exc c x S => exact fun U H cls q l h rx => p U H τ cls q l h (hs.up l) rx
  | bad => exact p
theorem ss_nil : ESs X T Wx [] skipC := PSs.weak (t := tNext) ⟨fun pins s σ H D I h => wpAny_execs_nil ⟨σ, H, I, h⟩⟩ fun D τ H ⟨W, σ, S, rs, rh, p⟩ => PostS.here p rs rh
theorem ss_cons {st : Stmt} {sts : List Stmt} {a b : C1S} (h1 : ES X T Wx st a) (h2 : ESs X T Wx sts b) : ESs X T Wx (st :: sts) (seqC a b) := PSs.weak (pss_cons h1 h2) fun D τ H ⟨W, σ, S, rs, rh, p⟩ => by
  refine ⟨W, σ, S, rs, rh, ?_⟩
  unfold seqC at p
  cases q : a σ S with
  | nx σ' S' => rw [q] at p; exact fun U H' τ' le rh' rs' => ⟨U, σ', S', rs', rh', PostS.up (r := b σ' S') le p⟩
  | rt d S' => rw [q] at p; exact p
  | bk σ' S' => rw [q] at p; exact p
  | ct σ' S' => rw [q] at p; exact p
  | exc c v σ' S' => rw [q] at p; exact p
  | bad => rw [q] at p; exact p
theorem s_pass : ES X T Wx (.Pass pos) skipC := PS.weak ps_pass fun D τ H ⟨W, σ, S, rs, rh, p⟩ => PostS.here p rs rh
theorem s_break : ES X T Wx (.Break pos) brkC := PS.weak ps_break fun D τ H ⟨W, σ, S, rs, rh, p⟩ => p W H τ (Wd.Le.refl W) rh rs
theorem s_cont : ES X T Wx (.Continue pos) cntC := PS.weak ps_continue fun D τ H ⟨W, σ, S, rs, rh, p⟩ => p W H τ (Wd.Le.refl W) rh rs
theorem s_expr {e : Expr} {c : C1} (h : EE X T Wx e c) (hs : swapsWith e none pos.line X.env = pure false) : ES X T Wx (.Expr e pos) (dropC c) := PS.weak (ps_expr h hs) fun D τ H ⟨W, σ, S, rs, rh, p⟩ =>
  ⟨W, σ, S, rs, rh, Post.imp (fun v H1 ⟨U, d, S1, le, rh1, rv, q⟩ => PostS.here q (rs.up le) rh1) (Post.bindS rs p)⟩
theorem s_ret {e : Expr} {c : C1} (h : EE X T Wx e c) : ES X T Wx (.Return (some e) pos) (retC c) := PS.weak (ps_ret h) fun D τ H ⟨W, σ, S, rs, rh, p⟩ =>
  ⟨W, σ, S, rs, rh, Post.imp (fun v H1 ⟨U, d, S1, le, rh1, rv, q⟩ => q U H1 v (Wd.Le.refl U) rh1 rv) (Post.bindS rs p)⟩
theorem s_retN : ES X T Wx (.Return none pos) retNC := PS.weak ps_retN fun D τ H ⟨W, σ, S, rs, rh, p⟩ => p W H .non (Wd.Le.refl W) rh rfl
theorem s_if {c : Expr} {a b : List Stmt} {cc : C1} {ca cb : C1S} (hc : ET X T Wx c cc) (ha : ESs X T Wx a ca) (hb : ESs X T Wx b cb) : ES X T Wx (.If c a b pos) (ifS cc ca cb) := PS.weak (ps_if hc ha hb) fun D τ H ⟨W, σ, S, rs, rh, p⟩ => by
  refine ⟨W, σ, S, rs, rh, Post.imp (fun v H1 ⟨U, d, S1, le, rh1, rv, q⟩ => ?_) (Post.bindS rs p)⟩
  cases d with
  | bl k =>
    cases rv
    refine ⟨k, rfl, ?_⟩
    cases k with
    | true => exact ⟨U, σ, S1, rs.up le, rh1, q⟩
    | false => exact ⟨U, σ, S1, rs.up le, rh1, q⟩
  | _ => exact q.elim
/-- target = e -/
theorem asg_of {K : PySem.W.Frag} {tg : Tg} {c : C1} {D : Ends} {τ : L2.St} {H : Hp} (h : tS K T Wx (asgC tg c) D τ H) : tAsg (tE K T Wx c) (tG K T tg) D τ H := by
  obtain ⟨W, σ, S, rs, rh, p⟩ := h
  refine ⟨W, σ, S, rs, rh, Post.imp (fun v H1 ⟨U, d, S1, le, rh1, rv, q⟩ => ?_) (Post.bindS rs p)⟩
  cases e : setT tg d σ with
  | none => rw [e] at q; exact q.elim
  | some σ' => rw [e] at q; exact ⟨U, d, σ, S1, σ', rs.up le, rv, rh1, e, fun τ' rs' _ => PostS.here q rs' rh1⟩
theorem asg_name {K : PySem.W.Frag} {j : Nat} {c : C1} {D : Ends} {τ : L2.St} {H : Hp} (h : tS K T Wx (asgC (.nm j) c) D τ H) : tAsg (tE K T Wx c) (gName j) D τ H := by
  obtain ⟨W, σ, S, rs, rh, p⟩ := h
  refine ⟨W, σ, S, rs, rh, Post.imp (fun v H1 ⟨U, d, S1, le, rh1, rv, q⟩ => ?_) (Post.bindS rs p)⟩
  exact PostS.here (show PostS K T U (.nx (lSet σ j (some d)) S1) D Wx from by simpa only [setT] using q) ((rs.up le).set j rv) rh1
theorem s_asg {t e : Expr} {tg : Tg} {c : C1} (he : EE X T Wx e c) (hg : PG X t (tG X.K T tg)) (hs : swapsWithSole [t] e pos.line X.env = pure false) (hw : swappedStores [t] e X.env = pure none) (h1 : (assignEach [t] X.env).map (·.2) = [assign t X.env]) :
    ES X T Wx (.Assign [t] e pos) (asgC tg c) := PS.weak (ps_asg he hg hs hw h1) fun D τ H h => asg_of h
theorem s_set {i : Nat} {x : Str} {e : Expr} {c : C1} {p : Pos} (hN : X.N.Nodup) (hi : X.N[i]? = some x) (hx : Loc X.env.scope x) (he : EE X T Wx e c) (hs : swapsWith e (some (.Name x p)) pos.line X.env = pure false) (hf : X.fn x = true ∨ X.env.scope.names.lookup x = some .local) :
    ES X T Wx (.Assign [.Name x p] e pos) (asgC (.nm i) c) := PS.weak (ps_set hN hi hx he hs hf) fun D τ H h => asg_name h
/-- name = [..] -/
theorem s_setLc {i : Nat} {y : Str} {py : Pos} {elt t iter : Expr} {ifs : List Expr} {scope : Scope} {own : List (Str × Nat)} {pos' : Pos} {it : C1I} {tg : Tg} {tt te : C1} {m : Bool} (hc : X.calm = true) (hN : X.N.Nodup) (hy : X.N[i]? = some y) (hyl : X.env.scope.names.lookup y = some .local)
    (hsw : swapsWith (.ListComp elt [⟨t, iter, ifs, 0⟩] scope pos') (some (.Name y py)) pos.line X.env = pure true) (hi : EI X T Wx t iter it) (ok : BlkOk X.N X.env.scope scope own) (hj : ∀ j ∈ tg.ix, j ∈ own.map (·.2))
    (hg : ∀ s H C cl fp, PG (Blk X scope s H C cl fp) t (tG X.K T tg)) (ht : ∀ s H C cl fp, PTs (Blk X scope s H C cl fp) ifs (tT X.K T WF tt)) (he : ∀ s H C cl fp, EE (Blk X scope s H C cl fp) T WF elt te) (hs : notSet iter = true) :
    ES X T Wx (.Assign [.Name y py] (.ListComp elt [⟨t, iter, ifs, 0⟩] scope pos') pos) (asgC (.nm i) (lcC m it (own.map (·.2)) tg tt te)) :=
  PS.weak (ps_setLc hc hN hy hyl hsw hi ok hg ht he (notSet_ok hs)) fun D τ H h => tLc_of hj (by
    have := asg_name h
    exact this)
theorem s_par {i j : Nat} {x y : Str} {a b : Expr} {ca : C1L} {px py pt : Pos} {kt k2 : Nat} {pt2 : Pos} (hc : X.calm = true) (hN : X.N.Nodup) (hi : X.N[i]? = some x) (hj : X.N[j]? = some y) (hij : i ≠ j) (hx : X.env.scope.names.lookup x = some .local) (hy : X.env.scope.names.lookup y = some .local)
    (ha : EA X T Wx [a, b] ca) (hw : swappedStores [.Tuple [.Name x px, .Name y py] kt pt] (.Tuple [a, b] k2 pt2) X.env = pure (some [x, y])) :
    ES X T Wx (.Assign [.Tuple [.Name x px, .Name y py] kt pt] (.Tuple [a, b] k2 pt2) pos) (par2C i j ca) := PS.weak (ps_par hc hN hi hj hij hx hy ha hw rfl) fun D τ H ⟨W, σ, S, rs, rh, p⟩ => by
  refine ⟨W, σ, S, rs, rh, PostL.imp (fun vs H1 ⟨U, ds, S1, le, rh1, rv, q⟩ => ?_) (PostS.bindL rs p)⟩
  match ds, rv, q with
  | [], _, q => exact q.elim
  | [_], _, q => exact q.elim
  | _ :: _ :: _ :: _, _, q => exact q.elim
  | [d, e], rv, q =>
    obtain ⟨v, w, rfl, r1, r2⟩ := rvs2 rv
    exact ⟨v, w, rfl, PostS.here q (((rs.up le).set i r1).set j r2) rh1⟩
theorem s_par3 {i j l : Nat} {x y z : Str} {a b c : Expr} {ca : C1L} {px py pz pt : Pos} {kt k2 : Nat} {pt2 : Pos} (hc : X.calm = true) (hN : X.N.Nodup) (hi : X.N[i]? = some x) (hj : X.N[j]? = some y) (hl : X.N[l]? = some z) (hij : i ≠ j) (hil : i ≠ l) (hjl : j ≠ l)
    (hx : X.env.scope.names.lookup x = some .local) (hy : X.env.scope.names.lookup y = some .local) (hz : X.env.scope.names.lookup z = some .local) (ha : EA X T Wx [a, b, c] ca)
    (hw : swappedStores [.Tuple [.Name x px, .Name y py, .Name z pz] kt pt] (.Tuple [a, b, c] k2 pt2) X.env = pure (some [x, y, z])) :
    ES X T Wx (.Assign [.Tuple [.Name x px, .Name y py, .Name z pz] kt pt] (.Tuple [a, b, c] k2 pt2) pos) (par3C i j l ca) := PS.weak (ps_par3 hc hN hi hj hl hij hil hjl hx hy hz ha hw rfl) fun D τ H ⟨W, σ, S, rs, rh, p⟩ => by
  refine ⟨W, σ, S, rs, rh, PostL.imp (fun vs H1 ⟨U, ds, S1, le, rh1, rv, q⟩ => ?_) (PostS.bindL rs p)⟩
  match ds, rv, q with
  | [], _, q => exact q.elim
  | [_], _, q => exact q.elim
  | [_, _], _, q => exact q.elim
  | _ :: _ :: _ :: _ :: _, _, q => exact q.elim
  | [d, e, f], rv, q =>
    obtain ⟨v, r, e1, h1, w, r2, e2, h2, u, r3, e3, h3, h4⟩ := rv
    cases h4; subst e3 e2 e1
    exact ⟨v, w, u, rfl, PostS.here q ((((rs.up le).set i h1).set j h2).set l h3) rh1⟩
/-- o[i] = v -/
theorem s_put {o i e : Expr} {co ci ce : C1} {p : Pos} (ho : EE X T Wx o co) (hi : EE X T Wx i ci) (he : EE X T Wx e ce) (ha : ∀ v, assign (.Subscript o i p) X.env v = (do
      let ov ← holding [v] (eval o X.env)
      let iv ← holding [v, ov] (eval i X.env)
      standAt p
      holding [v, ov, iv] (setItem ov iv v)
      release [v, ov, iv] [])) (hs : swapsWithSole [.Subscript o i p] e pos.line X.env = pure false) (hw : swappedStores [.Subscript o i p] e X.env = pure none) (h1 : (assignEach [.Subscript o i p] X.env).map (·.2) = [assign (.Subscript o i p) X.env]) :
    ES X T Wx (.Assign [.Subscript o i p] e pos) (putC co ci ce) := PS.weak (ps_asg he (pg_sub ho hi set_list ha) hs hw h1) fun D τ H ⟨W, σ, S, rs, rh, q⟩ => by
  refine ⟨W, σ, S, rs, rh, Post.imp (fun v H1 ⟨U, d, S1, le, rh1, rv, q⟩ => ?_) (Post.bindS rs q)⟩
  refine ⟨U, σ, S1, rs.up le, rh1, Post.imp (fun w H2 ⟨U2, d2, S2, le2, rh2, rv2, q⟩ => ?_) (Post.bindS (rs.up le) q)⟩
  refine ⟨U2, σ, S2, (rs.up le).up le2, rh2, Post.imp (fun u H3 ⟨U3, d3, S3, le3, rh3, rv3, q⟩ => ?_) (Post.bindS ((rs.up le).up le2) q)⟩
  cases e0 : putF d2 d3 d S3 with
  | none => rw [e0] at q; exact q.elim
  | some S4 =>
    rw [e0] at q
    cases d2 with
    | loc l =>
      cases d3 with
      | int k =>
        have e0 : (match sGet S3 l with | some (.lst xs) => (match ixOf xs.length k with | some n => some (sSet S3 l (.lst (lSet xs n d))) | none => none) | _ => none) = some S4 := e0
        cases e1 : sGet S3 l with
        | none => rw [e1] at e0; cases e0
        | some ob =>
          rw [e1] at e0
          cases ob with
          | dic _ _ => cases e0
          | ins _ _ _ => cases e0
          | lst xs =>
            have e0 : (match ixOf xs.length k with | some n => some (sSet S3 l (.lst (lSet xs n d))) | none => none) = some S4 := e0
            cases e2 : ixOf xs.length k with
            | none => rw [e2] at e0; cases e0
            | some n =>
              rw [e2] at e0
              cases e0
              obtain ⟨a, rfl, hl⟩ := Rv.up le3 _ _ rv2
              obtain ⟨b, hb, vs, hv, hr⟩ := rh3.obj l _ e1
              rw [hl] at hb; cases hb
              refine ⟨a, vs, k, n, rfl, rv3, hv, by rw [hr.len, ← ixOf_eq]; exact e2, ?_⟩
              refine PostS.here q (((rs.up le).up le2).up le3) (rh3.chg hl e1 ⟨_, upd_same, ?_⟩)
              rw [lSet_eq]
              exact hr.set (Rv.up (le2.trans le3) _ _ rv) n
      | _ => cases e0
    | _ => cases e0
/-! ### loops -/
theorem s_for {t iter : Expr} {body : List Stmt} {it : C1I} {tg : Tg} {cb : C1S} (hp : PassesOwn (model X.prog X.w) X.A X.env X.xe) (hc : X.calm = true) (hi : EI X T Wx t iter it) (hg : PG X t (tG X.K T tg)) (hb : ESs X T Wx body cb) (hs : notSet iter = true) :
    ES X T Wx (.For t iter body [] pos) (forC it tg cb) := PS.weak (ps_for hp hc hi hg hb (notSet_ok hs)) fun D τ H ⟨W, σ, S, rs, rh, p⟩ => by
  refine ⟨W, σ, S, rs, rh, ?_⟩
  unfold forC at p
  cases z : it σ S with
  | exc c x S1 => rw [z] at p; exact fun U H' cls q le rh' rx => p U H' τ cls q le rh' (rs.up le) rx
  | bad => rw [z] at p; exact p
  | ok src S1 =>
    rw [z] at p
    have p : PostS X.K T W (forLoop src tg cb 1000000 0 σ S1) D Wx := p
    intro U H1 J le rh1 hJ
    refine ⟨fun i n τ' H' => ∃ V σ' S', U.Le V ∧ Rs X.K T V σ' τ' ∧ Rh X.K T V S' H' ∧ PostS X.K T V (forLoop src tg cb n i σ' S') D Wx, ⟨1000000, U, σ, S1, Wd.Le.refl U, rs.up le, rh1, p.up le⟩, ?_⟩
    rintro i n τ' H' ⟨V, σ', S', leV, rsV, rhV, q⟩
    cases n with
    | zero => exact q.elim
    | succ n =>
      have un : forLoop src tg cb (Nat.succ n) i σ' S' = (match src.at S' i with
        | none => .bad
        | some none => .nx σ' S'
        | some (some d) => match setT tg d σ' with
          | none => .bad
          | some σ2 => match cb σ2 S' with
            | .nx σ3 S3 => forLoop src tg cb n (Nat.succ i) σ3 S3
            | .ct σ3 S3 => forLoop src tg cb n (Nat.succ i) σ3 S3
            | .bk σ3 S3 => .nx σ3 S3
            | r => r) := rfl
      rw [un] at q
      cases q1 : src.at S' i with
      | none => rw [q1] at q; exact q.elim
      | some o =>
        rw [q1] at q
        cases o with
        | none => exact .inl ⟨hJ.stop V S' H' i leV rhV q1, PostS.here q rsV rhV⟩
        | some d =>
          obtain ⟨g1, g2⟩ := hJ.go V S' H' i d leV rhV q1
          refine .inr ⟨g1, _, fun σ'' H'' h => ⟨n, Nat.lt_succ_self _, h⟩, fun x H2 hx => ?_⟩
          obtain ⟨V2, le2, rh2, rv2⟩ := g2 x H2 hx
          have q : PostS X.K T V (match setT tg d σ' with
            | none => .bad
            | some σ2 => match cb σ2 S' with
              | .nx σ3 S3 => forLoop src tg cb n (Nat.succ i) σ3 S3
              | .ct σ3 S3 => forLoop src tg cb n (Nat.succ i) σ3 S3
              | .bk σ3 S3 => .nx σ3 S3
              | r => r) D Wx := q
          cases q2 : setT tg d σ' with
          | none => rw [q2] at q; exact q.elim
          | some σ2 =>
            simp only [q2] at q
            refine ⟨V2, d, σ', S', σ2, rsV.up le2, rv2, rh2, q2, fun τ2 rs2 _ => ⟨V2, σ2, S', rs2, rh2, ?_⟩⟩
            cases q3 : cb σ2 S' with
            | nx σ3 S3 => simp only [q3] at q; exact fun V3 H3 τ3 le3 rh3 rs3 => ⟨V3, σ3, S3, leV.trans (le2.trans le3), rs3, rh3, q.up (le2.trans le3)⟩
            | ct σ3 S3 => simp only [q3] at q; exact fun V3 H3 τ3 le3 rh3 rs3 => ⟨V3, σ3, S3, leV.trans (le2.trans le3), rs3, rh3, q.up (le2.trans le3)⟩
            | bk σ3 S3 => simp only [q3] at q; exact fun V3 H3 τ3 le3 rh3 rs3 => PostS.here (q.up (le2.trans le3)) rs3 rh3
            | rt d' S3 => simp only [q3] at q; exact q.up le2
            | exc c v σ3 S3 => simp only [q3] at q; exact q.up le2
            | bad => simp only [q3] at q; exact q.elim
theorem s_while {c : Expr} {body : List Stmt} {cc : C1} {cb : C1S} (hp : PassesOwn (model X.prog X.w) X.A X.env X.xe) (hc : ET X T Wx c cc) (hb : ESs X T Wx body cb) : ES X T Wx (.While c body [] pos) (whC cc cb) := PS.weak (ps_while hp hc hb) fun D τ H ⟨W, σ, S, rs, rh, p⟩ => by
  refine ⟨fun n τ' H' => ∃ V σ' S', Rs X.K T V σ' τ' ∧ Rh X.K T V S' H' ∧ PostS X.K T V (whLoop cc cb n σ' S') D Wx, ⟨1000000, W, σ, S, rs, rh, p⟩, ?_⟩
  rintro n τ' H' ⟨V, σ', S', rsV, rhV, q⟩
  cases n with
  | zero => exact q.elim
  | succ n =>
    refine ⟨V, σ', S', rsV, rhV, Post.imp (fun v H1 ⟨U, d, S1, le, rh1, rv, q⟩ => ?_) (Post.bindS rsV (show PostS X.K T V ((cc σ' S').bindS σ' fun d S1 => match d with
      | .bl true => match cb σ' S1 with
        | .nx σ3 S3 => whLoop cc cb n σ3 S3
        | .ct σ3 S3 => whLoop cc cb n σ3 S3
        | .bk σ3 S3 => .nx σ3 S3
        | r => r
      | .bl false => .nx σ' S1
      | _ => .bad) D Wx from q))⟩
    cases d with
    | bl k =>
      cases rv
      refine ⟨k, rfl, ?_⟩
      cases k with
      | false => exact PostS.here q (rsV.up le) rh1
      | true =>
        refine ⟨_, fun σ'' H'' h => ⟨n, Nat.lt_succ_self _, h⟩, U, σ', S1, rsV.up le, rh1, ?_⟩
        have q : PostS X.K T U (match cb σ' S1 with
          | .nx σ3 S3 => whLoop cc cb n σ3 S3
          | .ct σ3 S3 => whLoop cc cb n σ3 S3
          | .bk σ3 S3 => .nx σ3 S3
          | r => r) D Wx := q
        cases q3 : cb σ' S1 with
        | nx σ3 S3 => simp only [q3] at q; exact fun V3 H3 τ3 le3 rh3 rs3 => ⟨V3, σ3, S3, rs3, rh3, q.up le3⟩
        | ct σ3 S3 => simp only [q3] at q; exact fun V3 H3 τ3 le3 rh3 rs3 => ⟨V3, σ3, S3, rs3, rh3, q.up le3⟩
        | bk σ3 S3 => simp only [q3] at q; exact fun V3 H3 τ3 le3 rh3 rs3 => PostS.here (q.up le3) rs3 rh3
        | rt d' S3 => simp only [q3] at q; exact q
        | exc c v σ3 S3 => simp only [q3] at q; exact q
        | bad => simp only [q3] at q; exact q.elim
    | _ => exact q.elim
/-! ### raise -/
structure ExcFact (X : Cx) (T : Ads) (c : Nat) : Prop where
  ex : PySem.W.excIn X.K (T.ec c) [.type "ValueError", .type "Exception", .type "BaseException", .type "object"] "ValueError.__new__" = true
  kp : PySem.W.keepIn X.K (.ref (T.ec c)) = true
  sub : PySem.W.subIn X.K (.ref (T.ec c)) (.type "BaseException") = some true
  ty : PySem.W.typeIn X.K (.ref (T.ec c)) = some (.type "type")
theorem mk_none {x : Str} {c : Nat} {p : Pos} (F : ExcFact X T c) (hm : X.mg x = some (.ref (T.ec c))) (hg : Gl X x) (hdb : (x == ("__debug__" : Str)) = false) : PMk X (.Call (.Name x p) [] [] pos) (fun _ H Q => Q (.ref (T.ec c)) none H) := by
  intro pins s σ H Q I h
  refine wpAny_Call_Name_kw (ld_glob I hg hm ?_ hdb)
  refine PySem.W.callWith_K0 I.kIn F.kp ?_
  show wpAny _ _ (call (.ref (T.ec c)) []) _ _ _
  obtain ⟨bm, N, nm, qn, bs, hdct, sn, sub, ab, col, dd, k0, k1, k2, k3, k5, mN, hC, hN, hni, TT⟩ := exc_obj I.kIn F.ex
  refine wpAny_call_exc_subT PySem.F.excBase_ValueError TT hC hN hni (fun h' e hm => ?_) (by show 0 ≤ sizeLine; exact Nat.zero_le _)
  exact mk_of I hm (raises_own F.sub F.ty) h (I.hok.gone hm.new)
theorem s_raise {x : Str} {c : Nat} {p p2 : Pos} (hc : X.calm = true) (tk : Takes X Wx) (F : ExcFact X T c) (hf : T.fld c = none) (hm : X.mg x = some (.ref (T.ec c))) (hg : Gl X x) (hdb : (x == ("__debug__" : Str)) = false) :
    ES X T Wx (.Raise (some (.Call (.Name x p) [] [] p2)) none pos) (raiC c) := PS.weak (ps_raise hc tk (mk_none F hm hg hdb)) fun D τ H ⟨W, σ, S, rs, rh, q⟩ => by
  refine q W H τ (.ref (T.ec c)) none (Wd.Le.refl W) rh rs ⟨rfl, ?_⟩
  rw [hf]
  exact ⟨rfl, rfl⟩
end
end Ev
/-! Ev, part H2: try. -/
namespace Ev
open PySem L2 PyProof.Rows
/-- which class is met by which clause -/
def exLk : List (Nat × Nat × Bool) → Nat → Nat → Option Bool
  | [], _, _ => none
  | (c, h, b) :: r, x, y => match Nat.beq c x with
    | true => match Nat.beq h y with
      | true => some b
      | false => exLk r x y
    | false => exLk r x y
theorem exLk_in : ∀ {l : List (Nat × Nat × Bool)} {x y : Nat} {b : Bool}, exLk l x y = some b → (x, y, b) ∈ l
  | [], _, _, _, h => by cases h
  | (c, h0, b0) :: r, x, y, b, h => by
    have h' : (match Nat.beq c x with | true => (match Nat.beq h0 y with | true => some b0 | false => exLk r x y) | false => exLk r x y) = some b := h
    cases q : Nat.beq c x with
    | false => rw [q] at h'; exact List.mem_cons_of_mem _ (exLk_in h')
    | true =>
      rw [q] at h'
      have h' : (match Nat.beq h0 y with | true => some b0 | false => exLk r x y) = some b := h'
      cases q2 : Nat.beq h0 y with
      | false => rw [q2] at h'; exact List.mem_cons_of_mem _ (exLk_in h')
      | true =>
        rw [q2] at h'; cases h'
        rw [Nat.eq_of_beq_eq_true q, Nat.eq_of_beq_eq_true q2]
        exact List.mem_cons_self
/-- clauses without a name -/
def hands (tab : List (Nat × Nat × Bool)) (hs : List (Nat × C1S)) (c : Nat) (v : D) (σ : Sl) (S : Sto) : SR := match hs with
  | [] => .exc c v σ S
  | (h, suite) :: r => match exLk tab c h with
    | some true => suite σ S
    | some false => hands tab r c v σ S
    | none => .bad
def tryC (tab : List (Nat × Nat × Bool)) (body : C1S) (hs : List (Nat × C1S)) : C1S := fun σ S => match body σ S with
  | .exc c v σ' S' => hands tab hs c v σ' S'
  | r => r
section
variable {X : Cx} {T : Ads} {Wx : WX} {pos : Pos}
/-- clauses and their own code -/
inductive HOk (X : Cx) (T : Ads) (Wx : WX) : List ExceptHandler → List (Nat × C1S) → Prop
  | nil : HOk X T Wx [] []
  | cons {x : Str} {c : Nat} {b₀ : Stmt} {suite : List Stmt} {np pos' : Pos} {hds : List ExceptHandler} {l : List (Nat × C1S)} {cs : C1S} (hg : Gl X x) (hm : X.mg x = some (.ref (T.ec c))) (hdb : (x == ("__debug__" : Str)) = false)
      (hs : ∀ (a : Addr) (pn : List (Addr × Obj)), ESs (X.suite a pn) T Wx (b₀ :: suite) cs) (r : HOk X T Wx hds l) : HOk X T Wx (.ExceptHandler (some (.Name x np)) none (b₀ :: suite) pos' :: hds) ((c, cs) :: l)
def rdHs (K : PySem.W.Frag) (T : Ads) (Wx : WX) (l : List (Nat × C1S)) : List (Value × (Addr → Value → Option Addr → TS)) := l.map fun p => (.ref (T.ec p.1), fun _ _ _ => tS K T Wx p.2)
theorem HOk.hds {hds : List ExceptHandler} {l : List (Nat × C1S)} (h : HOk X T Wx hds l) : HdsOk X hds (rdHs X.K T Wx l) := by
  induction h with
  | nil => exact .nil
  | cons hg hm hdb hs r ih => exact .cons ⟨hg, hdb, .inl hm⟩ (fun a oe cls d pn _ _ => hs a _) ih
theorem many_of {tab : List (Nat × Nat × Bool)} (ht : ∀ c h b, (c, h, b) ∈ tab → PySem.W.exmOne X.K (.ref (T.ec c)) (.ref (T.ec h)) = some b) {D : Ends} : ∀ {l : List (Nat × C1S)} {c : Nat} {v : Ev.D} {σ : Sl} {S : Sto} {U : Wd} {H : Hp} {τ : L2.St} {cls : Value} {p : Option Addr},
    Rh X.K T U S H → Rs X.K T U σ τ → Rx X.K T U H c v cls p → PostS X.K T U (hands tab l c v σ S) D Wx → wMany X.K Wx D (rdHs X.K T Wx l) cls p τ H
  | [], c, v, σ, S, U, H, τ, cls, p, rh, rs, rx, q => q U H τ cls p (Wd.Le.refl U) rh rs rx
  | (h, suite) :: r, c, v, σ, S, U, H, τ, cls, p, rh, rs, rx, q => by
    have q : PostS X.K T U (match exLk tab c h with | some true => suite σ S | some false => hands tab r c v σ S | none => .bad) D Wx := q
    cases e : exLk tab c h with
    | none => rw [e] at q; exact q.elim
    | some b =>
      rw [e] at q
      refine ⟨b, by rw [rx.1]; exact ht _ _ _ (exLk_in e), fun hb a ha => ?_, fun hb => ?_⟩
      · subst hb; exact ⟨U, σ, S, rs, rh, q⟩
      · subst hb; exact many_of ht rh rs rx q
theorem s_try {body : List Stmt} {h₀ : ExceptHandler} {hds : List ExceptHandler} {cb : C1S} {l : List (Nat × C1S)} {tab : List (Nat × Nat × Bool)} (hs : X.stack = X.env :: X.outer) (hf : X.env.frame = some X.env.locals) (tk : Takes X Wx)
    (hb : ∀ (W : WX) (pn : List (Addr × Obj)) (xe : Value → Shared → Prop), Takes (X.tr pn xe) W → PassesOwn (model X.prog X.w) X.A X.env xe → ESs (X.tr pn xe) T W body cb)
    (ht : ∀ c h b, (c, h, b) ∈ tab → PySem.W.exmOne X.K (.ref (T.ec c)) (.ref (T.ec h)) = some b) (hh : HOk X T Wx (h₀ :: hds) l) : ES X T Wx (.Try body (h₀ :: hds) [] [] pos) (tryC tab cb l) :=
  PS.weak (ps_try_many (tb := fun W => tS X.K T W cb) hs hf tk hb hh.hds) fun D τ H ⟨W, σ, S, rs, rh, p⟩ => by
    refine ⟨W, σ, S, rs, rh, ?_⟩
    unfold tryC at p
    cases q : cb σ S with
    | exc c v σ' S' =>
      rw [q] at p
      exact fun U H' τ' cls a le rh' rs' rx => many_of ht rh' rs' rx (PostS.up (r := hands tab l c v σ' S') le p)
    | nx σ' S' => rw [q] at p; exact p
    | rt d S' => rw [q] at p; exact p
    | bk σ' S' => rw [q] at p; exact p
    | ct σ' S' => rw [q] at p; exact p
    | bad => rw [q] at p; exact p
end
end Ev
/-! Ev, part I1: from the text to own code: expressions. -/
namespace Ev
open PySem L2 PyProof.Rows

/-! ### names -/
def lkS {α : Type} : List (Str × α) → Str → Option α
  | [], _ => none
  | p :: r, x => match strEq x p.1 with
    | true => some p.2
    | false => lkS r x
theorem lkS_eq {α : Type} : ∀ (l : List (Str × α)) (x : Str), lkS l x = l.lookup x
  | [], _ => rfl
  | (k, v) :: r, x => by
    show (match strEq x k with | true => some v | false => lkS r x) = _
    rw [strEq_eq, List.lookup_cons, lkS_eq r x]
    by_cases h : x = k
    · rw [decide_eq_true h, beq_iff_eq.mpr h]
    · rw [decide_eq_false h, beq_eq_false_iff_ne.mpr h]
def ixS : List Str → Str → Nat → Option Nat
  | [], _, _ => none
  | y :: r, x, n => match strEq y x with
    | true => some n
    | false => ixS r x (Nat.succ n)
theorem ixS_ok : ∀ (l : List Str) (x : Str) (n i : Nat), ixS l x n = some i → n ≤ i ∧ l[i - n]? = some x
  | [], _, _, _, h => by cases h
  | y :: r, x, n, i, h => by
    have h' : (match strEq y x with | true => some n | false => ixS r x (Nat.succ n)) = some i := h
    rw [strEq_eq] at h'
    by_cases e : y = x
    · rw [decide_eq_true e] at h'; cases h'; subst e; exact ⟨Nat.le_refl _, by simp⟩
    · rw [decide_eq_false e] at h'
      obtain ⟨a, b⟩ := ixS_ok r x (n + 1) i h'
      refine ⟨by omega, ?_⟩
      have : i - n = (i - (n + 1)) + 1 := by omega
      rw [this, List.getElem?_cons_succ]; exact b
def notDbg (x : Str) : Bool := match strEq x "__debug__" with
  | true => false
  | false => match strEq x "__classdict__" with
    | true => false
    | false => true
theorem notDbg_ok {x : Str} (h : notDbg x = true) : (x == ("__debug__" : Str)) = false ∧ (x == ("__classdict__" : Str)) = false := by
  unfold notDbg at h
  rw [strEq_eq, strEq_eq] at h
  by_cases h1 : x = "__debug__"
  · rw [decide_eq_true h1] at h; cases h
  · rw [decide_eq_false h1] at h
    by_cases h2 : x = "__classdict__"
    · simp only [decide_eq_true h2] at h; cases h
    · exact ⟨beq_eq_false_iff_ne.mpr h1, beq_eq_false_iff_ne.mpr h2⟩

/-! ### what a name of the module is -/
inductive GV where
  | fn (i : Nat)
  | con (d : D)
  | blt
  | exc (c : Nat)
structure CT where
  N : List Str
  sc : Scope
  /-- the names that may be set here -/
  own : List (Str × NameKind)
  gl : List (Str × GV)
  fns : List (List Str)
  mutN : List Str
  ret : Bool
  exm : List (Nat × Nat × Bool)
def GlOk (X : Cx) (T : Ads) (x : Str) : GV → Prop
  | .fn i => X.mg x = some (.ref (T.fn i))
  | .con d => ∃ u v, X.mg x = some u ∧ RelV v u ∧ ∀ W, Rv X.K T W d v
  | .blt => X.mg x = none
  | .exc c => X.mg x = some (.ref (T.ec c)) ∧ ExcFact X T c ∧ T.fld c = none
structure GoodN (X : Cx) (T : Ads) (ct : CT) : Prop where
  N : X.N = ct.N
  nd : X.N.Nodup
  sc : X.env.scope = ct.sc
  own : ∀ x, (ct.own.lookup x = some .local ∨ ct.own.lookup x = some .cell) → Loc X.env.scope x ∧ (X.fn x = true ∨ X.env.scope.names.lookup x = some .local)
  gl : ∀ x g, lkS ct.gl x = some g → GlOk X T x g
structure Good (X : Cx) (T : Ads) (Wx : WX) (ct : CT) (cs : Calls) : Prop extends GoodN X T ct where
  calm : X.calm = true
  tk : Takes X Wx
  units : X.A.units + 65 < cLine
  fns : ∀ i ps, ct.fns[i]? = some ps → FnFact X T i (cs i) ps

abbrev Code1 := Calls → C1
abbrev CodeA := Calls → C1L
abbrev CodeI := Calls → C1I
abbrev CodeS := Calls → C1S

section
variable {X : Cx} {T : Ads} {Wx : WX} {ct : CT} {cs : Calls}
theorem GoodN.ix (G : GoodN X T ct) {x : Str} {i : Nat} (h : ixS ct.N x 0 = some i) : X.N[i]? = some x := by
  obtain ⟨_, b⟩ := ixS_ok _ _ _ _ h
  rw [G.N]; exact b
theorem GoodN.kind (G : GoodN X T ct) {x : Str} {k : NameKind} (h : lkS ct.sc.names x = some k) : X.env.scope.names.lookup x = some k := by
  rw [G.sc, ← lkS_eq]; exact h
/-- a name's place -/
def vName (ct : CT) (x : Str) : Option Nat := match notDbg x with
  | true => ixS ct.N x 0
  | false => none
def isVar : Option NameKind → Bool
  | some .local => true
  | some .cell => true
  | some .free => true
  | _ => false
def isGlo : Option NameKind → Bool
  | some .globalImplicit => true
  | _ => false
theorem GoodN.var (G : GoodN X T ct) {x : Str} {i : Nat} {p : Pos} (hk : isVar (lkS ct.sc.names x) = true) (h : vName ct x = some i) : PE X (.Name x p) (tVar i) := by
  unfold vName at h
  cases q : notDbg x with
  | false => rw [q] at h; cases h
  | true =>
    rw [q] at h
    obtain ⟨a, b⟩ := notDbg_ok q
    refine pe_var (G.ix h) ?_ a b
    cases e : lkS ct.sc.names x with
    | none => rw [e] at hk; cases hk
    | some k =>
      rw [e] at hk
      have := G.kind e
      cases k with
      | «local» => exact .inl this
      | cell => exact .inr (.inl this)
      | free => exact .inr (.inr this)
      | globalExplicit => cases hk
      | globalImplicit => cases hk
theorem GoodN.glo (G : GoodN X T ct) {x : Str} (hk : isGlo (lkS ct.sc.names x) = true) : Gl X x := by
  cases e : lkS ct.sc.names x with
  | none => rw [e] at hk; cases hk
  | some k =>
    rw [e] at hk
    have := G.kind e
    cases k with
    | globalImplicit => exact this
    | _ => cases hk
/-- the name x as a value -/
def cName (ct : CT) (x : Str) : Option Code1 := match isVar (lkS ct.sc.names x) with
  | true => match vName ct x with
    | some i => some fun _ => varC i
    | none => none
  | false => match isGlo (lkS ct.sc.names x) with
    | true => match notDbg x with
      | true => match lkS ct.gl x with
        | some (.con d) => some fun _ => conC d
        | some (.fn i) => some fun _ => conC (.fn i)
        | _ => none
      | false => none
    | false => none
theorem cName_ok (G : GoodN X T ct) {x : Str} {p : Pos} {r : Code1} (h : cName ct x = some r) : EE X T Wx (.Name x p) (r cs) := by
  unfold cName at h
  cases q : isVar (lkS ct.sc.names x) with
  | true =>
    rw [q] at h
    have h : (match vName ct x with | some i => some fun _ => varC i | none => none) = some r := h
    cases q2 : vName ct x with
    | none => rw [q2] at h; cases h
    | some i => rw [q2] at h; cases h; exact e_var (G.var q q2)
  | false =>
    simp only [q] at h
    cases q2 : isGlo (lkS ct.sc.names x) with
    | false => simp only [q2] at h; cases h
    | true =>
      simp only [q2] at h
      cases q3 : notDbg x with
      | false => simp only [q3] at h; cases h
      | true =>
        simp only [q3] at h
        obtain ⟨db, _⟩ := notDbg_ok q3
        cases q4 : lkS ct.gl x with
        | none => simp only [q4] at h; cases h
        | some g =>
          have ok := G.gl x g q4
          simp only [q4] at h
          cases g with
          | con d =>
            cases h
            obtain ⟨u, v, hm, rv, hd⟩ := ok
            exact e_con (pe_glob (G.glo q2) hm rv db) hd
          | fn i => cases h; exact e_con (pe_glob (v := .ref (T.fn i)) (G.glo q2) ok rfl db) fun W => rfl
          | blt => cases h
          | exc c => cases h
/-! ### constants -/
def cConst : Const → Option Code1
  | .int i => some fun _ => conC (.int i)
  | .bool b => some fun _ => conC (.bl b)
  | .none => some fun _ => conC .non
  | .str x => some fun _ => conC (.str x)
  | _ => none
theorem cConst_ok {k : Const} {j : Nat} {p : Pos} {r : Code1} (h : cConst k = some r) : EE X T Wx (.Constant k j p) (r cs) := by
  cases k <;> first | (cases h; done) | skip
  all_goals (cases h)
  all_goals first
    | exact e_con pe_non fun W => rfl
    | exact e_con pe_bl fun W => rfl
    | exact e_con pe_int fun W => rfl
    | exact e_con pe_str fun W => rfl
/-! ### targets -/
mutual
def cTg : Nat → CT → Expr → Option Tg
  | 0, _, _ => none
  | Nat.succ n, ct, e => match e with
    | .Name x _ => match isVar (lkS ct.own x) with
      | true => match strEq x "__debug__" with
        | true => none
        | false => match lkS ct.own x with
          | some .free => none
          | _ => match ixS ct.N x 0 with
            | some i => some (.nm i)
            | none => none
      | false => none
    | .Tuple es _ _ => match cTgs n ct es with
      | some ts => some (.tp ts)
      | none => none
    | _ => none
def cTgs : Nat → CT → List Expr → Option (List Tg)
  | 0, _, _ => none
  | Nat.succ n, ct, es => match es with
    | [] => some []
    | e :: es => match cTg n ct e with
      | some t => match cTgs n ct es with
        | some ts => some (t :: ts)
        | none => none
      | none => none
end
theorem cTg_len : ∀ {n : Nat} {es : List Expr} {ts : List Tg} {env : Env}, cTgs n ct es = some ts → (assignEach es env).length = ts.length ∧ (assignEach es env).findIdx? (·.1) = none
  | 0, _, _, _, h => by cases h
  | n + 1, [], ts, env, h => by cases h; exact ⟨rfl, rfl⟩
  | n + 1, e :: es, ts, env, h => by
    have h' : (match cTg n ct e with | some t => (match cTgs n ct es with | some ts => some (t :: ts) | none => none) | none => none) = some ts := h
    cases q : cTg n ct e with
    | none => rw [q] at h'; cases h'
    | some t =>
      rw [q] at h'
      cases q2 : cTgs n ct es with
      | none => rw [q2] at h'; cases h'
      | some us =>
        rw [q2] at h'; cases h'
        obtain ⟨a, b⟩ := cTg_len (env := env) q2
        have ns : assignEach (e :: es) env = (false, assign e env) :: assignEach es env := by
          cases n with
          | zero => cases q
          | succ n => cases e <;> first | rfl | cases q
        rw [ns]
        refine ⟨by rw [List.length_cons, List.length_cons, a], ?_⟩
        rw [List.findIdx?_cons, b] <;> rfl
mutual
theorem cTg_ok (G : Good X T Wx ct cs) : ∀ (n : Nat) {e : Expr} {t : Tg}, cTg n ct e = some t → PG X e (tG X.K T t)
  | 0, _, _, h => by cases h
  | n + 1, e, t, h => by
    cases e with
    | Name x p =>
      have h' : (match isVar (lkS ct.own x) with
        | true => match strEq x "__debug__" with
          | true => none
          | false => match lkS ct.own x with
            | some .free => none
            | _ => match ixS ct.N x 0 with
              | some i => some (Tg.nm i)
              | none => none
        | false => none) = some t := h
      have key : (lkS ct.own x = some .local ∨ lkS ct.own x = some .cell) ∧ (match ixS ct.N x 0 with | some i => some (Tg.nm i) | none => none) = some t := by
        cases q : lkS ct.own x with
        | none => rw [q] at h'; cases h'
        | some k =>
          rw [q] at h'
          cases k with
          | globalExplicit => cases h'
          | globalImplicit => cases h'
          | «local» =>
            refine ⟨.inl rfl, ?_⟩
            cases z : strEq x "__debug__" with
            | true => simp only [isVar, z] at h'; cases h'
            | false => simp only [isVar, z] at h'; exact h'
          | cell =>
            refine ⟨.inr rfl, ?_⟩
            cases z : strEq x "__debug__" with
            | true => simp only [isVar, z] at h'; cases h'
            | false => simp only [isVar, z] at h'; exact h'
          | free =>
            exfalso
            cases z : strEq x "__debug__" with
            | true => simp only [isVar, z] at h'; cases h'
            | false => simp only [isVar, z] at h'; cases h'
      obtain ⟨k1, k2⟩ := key
      cases q : ixS ct.N x 0 with
      | none => rw [q] at k2; cases k2
      | some i =>
        rw [q] at k2; cases k2
        rw [lkS_eq] at k1
        obtain ⟨a, b⟩ := G.own x k1
        exact g_name G.nd (G.ix q) a b
    | Tuple es k p =>
      have h' : (match cTgs n ct es with | some ts => some (Tg.tp ts) | none => none) = some t := h
      cases q : cTgs n ct es with
      | none => rw [q] at h'; cases h'
      | some ts =>
        rw [q] at h'; cases h'
        obtain ⟨a, b⟩ := cTg_len (env := X.env) q
        exact g_tup G.calm (cTgs_ok G n q) a b
    | _ => cases h
theorem cTgs_ok (G : Good X T Wx ct cs) : ∀ (n : Nat) {es : List Expr} {ts : List Tg}, cTgs n ct es = some ts → PGs X es (tGs X.K T ts)
  | 0, _, _, h => by cases h
  | n + 1, [], ts, h => by cases h; exact gs_nil
  | n + 1, e :: es, ts, h => by
    have h' : (match cTg n ct e with | some t => (match cTgs n ct es with | some ts => some (t :: ts) | none => none) | none => none) = some ts := h
    cases q : cTg n ct e with
    | none => rw [q] at h'; cases h'
    | some t =>
      rw [q] at h'
      cases q2 : cTgs n ct es with
      | none => rw [q2] at h'; cases h'
      | some us =>
        rw [q2] at h'; cases h'
        refine gs_cons (cTg_ok G n q) (cTgs_ok G n q2) ?_
        cases n with
        | zero => cases q
        | succ n => cases e <;> first | rfl | cases q
end

/-! ### built-ins by name -/
inductive BF where
  | len | tuple | list | all | any | sum | min | max | abs | int
def BF.nm : BF → Str
  | .len => "len"
  | .tuple => "tuple"
  | .list => "list"
  | .all => "all"
  | .any => "any"
  | .sum => "sum"
  | .min => "min"
  | .max => "max"
  | .abs => "abs"
  | .int => "int"
def BF.f (m : Bool) : BF → List D → Sto → Res
  | .len => lenF
  | .tuple => tupleF
  | .list => listF m
  | .all => foldF allT
  | .any => foldF anyT
  | .sum => sumF
  | .min => endF minI
  | .max => endF maxI
  | .abs => absF
  | .int => intF
def bfIn (x : Str) : List BF → Option BF
  | [] => none
  | b :: r => match strEq x b.nm with
    | true => some b
    | false => bfIn x r
def bfBy (x : Str) : Option BF := bfIn x [.len, .tuple, .all, .list, .any, .sum, .min, .max, .abs, .int]
theorem bfIn_ok {x : Str} : ∀ {l : List BF} {b : BF}, bfIn x l = some b → x = b.nm
  | [], _, h => by cases h
  | c :: r, b, h => by
    have h' : (match strEq x c.nm with | true => some c | false => bfIn x r) = some b := h
    rw [strEq_eq] at h'
    by_cases q : x = c.nm
    · rw [decide_eq_true q] at h'; cases h'; exact q
    · rw [decide_eq_false q] at h'; exact bfIn_ok h'
theorem e_bf {b : BF} {m : Bool} {e : Expr} {es : List Expr} {ca : C1L} {p pos : Pos} (hc : X.calm = true) (hg : Gl X b.nm) (hm : X.mg b.nm = none) (ha : EA X T Wx (e :: es) ca) (hs : noStar (e :: es) = true) :
    EE X T Wx (.Call (.Name b.nm p) (e :: es) [] pos) (apC (b.f m) ca) := by
  cases b
  · exact e_callB c_len hg hm (by kernel_rfl) ha hs (by decide +kernel) (by decide +kernel)
  · exact e_callTy c_tuple hg hm (by kernel_rfl) ha hs (by decide +kernel) (by decide +kernel)
  · exact e_callTy c_list hg hm (by kernel_rfl) ha hs (by decide +kernel) (by decide +kernel)
  · exact e_callB (c_all hc) hg hm (by kernel_rfl) ha hs (by decide +kernel) (by decide +kernel)
  · exact e_callB (c_any hc) hg hm (by kernel_rfl) ha hs (by decide +kernel) (by decide +kernel)
  · exact e_callB (c_sum hc) hg hm (by kernel_rfl) ha hs (by decide +kernel) (by decide +kernel)
  · exact e_callB (c_min hc) hg hm (by kernel_rfl) ha hs (by decide +kernel) (by decide +kernel)
  · exact e_callB (c_max hc) hg hm (by kernel_rfl) ha hs (by decide +kernel) (by decide +kernel)
  · exact e_callB c_abs hg hm (by kernel_rfl) ha hs (by decide +kernel) (by decide +kernel)
  · exact e_callTy c_int hg hm (by kernel_rfl) ha hs (by decide +kernel) (by decide +kernel)

/-! ### calls by name -/
/-- a built-in of the module's names -/
def isBlt (ct : CT) (x : Str) : Bool := match isGlo (lkS ct.sc.names x) with
  | true => match lkS ct.gl x with
    | some .blt => true
    | _ => false
  | false => false
theorem isBlt_ok (G : Good X T Wx ct cs) {x : Str} (h : isBlt ct x = true) : Gl X x ∧ X.mg x = none := by
  unfold isBlt at h
  cases q : isGlo (lkS ct.sc.names x) with
  | false => rw [q] at h; cases h
  | true =>
    simp only [q] at h
    refine ⟨G.glo q, ?_⟩
    cases q2 : lkS ct.gl x with
    | none => simp only [q2] at h; cases h
    | some g =>
      simp only [q2] at h
      cases g with
      | blt => exact G.gl x _ q2
      | _ => cases h
def fnBy (ct : CT) (x : Str) : Option Nat := match isGlo (lkS ct.sc.names x) with
  | true => match strEq x "__debug__" with
    | true => none
    | false => match lkS ct.gl x with
      | some (.fn i) => some i
      | _ => none
  | false => none
theorem fnBy_ok (G : Good X T Wx ct cs) {x : Str} {i : Nat} (h : fnBy ct x = some i) : Gl X x ∧ X.mg x = some (.ref (T.fn i)) ∧ (x == ("__debug__" : Str)) = false := by
  unfold fnBy at h
  cases q : isGlo (lkS ct.sc.names x) with
  | false => rw [q] at h; cases h
  | true =>
    simp only [q, strEq_eq] at h
    refine ⟨G.glo q, ?_⟩
    by_cases z : x = "__debug__"
    · simp only [decide_eq_true z] at h; cases h
    · simp only [decide_eq_false z] at h
      refine ⟨?_, beq_eq_false_iff_ne.mpr z⟩
      cases q2 : lkS ct.gl x with
      | none => simp only [q2] at h; cases h
      | some g =>
        simp only [q2] at h
        cases g with
        | fn j => cases h; exact G.gl x _ q2
        | _ => cases h
def lenIs {α : Type} : List α → Nat → Bool
  | [], n => Nat.beq n 0
  | _ :: r, n => match n with
    | 0 => false
    | Nat.succ n => lenIs r n
theorem lenIs_ok {α : Type} : ∀ {l : List α} {n : Nat}, lenIs l n = true → l.length = n
  | [], n, h => by have := Nat.eq_of_beq_eq_true (show Nat.beq n 0 = true from h); subst this; rfl
  | _ :: r, 0, h => by cases h
  | _ :: r, n + 1, h => by rw [List.length_cons, lenIs_ok (l := r) (n := n) h]
/-- a def called -/
def cCall (ct : CT) (i : Nat) (es : List Expr) (kws : List Keyword) (ca ck : CodeA) : Option Code1 := match ct.fns[i]? with
  | none => none
  | some ps => match kws with
    | [] => match lenIs es ps.length with
      | true => some fun cs => callC (cs i) (ca cs)
      | false => none
    | _ :: _ => match Nat.beq (es.length + kws.length) ps.length with
      | true => match kwsAre kws (ps.drop es.length) with
        | true => match es with
          | [] => some fun cs => callC (cs i) (ck cs)
          | _ :: _ => some fun cs => callK (cs i) (ca cs) (ck cs)
        | false => none
      | false => none
theorem cCall_ok (G : Good X T Wx ct cs) {x : Str} {i : Nat} {es : List Expr} {kws : List Keyword} {ca ck : CodeA} {r : Code1} {p pos : Pos} (hf : fnBy ct x = some i) (h : cCall ct i es kws ca ck = some r) (ha : EA X T Wx es (ca cs)) (hk : EK X T Wx kws (ck cs))
    (hl : LenL (ca cs) es.length) (hlk : LenL (ck cs) kws.length) (hs : noStar es = true) (h0 : es = [] → ca cs = aNil) : EE X T Wx (.Call (.Name x p) es kws pos) (r cs) := by
  obtain ⟨g1, g2, g3⟩ := fnBy_ok G hf
  unfold cCall at h
  cases q : ct.fns[i]? with
  | none => rw [q] at h; cases h
  | some ps =>
    rw [q] at h
    have F := G.fns i ps q
    cases kws with
    | nil =>
      have h : (match lenIs es ps.length with | true => some fun cs => callC (cs i) (ca cs) | false => none) = some r := h
      cases q2 : lenIs es ps.length with
      | false => rw [q2] at h; cases h
      | true =>
        rw [q2] at h; cases h
        have hn := lenIs_ok q2
        cases es with
        | nil =>
          have e0 : ca cs = aNil := h0 rfl
          show EE X T Wx _ (callC (cs i) (ca cs))
          rw [e0]
          exact e_call0 F G.tk g1 g2 g3 hn.symm
        | cons e es => exact e_call F G.tk g1 g2 g3 ha (hn ▸ hl) hs
    | cons k kws =>
      dsimp only at h
      cases q2 : Nat.beq (es.length + (k :: kws).length) ps.length with
      | false => rw [q2] at h; cases h
      | true =>
        have hn := Nat.eq_of_beq_eq_true q2
        rw [q2] at h
        cases q3 : kwsAre (k :: kws) (ps.drop es.length) with
        | false => simp only [q3] at h; cases h
        | true =>
          simp only [q3] at h
          cases es with
          | nil => cases h; exact e_callK0 F G.tk g1 g2 g3 hk hlk (by simpa using hn) q3
          | cons e es => cases h; exact e_callK F G.tk g1 g2 g3 ha hk hl hlk hn q3 hs
end
end Ev
/-! Ev, part I2: the translation of expressions. -/
namespace Ev
open PySem L2 PyProof.Rows

def ob {α β : Type} (o : Option α) (k : α → Option β) : Option β := match o with
  | some a => k a
  | none => none
theorem ob_some {α β : Type} {o : Option α} {k : α → Option β} {r : β} (h : ob o k = some r) : ∃ a, o = some a ∧ k a = some r := by
  cases o with
  | none => cases h
  | some a => exact ⟨a, rfl, h⟩
def gB {β : Type} (b : Bool) (k : Option β) : Option β := match b with
  | true => k
  | false => none
theorem gB_some {β : Type} {b : Bool} {k : Option β} {r : β} (h : gB b k = some r) : b = true ∧ k = some r := by
  cases b with
  | false => cases h
  | true => exact ⟨rfl, h⟩
/-- the block's own names with their places -/
def ownOf (N : List Str) : List (Str × NameKind) → List (Str × Nat)
  | [] => []
  | (x, k) :: r => match k with
    | .local => match ixS N x 0 with
      | some i => (x, i) :: ownOf N r
      | none => ownOf N r
    | .cell => match ixS N x 0 with
      | some i => (x, i) :: ownOf N r
      | none => ownOf N r
    | _ => ownOf N r
def inIx : List Nat → List (Str × Nat) → Bool
  | [], _ => true
  | j :: js, l => match l.any fun p => Nat.beq p.2 j with
    | true => inIx js l
    | false => false
theorem inIx_ok : ∀ {js : List Nat} {l : List (Str × Nat)}, inIx js l = true → ∀ j ∈ js, j ∈ l.map (·.2)
  | [], _, _, _, h => by simp at h
  | i :: js, l, h, j, hj => by
    have h' : (match l.any fun p => Nat.beq p.2 i with | true => inIx js l | false => false) = true := h
    cases q : l.any fun p => Nat.beq p.2 i with
    | false => rw [q] at h'; cases h'
    | true =>
      rw [q] at h'
      rcases List.mem_cons.mp hj with rfl | hj
      · obtain ⟨p, hp, e⟩ := List.any_eq_true.mp q
        exact List.mem_map.mpr ⟨p, hp, Nat.eq_of_beq_eq_true e⟩
      · exact inIx_ok h' j hj
def CT.blk (ct : CT) (scope : Scope) : CT := { ct with sc := relS scope ct.sc, own := scope.names }
def allBlt (ct : CT) : List Expr → Bool
  | [] => true
  | .Name x _ :: r => match isBlt ct x with
    | true => allBlt ct r
    | false => false
  | _ => false
def plainTest : Expr → Bool
  | .UnaryOp .Not _ _ => false
  | .BoolOp .. => false
  | .IfExp .. => false
  | .Compare .. => false
  | _ => true
def isTupE : Expr → Bool
  | .Tuple .. => true
  | _ => false
/-- -1 -/
def isM1 : Expr → Bool
  | .UnaryOp .USub (.Constant (.int (.ofNat 1)) _ _) _ => true
  | _ => false
theorem isM1_ok {e : Expr} (h : isM1 e = true) : ∃ k p1 p2, e = .UnaryOp .USub (.Constant (.int 1) k p1) p2 := by
  unfold isM1 at h
  split at h
  · exact ⟨_, _, _, rfl⟩
  · cases h
/-- one clause -/
def gen1 : List Comprehension → Option (Expr × Expr × List Expr)
  | [⟨t, iter, ifs, .ofNat 0⟩] => some (t, iter, ifs)
  | _ => none
theorem gen1_ok {g : List Comprehension} {r : Expr × Expr × List Expr} (h : gen1 g = some r) : g = [⟨r.1, r.2.1, r.2.2, 0⟩] := by
  unfold gen1 at h
  split at h
  · cases h; rfl
  · cases h
/-- what a loop's iterable is: 1 range, 2 zip, 3 enumerate -/
def iterK (ct : CT) : Expr → Nat
  | .Call (.Name x _) _ [] _ => match isBlt ct x with
    | true => match strEq x "range" with
      | true => 1
      | false => match strEq x "zip" with
        | true => 2
        | false => match strEq x "enumerate" with
          | true => 3
          | false => 0
    | false => 0
  | _ => 0
mutual
def cE : Nat → CT → Bool → Expr → Option Code1
  | 0, _, _, _ => none
  | Nat.succ n, ct, m, e => match e with
    | .Constant k _ _ => cConst k
    | .Name x _ => cName ct x
    | .BinOp a op b _ => ob (cE n ct false a) fun ca => ob (cE n ct false b) fun cb => some fun cs => b2C (dOp m op) (ca cs) (cb cs)
    | .UnaryOp op a _ => match op with
      | .Not => ob (cE n ct false a) fun ca => some fun cs => u1C notF (ca cs)
      | .USub => ob (cE n ct false a) fun ca => some fun cs => u1C negF (ca cs)
      | _ => none
    | .BoolOp op vs _ => cB n ct op vs
    | .Compare a ops bs _ => match ops with
      | [op] => match bs with
        | [b] => gB (notSet b) (ob (cE n ct false a) fun ca => ob (cE n ct false b) fun cb => some fun cs => b2C (dCmp op) (ca cs) (cb cs))
        | _ => none
      | [op, op'] => match bs with
        | [b, c] => gB (notSet c) (ob (cE n ct false a) fun ca => ob (cE n ct false b) fun cb => ob (cE n ct false c) fun cc => some fun cs => chC (dCmp op) (dCmp op') (ca cs) (cb cs) (cc cs))
        | _ => none
      | _ => none
    | .IfExp c a b _ => ob (cT n ct c) fun cc => ob (cE n ct m a) fun ca => ob (cE n ct m b) fun cb => some fun cs => ifC (cc cs) (ca cs) (cb cs)
    | .Call f es kws pos => cCl n ct m f es kws pos
    | .Tuple es _ _ => gB (noStar es) (ob (cA n ct es) fun ca => some fun cs => tupC (ca cs))
    | .List es _ => gB (noStar es) (ob (cA n ct es) fun ca => some fun cs => lisC m (ca cs))
    | .ListComp elt gens scope _ => ob (gen1 gens) fun g => cL n ct m elt g.1 g.2.1 g.2.2 scope
    | .Subscript a s _ => match s with
      | .Slice lo hi st _ => match st with
        | none => ob (cE n ct false a) fun ca => ob (cP n ct lo) fun cl => ob (cP n ct hi) fun ch => some fun cs => cutC m (ca cs) (cl.map fun c => c cs) (ch.map fun c => c cs)
        | some st => gB (isM1 st) (match lo with
          | none => match hi with
            | none => ob (cE n ct false a) fun ca => some fun cs => u1C (revF m) (ca cs)
            | some _ => none
          | some _ => none)
      | s => gB (plainIx s) (ob (cE n ct false a) fun ca => ob (cE n ct false s) fun cb => some fun cs => b2C dIx (ca cs) (cb cs))
    | _ => none
def cP : Nat → CT → Option Expr → Option (Option Code1)
  | 0, _, _ => none
  | Nat.succ n, ct, o => match o with
    | none => some none
    | some e => ob (cE n ct false e) fun c => some (some c)
def cB : Nat → CT → BoolOp → List Expr → Option Code1
  | 0, _, _, _ => none
  | Nat.succ n, ct, op, vs => match vs with
    | [] => none
    | a :: r => match r with
      | [] => cE n ct false a
      | b :: r => ob (cE n ct false a) fun ca => ob (cB n ct op (b :: r)) fun cb => match op with
        | .And => some fun cs => andC (ca cs) (cb cs)
        | .Or => some fun cs => orC (ca cs) (cb cs)
def cT : Nat → CT → Expr → Option Code1
  | 0, _, _ => none
  | Nat.succ n, ct, e => match plainTest e with
    | true => ob (cE n ct false e) fun c => some fun cs => truC (c cs)
    | false => match e with
      | .UnaryOp .Not a _ => ob (cT n ct a) fun ca => some fun cs => tNotC (ca cs)
      | .BoolOp op vs _ => cTB n ct op vs
      | .Compare a ops bs _ => match ops with
        | [op] => match bs with
          | [b] => gB (notSet b) (ob (cE n ct false a) fun ca => ob (cE n ct false b) fun cb => some fun cs => b2C (dCmp op) (ca cs) (cb cs))
          | _ => none
        | [op, op'] => match bs with
          | [b, c] => gB (notSet c) (ob (cE n ct false a) fun ca => ob (cE n ct false b) fun cb => ob (cE n ct false c) fun cc => some fun cs => chC (dCmp op) (dCmp op') (ca cs) (cb cs) (cc cs))
          | _ => none
        | _ => none
      | _ => none
def cTB : Nat → CT → BoolOp → List Expr → Option Code1
  | 0, _, _, _ => none
  | Nat.succ n, ct, op, vs => match vs with
    | [] => none
    | a :: r => match r with
      | [] => cT n ct a
      | b :: r => ob (cT n ct a) fun ca => ob (cTB n ct op (b :: r)) fun cb => match op with
        | .And => some fun cs => tAndC (ca cs) (cb cs)
        | .Or => some fun cs => tOrC (ca cs) (cb cs)
def cA : Nat → CT → List Expr → Option CodeA
  | 0, _, _ => none
  | Nat.succ n, ct, es => match es with
    | [] => some fun _ => aNil
    | e :: es => ob (cE n ct false e) fun c => ob (cA n ct es) fun r => some fun cs => aCons (c cs) (r cs)
def cK : Nat → CT → List Keyword → Option CodeA
  | 0, _, _ => none
  | Nat.succ n, ct, es => match es with
    | [] => some fun _ => aNil
    | ⟨_, e, _⟩ :: es => ob (cE n ct false e) fun c => ob (cK n ct es) fun r => some fun cs => aCons (c cs) (r cs)
def cCl : Nat → CT → Bool → Expr → List Expr → List Keyword → Pos → Option Code1
  | 0, _, _, _, _, _, _ => none
  | Nat.succ n, ct, m, f, es, kws, pos => match f with
    | .Name x _ => match isVar (lkS ct.sc.names x) with
      | true => match kws with
        | [] => match es with
          | [] => none
          | e :: es => gB (noStar (e :: es)) (ob (vName ct x) fun j => ob (cA n ct (e :: es)) fun ca => some fun cs => callV cs (ct.fns.map fun ps => ps.length) j (ca cs))
        | _ :: _ => none
      | false => match fnBy ct x with
        | some i => gB (noStar es) (ob (cA n ct es) fun ca => ob (cK n ct kws) fun ck => cCall ct i es kws ca ck)
        | none => match kws with
          | [] => gB (isBlt ct x) (cBl n ct m x es)
          | _ :: _ => none
    | .Attribute o nm ap => match o with
      | .Name x _ => match kws with
        | [] => match es with
          | [e] => gB (strEq nm "append") (gB (noStar [e]) (gB (Nat.beq ap.endLine pos.line) (gB (isVar (lkS ct.sc.names x)) (ob (vName ct x) fun j => ob (cE n ct false e) fun c => some fun cs => appC j (c cs)))))
          | _ => none
        | _ :: _ => none
      | _ => none
    | _ => none
def cBl : Nat → CT → Bool → Str → List Expr → Option Code1
  | 0, _, _, _, _ => none
  | Nat.succ n, ct, m, x, es => match strEq x "isinstance" with
    | true => match es with
      | [a, t] => gB (noStar [a]) (match t with
        | .Name y _ => gB (isBlt ct y) (ob (btBy y) fun t => ob (cE n ct false a) fun ca => some fun cs => u1C (isiF [t]) (ca cs))
        | .Tuple ts _ _ => gB (allBlt ct ts) (ob (btsBy ts) fun us => gB (small us.length) (ob (cE n ct false a) fun ca => some fun cs => u1C (isiF us) (ca cs)))
        | _ => none)
      | _ => none
    | false => ob (bfBy x) fun b => match es with
      | [] => none
      | e :: es => gB (noStar (e :: es)) (ob (cA n ct (e :: es)) fun ca => some fun cs => apC (b.f m) (ca cs))
def cI : Nat → CT → Expr → Expr → Option CodeI
  | 0, _, _, _ => none
  | Nat.succ n, ct, tg, it => match iterK ct it with
    | 1 => match it with
      | .Call _ es _ _ => gB (noStar es) (gB (match es with
        | [_] => true
        | [_, _] => true
        | _ => false) (ob (cA n ct es) fun ca => some fun cs => apI rngI (ca cs)))
      | _ => none
    | 2 => match it with
      | .Call _ es _ _ => gB (isTupE tg) (gB (noStar es) (gB (lenIs es 2) (ob (cA n ct es) fun ca => some fun cs => apI zipI (ca cs))))
      | _ => none
    | 3 => match it with
      | .Call _ es _ _ => gB (isTupE tg) (gB (noStar es) (gB (lenIs es 1) (ob (cA n ct es) fun ca => some fun cs => apI enmI (ca cs))))
      | _ => none
    | _ => ob (cE n ct false it) fun c => some fun cs => seqI (c cs)
def cL : Nat → CT → Bool → Expr → Expr → Expr → List Expr → Scope → Option Code1
  | 0, _, _, _, _, _, _, _ => none
  | Nat.succ n, ct, m, elt, t, iter, ifs, scope =>
    gB (notSet iter) (gB (blkC ct.N ct.sc scope (ownOf ct.N scope.names)) (ob (cTg 20 (ct.blk scope) t) fun tg => gB (inIx tg.ix (ownOf ct.N scope.names)) (ob (cI n ct t iter) fun ci =>
      ob (cE n (ct.blk scope) false elt) fun ce => match ifs with
        | [] => some fun cs => lcC m (ci cs) ((ownOf ct.N scope.names).map (·.2)) tg yesC (ce cs)
        | [c] => ob (cT n (ct.blk scope) c) fun cc => some fun cs => lcC m (ci cs) ((ownOf ct.N scope.names).map (·.2)) tg (cc cs) (ce cs)
        | _ => none)))
end
end Ev
/-! Ev, part I3: the translation of expressions keeps its reading. -/
namespace Ev
open PySem L2 PyProof.Rows
theorem notSet_b {op : CmpOp} {b : Expr} (h : notSet b = true) : behindInMarks op b = false := by cases b <;> first | rfl | cases h
theorem lookup_rel {scope sc : Scope} {x : Str} : (relS scope sc).names.lookup x = (scope.names.lookup x).map fun k => if (k == .free && sc.kind == .function && sc.names.lookup x == some .cell) then .cell else k := by
  show (scope.names.map _).lookup x = _
  induction scope.names with
  | nil => rfl
  | cons p r ih =>
    obtain ⟨y, k⟩ := p
    by_cases h : x = y
    · subst h
      rw [List.map_cons, List.lookup_cons]
      by_cases c : (k == NameKind.free && sc.kind == ScopeKind.function && List.lookup x sc.names == some NameKind.cell) = true
      · simp only [c, if_true, beq_self_eq_true, List.lookup_cons, Option.map_some]
      · simp only [c, beq_self_eq_true, List.lookup_cons, Option.map_some, Bool.false_eq_true, if_false]
    · have ne : (x == y) = false := beq_eq_false_iff_ne.mpr h
      rw [List.map_cons, List.lookup_cons, List.lookup_cons, ne, ← ih]
      by_cases c : (k == NameKind.free && sc.kind == ScopeKind.function && List.lookup y sc.names == some NameKind.cell) = true
      · simp only [c, if_true, ne]
      · simp only [c, ne, Bool.false_eq_true, if_false]
theorem takesF {X : Cx} : Takes X WF := fun _ _ ⟨_, _, _, _, _, _, _, _, _, _, _, _, _, _, _, _, w⟩ => w.elim
section
variable {X : Cx} {T : Ads} {Wx : WX} {ct : CT} {cs : Calls}
theorem Good.blk (G : Good X T Wx ct cs) (scope : Scope) (s : Shared) (H : Hp) (C : Addr) (cl : List (Str × Addr)) (fp : List Addr) : Good (Blk X scope s H C cl fp) T WF (ct.blk scope) cs where
  N := G.N
  nd := G.nd
  sc := by
    show relS scope X.env.scope = relS scope ct.sc
    rw [G.sc]
  own := fun x hx => by
    have hx : scope.names.lookup x = some .local ∨ scope.names.lookup x = some .cell := hx
    have e : ∀ k, scope.names.lookup x = some k → k ≠ .free → (relS scope X.env.scope).names.lookup x = some k := fun k hk nf => by
      rw [lookup_rel, hk]
      simp [nf]
    rcases hx with hx | hx
    · exact ⟨.inl (e _ hx (by decide)), .inr (e _ hx (by decide))⟩
    · exact ⟨.inr (e _ hx (by decide)), .inl (by show (scope.names.lookup x == some .cell) = true; rw [hx] <;> rfl)⟩
  calm := G.calm
  tk := takesF
  units := G.units
  gl := fun x g hg => by
    have := G.gl x g hg
    cases g with
    | exc c => exact ⟨this.1, ⟨this.2.1.ex, this.2.1.kp, this.2.1.sub, this.2.1.ty⟩, this.2.2⟩
    | fn i => exact this
    | con d => exact this
    | blt => exact this
  fns := fun i ps h => ⟨(G.fns i ps h).ex, (G.fns i ps h).keep⟩
theorem allBlt_ok (G : Good X T Wx ct cs) : ∀ {es : List Expr}, allBlt ct es = true → ∀ x p, .Name x p ∈ es → Gl X x ∧ X.mg x = none
  | [], _, _, _, h => by simp at h
  | e :: es, h, x, p, hm => by
    cases e with
    | Name y q =>
      have h' : (match isBlt ct y with | true => allBlt ct es | false => false) = true := h
      cases z : isBlt ct y with
      | false => rw [z] at h'; cases h'
      | true =>
        rw [z] at h'
        rcases List.mem_cons.mp hm with e | hm
        · cases e; exact isBlt_ok G z
        · exact allBlt_ok G h' x p hm
    | _ => cases h
theorem plainTest_ok {e : Expr} {env : Env} (h : plainTest e = true) : ∀ whole, isTrue e env whole = (do let v ← whole; standAt e.pos; holding [v] (truthy v)) := fun whole => by
  cases e with
  | UnaryOp op a p => cases op <;> first | rfl | cases h
  | _ => first | rfl | cases h
theorem PW.pt {e : Expr} {t : TT} (h : PW X e t) : PT X e t := ⟨fun pins s σ H Q I q => h.run _ pins s σ H Q I q⟩
structure Snd (n : Nat) : Prop where
  e : ∀ {X : Cx} {T : Ads} {Wx : WX} {ct : CT} {cs : Calls} {m : Bool} {ex : Expr} {r : Code1}, Good X T Wx ct cs → cE n ct m ex = some r → EE X T Wx ex (r cs)
  p : ∀ {X : Cx} {T : Ads} {Wx : WX} {ct : CT} {cs : Calls} {o : Option Expr} {r : Option Code1}, Good X T Wx ct cs → cP n ct o = some r → PartOk X T Wx o (r.map fun c => c cs)
  b : ∀ {X : Cx} {T : Ads} {Wx : WX} {ct : CT} {cs : Calls} {op : BoolOp} {vs : List Expr} {r : Code1} {pos : Pos}, Good X T Wx ct cs → cB n ct op vs = some r → EE X T Wx (.BoolOp op vs pos) (r cs)
  t : ∀ {X : Cx} {T : Ads} {Wx : WX} {ct : CT} {cs : Calls} {ex : Expr} {r : Code1}, Good X T Wx ct cs → cT n ct ex = some r → ET X T Wx ex (r cs)
  tb : ∀ {X : Cx} {T : Ads} {Wx : WX} {ct : CT} {cs : Calls} {op : BoolOp} {vs : List Expr} {r : Code1} {pos : Pos}, Good X T Wx ct cs → cTB n ct op vs = some r → EW X T Wx (.BoolOp op vs pos) (r cs)
  a : ∀ {X : Cx} {T : Ads} {Wx : WX} {ct : CT} {cs : Calls} {es : List Expr} {r : CodeA}, Good X T Wx ct cs → cA n ct es = some r → noStar es = true → EA X T Wx es (r cs) ∧ LenL (r cs) es.length ∧ (es = [] → r cs = aNil)
  k : ∀ {X : Cx} {T : Ads} {Wx : WX} {ct : CT} {cs : Calls} {es : List Keyword} {r : CodeA}, Good X T Wx ct cs → cK n ct es = some r → EK X T Wx es (r cs) ∧ LenL (r cs) es.length
  cl : ∀ {X : Cx} {T : Ads} {Wx : WX} {ct : CT} {cs : Calls} {m : Bool} {f : Expr} {es : List Expr} {kws : List Keyword} {pos : Pos} {r : Code1}, Good X T Wx ct cs → cCl n ct m f es kws pos = some r → EE X T Wx (.Call f es kws pos) (r cs)
  bl : ∀ {X : Cx} {T : Ads} {Wx : WX} {ct : CT} {cs : Calls} {m : Bool} {x : Str} {es : List Expr} {p pos : Pos} {r : Code1}, Good X T Wx ct cs → isBlt ct x = true → cBl n ct m x es = some r → EE X T Wx (.Call (.Name x p) es [] pos) (r cs)
  i : ∀ {X : Cx} {T : Ads} {Wx : WX} {ct : CT} {cs : Calls} {tg it : Expr} {r : CodeI}, Good X T Wx ct cs → cI n ct tg it = some r → EI X T Wx tg it (r cs)
  l : ∀ {X : Cx} {T : Ads} {Wx : WX} {ct : CT} {cs : Calls} {m : Bool} {elt t iter : Expr} {ifs : List Expr} {scope : Scope} {r : Code1}, Good X T Wx ct cs → cL n ct m elt t iter ifs scope = some r →
    ∃ (tg : Tg) (tt te : C1) (it : C1I), r cs = lcC m it ((ownOf ct.N scope.names).map (·.2)) tg tt te ∧ EI X T Wx t iter it ∧ BlkOk X.N X.env.scope scope (ownOf ct.N scope.names) ∧ (∀ j ∈ tg.ix, j ∈ (ownOf ct.N scope.names).map (·.2)) ∧
      (∀ s H C cl fp, PG (Blk X scope s H C cl fp) t (tG X.K T tg)) ∧ (∀ s H C cl fp, PTs (Blk X scope s H C cl fp) ifs (tT X.K T WF tt)) ∧ (∀ s H C cl fp, EE (Blk X scope s H C cl fp) T WF elt te) ∧ notSet iter = true
theorem snd_zero : Snd 0 := by
  constructor <;> (intros; first | (rename_i h; cases h; done) | (rename_i h _; cases h; done))
end
section
variable {n : Nat} (s : Snd n) {X : Cx} {T : Ads} {Wx : WX} {ct : CT} {cs : Calls}
include s
theorem snd_e (G : Good X T Wx ct cs) : ∀ {m : Bool} {ex : Expr} {r : Code1}, cE (n + 1) ct m ex = some r → EE X T Wx ex (r cs) := fun {m ex r} h => by
  simp only [cE] at h
  cases ex with
  | Constant k j p => exact cConst_ok h
  | Name x p => exact cName_ok G.toGoodN h
  | BinOp a op b p =>
    obtain ⟨ca, ha, h⟩ := ob_some h
    obtain ⟨cb, hb, h⟩ := ob_some h
    cases h
    exact e_b2 (fun E => op_all) (s.e G ha) (s.e G hb)
  | UnaryOp op a p =>
    cases op with
    | Not => obtain ⟨ca, ha, h⟩ := ob_some h; cases h; exact e_not (s.e G ha)
    | USub => obtain ⟨ca, ha, h⟩ := ob_some h; cases h; exact e_neg (s.e G ha)
    | _ => cases h
  | BoolOp op vs p => exact s.b G h
  | Compare a ops bs p =>
    match ops, bs, h with
    | [op], [b], h =>
      obtain ⟨g, h⟩ := gB_some h
      obtain ⟨ca, ha, h⟩ := ob_some h
      obtain ⟨cb, hb, h⟩ := ob_some h
      cases h
      exact e_cmp G.units (s.e G ha) (s.e G hb) (notSet_b g)
    | [op, op'], [b, c], h =>
      obtain ⟨g, h⟩ := gB_some h
      obtain ⟨ca, ha, h⟩ := ob_some h
      obtain ⟨cb, hb, h⟩ := ob_some h
      obtain ⟨cc, hc, h⟩ := ob_some h
      cases h
      exact e_chain G.units (s.e G ha) (s.e G hb) (s.e G hc) (notSet_b g)
    | [], _, h => cases h
    | [_], [], h => cases h
    | [_], _ :: _ :: _, h => cases h
    | [_, _], [], h => cases h
    | [_, _], [_], h => cases h
    | [_, _], _ :: _ :: _ :: _, h => cases h
    | _ :: _ :: _ :: _, _, h => cases h
  | IfExp c a b p =>
    obtain ⟨cc, hc, h⟩ := ob_some h
    obtain ⟨ca, ha, h⟩ := ob_some h
    obtain ⟨cb, hb, h⟩ := ob_some h
    cases h
    exact e_if (s.t G hc) (s.e G ha) (s.e G hb)
  | Call f es kws pos => exact s.cl G h
  | Tuple es k p =>
    obtain ⟨g, h⟩ := gB_some h
    obtain ⟨ca, ha, h⟩ := ob_some h
    cases h
    exact e_tup (s.a G ha g).1
  | List es p =>
    obtain ⟨g, h⟩ := gB_some h
    obtain ⟨ca, ha, h⟩ := ob_some h
    cases h
    exact e_lis (s.a G ha g).1
  | ListComp elt gens scope p =>
    obtain ⟨⟨t, iter, ifs⟩, hg, h⟩ := ob_some h
    rw [gen1_ok hg]
    obtain ⟨tg, tt, te, it, e, h1, h2, h3, h4, h5, h6, h7⟩ := s.l G h
    rw [e]
    exact e_lc G.calm G.nd h1 h2 h3 h4 h5 h6 h7
  | Subscript a sl p =>
    by_cases g : plainIx sl = true
    · have h : ob (cE n ct false a) (fun ca => ob (cE n ct false sl) fun cb => some fun cs => b2C dIx (ca cs) (cb cs)) = some r := by
        cases sl <;> first | exact (gB_some h).2 | cases g
      obtain ⟨ca, ha, h⟩ := ob_some h
      obtain ⟨cb, hb, h⟩ := ob_some h
      cases h
      exact e_ix g (s.e G ha) (s.e G hb)
    · cases sl with
      | Slice lo hi st p2 =>
        cases st with
        | none =>
          obtain ⟨ca, ha, h⟩ := ob_some h
          obtain ⟨cl, hl, h⟩ := ob_some h
          obtain ⟨ch, hh, h⟩ := ob_some h
          cases h
          exact e_cut (s.e G ha) (s.p G hl) (s.p G hh)
        | some st =>
          obtain ⟨g1, h⟩ := gB_some h
          obtain ⟨k, p1, p3, rfl⟩ := isM1_ok g1
          cases lo with
          | some _ => cases h
          | none =>
            cases hi with
            | some _ => cases h
            | none =>
              obtain ⟨ca, ha, h⟩ := ob_some h
              cases h
              exact e_rev (s.e G ha)
      | _ => exact absurd rfl g
  | _ => cases h
theorem snd_p (G : Good X T Wx ct cs) : ∀ {o : Option Expr} {r : Option Code1}, cP (n + 1) ct o = some r → PartOk X T Wx o (r.map fun c => c cs) := fun {o r} h => by
  simp only [cP] at h
  cases o with
  | none => cases h; trivial
  | some e => obtain ⟨c, hc, h⟩ := ob_some h; cases h; exact s.e G hc
theorem snd_b (G : Good X T Wx ct cs) : ∀ {op : BoolOp} {vs : List Expr} {r : Code1} {pos : Pos}, cB (n + 1) ct op vs = some r → EE X T Wx (.BoolOp op vs pos) (r cs) := fun {op vs r pos} h => by
  simp only [cB] at h
  match vs, h with
  | [], h => cases h
  | [a], h => exact e_boolOne (s.e G h)
  | a :: b :: rest, h =>
    obtain ⟨ca, ha, h⟩ := ob_some h
    obtain ⟨cb, hb, h⟩ := ob_some h
    cases op with
    | And => cases h; exact e_and (s.e G ha) (s.b G hb)
    | Or => cases h; exact e_or (s.e G ha) (s.b G hb)
theorem snd_t (G : Good X T Wx ct cs) : ∀ {ex : Expr} {r : Code1}, cT (n + 1) ct ex = some r → ET X T Wx ex (r cs) := fun {ex r} h => by
  simp only [cT] at h
  cases g : plainTest ex with
  | true =>
    rw [g] at h
    obtain ⟨c, hc, h⟩ := ob_some h
    cases h
    exact t_tru (s.e G hc) (plainTest_ok g)
  | false =>
    rw [g] at h
    cases ex with
    | UnaryOp op a p =>
      cases op with
      | Not => obtain ⟨ca, ha, h⟩ := ob_some h; cases h; exact t_not (s.t G ha)
      | _ => cases g
    | BoolOp op vs p => exact PW.pt (s.tb G h)
    | Compare a ops bs p =>
      match ops, bs, h with
      | [op], [b], h =>
        obtain ⟨g, h⟩ := gB_some h
        obtain ⟨ca, ha, h⟩ := ob_some h
        obtain ⟨cb, hb, h⟩ := ob_some h
        cases h
        exact t_cmp G.units (s.e G ha) (s.e G hb) (notSet_b g)
      | [op, op'], [b, c], h =>
        obtain ⟨g, h⟩ := gB_some h
        obtain ⟨ca, ha, h⟩ := ob_some h
        obtain ⟨cb, hb, h⟩ := ob_some h
        obtain ⟨cc, hc, h⟩ := ob_some h
        cases h
        exact t_chain G.units (s.e G ha) (s.e G hb) (s.e G hc) (notSet_b g)
      | [], _, h => cases h
      | [_], [], h => cases h
      | [_], _ :: _ :: _, h => cases h
      | [_, _], [], h => cases h
      | [_, _], [_], h => cases h
      | [_, _], _ :: _ :: _ :: _, h => cases h
      | _ :: _ :: _ :: _, _, h => cases h
    | _ => first | (cases g; done) | (cases h; done)
theorem snd_tb (G : Good X T Wx ct cs) : ∀ {op : BoolOp} {vs : List Expr} {r : Code1} {pos : Pos}, cTB (n + 1) ct op vs = some r → EW X T Wx (.BoolOp op vs pos) (r cs) := fun {op vs r pos} h => by
  simp only [cTB] at h
  match vs, h with
  | [], h => cases h
  | [a], h =>
    cases op with
    | And => exact w_and1 (s.t G h)
    | Or => exact w_or1 (s.t G h)
  | a :: b :: rest, h =>
    obtain ⟨ca, ha, h⟩ := ob_some h
    obtain ⟨cb, hb, h⟩ := ob_some h
    cases op with
    | And => cases h; exact w_and (s.t G ha) (s.tb G hb)
    | Or => cases h; exact w_or (s.t G ha) (s.tb G hb)
theorem snd_a (G : Good X T Wx ct cs) : ∀ {es : List Expr} {r : CodeA}, cA (n + 1) ct es = some r → noStar es = true → EA X T Wx es (r cs) ∧ LenL (r cs) es.length ∧ (es = [] → r cs = aNil) := fun {es r} h ns => by
  simp only [cA] at h
  match es, h, ns with
  | [], h, _ => cases h; exact ⟨a_nil, LenL.nil, fun _ => rfl⟩
  | e :: es, h, ns =>
    obtain ⟨c, hc, h⟩ := ob_some h
    obtain ⟨r', hr, h⟩ := ob_some h
    cases h
    obtain ⟨g1, g2, _⟩ := s.a G hr (star_tail ns)
    exact ⟨a_cons (s.e G hc) g1 (star_cons ns), LenL.cons g2, fun z => by cases z⟩
theorem snd_k (G : Good X T Wx ct cs) : ∀ {es : List Keyword} {r : CodeA}, cK (n + 1) ct es = some r → EK X T Wx es (r cs) ∧ LenL (r cs) es.length := fun {es r} h => by
  simp only [cK] at h
  match es, h with
  | [], h => cases h; exact ⟨k_nil, LenL.nil⟩
  | ⟨nm, e, p⟩ :: es, h =>
    obtain ⟨c, hc, h⟩ := ob_some h
    obtain ⟨r', hr, h⟩ := ob_some h
    cases h
    obtain ⟨g1, g2⟩ := s.k G hr
    exact ⟨k_cons (s.e G hc) g1, LenL.cons g2⟩
theorem snd_cl (G : Good X T Wx ct cs) : ∀ {m : Bool} {f : Expr} {es : List Expr} {kws : List Keyword} {pos : Pos} {r : Code1}, cCl (n + 1) ct m f es kws pos = some r → EE X T Wx (.Call f es kws pos) (r cs) := fun {m f es kws pos r} h => by
  simp only [cCl] at h
  cases f with
  | Name x p =>
    dsimp only at h
    cases v : isVar (lkS ct.sc.names x) with
    | true =>
      rw [v] at h
      cases kws with
      | cons _ _ => cases h
      | nil =>
        cases es with
        | nil => cases h
        | cons e es =>
          obtain ⟨g, h⟩ := gB_some h
          obtain ⟨j, hj, h⟩ := ob_some h
          obtain ⟨ca, ha, h⟩ := ob_some h
          cases h
          refine e_callV (fun i k hk => ?_) G.tk (G.var v hj) (s.a G ha g).1 g
          rw [List.getElem?_map] at hk
          cases q : ct.fns[i]? with
          | none => rw [q] at hk; cases hk
          | some ps => rw [q] at hk; cases hk; exact ⟨ps, rfl, G.fns i ps q⟩
    | false =>
      rw [v] at h
      dsimp only at h
      cases q : fnBy ct x with
      | some i =>
        rw [q] at h
        obtain ⟨g, h⟩ := gB_some h
        obtain ⟨ca, ha, h⟩ := ob_some h
        obtain ⟨ck, hk, h⟩ := ob_some h
        obtain ⟨a1, a2, a3⟩ := s.a G ha g
        obtain ⟨b1, b2⟩ := s.k G hk
        exact cCall_ok G q h a1 b1 a2 b2 g a3
      | none =>
        rw [q] at h
        cases kws with
        | cons _ _ => cases h
        | nil =>
          obtain ⟨g, h⟩ := gB_some h
          exact s.bl G g h
  | Attribute o nm ap =>
    cases o with
    | Name x p =>
      cases kws with
      | cons _ _ => cases h
      | nil =>
        match es, h with
        | [e], h =>
          obtain ⟨g1, h⟩ := gB_some h
          obtain ⟨g2, h⟩ := gB_some h
          obtain ⟨g3, h⟩ := gB_some h
          obtain ⟨g4, h⟩ := gB_some h
          obtain ⟨j, hj, h⟩ := ob_some h
          obtain ⟨c, hc, h⟩ := ob_some h
          cases h
          rw [strEq_eq] at g1
          have e1 := of_decide_eq_true g1
          subst e1
          exact e_append (G.var g4 hj) (s.e G hc) g2 (by rw [Nat.eq_of_beq_eq_true g3]; exact beq_self_eq_true _)
        | [], h => cases h
        | _ :: _ :: _, h => cases h
    | _ => cases h
  | _ => cases h
theorem snd_bl (G : Good X T Wx ct cs) : ∀ {m : Bool} {x : Str} {es : List Expr} {p pos : Pos} {r : Code1}, isBlt ct x = true → cBl (n + 1) ct m x es = some r → EE X T Wx (.Call (.Name x p) es [] pos) (r cs) := fun {m x es p pos r} hb h => by
  obtain ⟨g1, g2⟩ := isBlt_ok G hb
  simp only [cBl] at h
  rw [strEq_eq] at h
  by_cases z : x = "isinstance"
  · rw [decide_eq_true z] at h
    subst z
    match es, h with
    | [a, t], h =>
      obtain ⟨g, h⟩ := gB_some h
      cases t with
      | Name y q =>
        obtain ⟨k1, h⟩ := gB_some h
        obtain ⟨t, k2, h⟩ := ob_some h
        obtain ⟨ca, ha, h⟩ := ob_some h
        cases h
        obtain ⟨y1, y2⟩ := isBlt_ok G k1
        exact isi_name (s.e G ha) g k2 y1 y2 g1 g2
      | Tuple ts k q =>
        obtain ⟨k1, h⟩ := gB_some h
        obtain ⟨us, k2, h⟩ := ob_some h
        obtain ⟨k3, h⟩ := gB_some h
        obtain ⟨ca, ha, h⟩ := ob_some h
        cases h
        exact isi_tup (s.e G ha) g k2 (allBlt_ok G k1) k3 g1 g2
      | _ => cases h
    | [], h => cases h
    | [_], h => cases h
    | _ :: _ :: _ :: _, h => cases h
  · rw [decide_eq_false z] at h
    obtain ⟨b, hbf, h⟩ := ob_some h
    cases es with
    | nil => cases h
    | cons e es =>
      obtain ⟨g, h⟩ := gB_some h
      obtain ⟨ca, ha, h⟩ := ob_some h
      cases h
      have e1 := bfIn_ok hbf
      subst e1
      exact e_bf G.calm g1 g2 (s.a G ha g).1 g
theorem iterK_ok {it : Expr} {k : Nat} (h : iterK ct it = k) (hk : k ≠ 0) : ∃ x p es pos, it = .Call (.Name x p) es [] pos ∧ isBlt ct x = true ∧ ((k = 1 ∧ x = "range") ∨ (k = 2 ∧ x = "zip") ∨ (k = 3 ∧ x = "enumerate")) := by
  unfold iterK at h
  split at h
  · rename_i x p es pos
    refine ⟨x, p, es, pos, rfl, ?_⟩
    cases q : isBlt ct x with
    | false => rw [q] at h; exact absurd h.symm hk
    | true =>
      rw [q] at h
      simp only [strEq_eq] at h
      refine ⟨rfl, ?_⟩
      by_cases z1 : x = "range"
      · simp only [decide_eq_true z1] at h; exact .inl ⟨h.symm, z1⟩
      · simp only [decide_eq_false z1] at h
        by_cases z2 : x = "zip"
        · simp only [decide_eq_true z2] at h; exact .inr (.inl ⟨h.symm, z2⟩)
        · simp only [decide_eq_false z2] at h
          by_cases z3 : x = "enumerate"
          · simp only [decide_eq_true z3] at h; exact .inr (.inr ⟨h.symm, z3⟩)
          · simp only [decide_eq_false z3] at h; exact absurd h.symm hk
  · exact absurd h.symm hk
theorem snd_i (G : Good X T Wx ct cs) : ∀ {tg it : Expr} {r : CodeI}, cI (n + 1) ct tg it = some r → EI X T Wx tg it (r cs) := fun {tg it r} h => by
  simp only [cI] at h
  cases k : iterK ct it with
  | zero =>
    rw [k] at h
    obtain ⟨c, hc, h⟩ := ob_some h
    cases h
    exact i_seq (s.e G hc)
  | succ k' =>
    rw [k] at h
    obtain ⟨x, p, es, pos, rfl, hb, hx⟩ := iterK_ok s k (by omega)
    obtain ⟨b1, b2⟩ := isBlt_ok G hb
    rcases hx with ⟨hk, rfl⟩ | ⟨hk, rfl⟩ | ⟨hk, rfl⟩
    · rw [hk] at h
      dsimp only at h
      obtain ⟨g, h⟩ := gB_some h
      obtain ⟨g2, h⟩ := gB_some h
      obtain ⟨ca, ha, h⟩ := ob_some h
      cases h
      match es, g, g2, ha with
      | [e], g, _, ha => obtain ⟨a1, a2, _⟩ := s.a G ha g; exact i_rng1 b1 b2 a1 a2 g
      | [e, e2], g, _, ha => obtain ⟨a1, a2, _⟩ := s.a G ha g; exact i_rng2 b1 b2 a1 a2 g
      | [], _, g2, _ => cases g2
      | _ :: _ :: _ :: _, _, g2, _ => cases g2
    · rw [hk] at h
      dsimp only at h
      obtain ⟨g0, h⟩ := gB_some h
      obtain ⟨g, h⟩ := gB_some h
      obtain ⟨g2, h⟩ := gB_some h
      obtain ⟨ca, ha, h⟩ := ob_some h
      cases h
      have hl := lenIs_ok g2
      match es, hl, g, ha with
      | [e, e2], _, g, ha =>
        cases tg with
        | Tuple ts k q => exact i_zip b1 b2 (s.a G ha g).1 g
        | _ => cases g0
    · rw [hk] at h
      dsimp only at h
      obtain ⟨g0, h⟩ := gB_some h
      obtain ⟨g, h⟩ := gB_some h
      obtain ⟨g2, h⟩ := gB_some h
      obtain ⟨ca, ha, h⟩ := ob_some h
      cases h
      have hl := lenIs_ok g2
      match es, hl, g, ha with
      | [e], _, g, ha =>
        cases tg with
        | Tuple ts k q => exact i_enm b1 b2 (s.a G ha g).1 g
        | _ => cases g0
theorem snd_l (G : Good X T Wx ct cs) : ∀ {m : Bool} {elt t iter : Expr} {ifs : List Expr} {scope : Scope} {r : Code1}, cL (n + 1) ct m elt t iter ifs scope = some r →
    ∃ (tg : Tg) (tt te : C1) (it : C1I), r cs = lcC m it ((ownOf ct.N scope.names).map (·.2)) tg tt te ∧ EI X T Wx t iter it ∧ BlkOk X.N X.env.scope scope (ownOf ct.N scope.names) ∧ (∀ j ∈ tg.ix, j ∈ (ownOf ct.N scope.names).map (·.2)) ∧
      (∀ s H C cl fp, PG (Blk X scope s H C cl fp) t (tG X.K T tg)) ∧ (∀ s H C cl fp, PTs (Blk X scope s H C cl fp) ifs (tT X.K T WF tt)) ∧ (∀ s H C cl fp, EE (Blk X scope s H C cl fp) T WF elt te) ∧ notSet iter = true := fun {m elt t iter ifs scope r} h => by
  simp only [cL] at h
  obtain ⟨g1, h⟩ := gB_some h
  obtain ⟨g2, h⟩ := gB_some h
  obtain ⟨tg, ht, h⟩ := ob_some h
  obtain ⟨g3, h⟩ := gB_some h
  obtain ⟨ci, hi, h⟩ := ob_some h
  obtain ⟨ce, he, h⟩ := ob_some h
  have bo : BlkOk X.N X.env.scope scope (ownOf ct.N scope.names) := by rw [G.N, G.sc]; exact blkOk_by g2
  have pg : ∀ s H C cl fp, PG (Blk X scope s H C cl fp) t (tG X.K T tg) := fun s H C cl fp => cTg_ok (G.blk scope s H C cl fp) 20 ht
  have pe : ∀ s' H C cl fp, EE (Blk X scope s' H C cl fp) T WF elt (ce cs) := fun s' H C cl fp => s.e (G.blk scope s' H C cl fp) he
  match ifs, h with
  | [], h =>
    cases h
    exact ⟨tg, yesC, ce cs, ci cs, rfl, s.i G hi, bo, inIx_ok g3, pg, fun s H C cl fp => pts_yes, pe, g1⟩
  | [c], h =>
    obtain ⟨cc, hc, h⟩ := ob_some h
    cases h
    exact ⟨tg, cc cs, ce cs, ci cs, rfl, s.i G hi, bo, inIx_ok g3, pg, fun s' H C cl fp => pts_c (s.t (G.blk scope s' H C cl fp) hc), pe, g1⟩
  | _ :: _ :: _, h => cases h
end
theorem snd : ∀ n, Snd n
  | 0 => snd_zero
  | n + 1 => by
    have s := snd n
    exact ⟨fun G h => snd_e s G h, fun G h => snd_p s G h, fun G h => snd_b s G h, fun G h => snd_t s G h, fun G h => snd_tb s G h, fun G h ns => snd_a s G h ns, fun G h => snd_k s G h, fun G h => snd_cl s G h, fun G hb h => snd_bl s G hb h, fun G h => snd_i s G h, fun G h => snd_l s G h⟩
end Ev
/-! Ev, part I4: the translation of statements. -/
namespace Ev
open PySem L2 PyProof.Rows
def notComp : Expr → Bool
  | .ListComp .. => false
  | .SetComp .. => false
  | .DictComp .. => false
  | _ => true
theorem swaps_no {e : Expr} {t : Option Expr} {l : Nat} {env : Env} (h : notComp e = true) : swapsWith e t l env = pure false := by
  cases e <;> first | rfl | cases h
theorem swaps_lc {elt : Expr} {gens : List Comprehension} {scope : Scope} {p p2 : Pos} {x : Str} {l : Nat} {env : Env} :
    swapsWith (.ListComp elt gens scope p) (some (.Name x p2)) l env = pure (env.blockKind == .function && env.kindOf x == some .local && p2.line == p.line && !(scope.names.any fun (n, k) => n == x && (k == .local || k == .cell))) := by rfl
theorem stores_not {es : List Expr} {k : Nat} {p : Pos} {e : Expr} {env : Env} (h : isTupE e = false) : swappedStores [.Tuple es k p] e env = pure none := by
  unfold swappedStores
  cases e <;> first | rfl | cases h
theorem stores_put {o i : Expr} {p : Pos} {e : Expr} {env : Env} : swappedStores [.Subscript o i p] e env = pure none := by
  unfold swappedStores
  cases e <;> rfl
theorem stores_folded {es vs : List Expr} {k k2 : Nat} {p p2 : Pos} {env : Env} (h : vs.all (foldedForSure 8) = true) : swappedStores [.Tuple es k p] (.Tuple vs k2 p2) env = pure none := by
  unfold swappedStores
  dsimp only
  split
  · rfl
  · split
    · rfl
    · split
      · rfl
      · first | rfl | rw [if_pos h]
def isLoc (ct : CT) (x : Str) : Bool := match lkS ct.sc.names x with
  | some .local => true
  | _ => false
def isFun (k : ScopeKind) : Bool := match k with
  | .function => true
  | _ => false
def okSw2 (ct : CT) (x y : Str) (px py : Pos) (vs : List Expr) : Bool := isFun ct.sc.kind && (isLoc ct x && (isLoc ct y && (Nat.beq py.line px.line && (!strEq x y && (noStar vs && (!(vs.all (foldedForSure 8)) && !(vs.all (constantsAlone 8))))))))
theorem stores2 {x y : Str} {px py p p2 : Pos} {k k2 : Nat} {a b : Expr} {env : Env} (h0 : env.scope.kind = .function) (h1 : env.kindOf x = some .local) (h2 : env.kindOf y = some .local) (h3 : py.line = px.line) (h4 : x ≠ y) (h5 : noStar [a, b] = true)
    (h6 : [a, b].all (foldedForSure 8) = false) (h7 : [a, b].all (constantsAlone 8) = false) : swappedStores [.Tuple [.Name x px, .Name y py] k p] (.Tuple [a, b] k2 p2) env = pure (some [x, y]) := by
  have bk : env.blockKind = .function := by unfold Env.blockKind; rw [h0] <;> rfl
  unfold swappedStores
  dsimp only
  rw [bk]
  simp only [List.length_cons, List.length_nil]
  rw [if_neg (by simp)]
  refine (if_neg fun hh => ?_).trans ?_
  · obtain ⟨e, he, hq⟩ := List.any_eq_true.mp hh
    split at hq
    · rcases List.mem_cons.mp he with z | he
      · rw [← z] at h5; cases h5
      · rw [List.mem_singleton] at he
        rw [← he] at h5
        exact absurd (star_tail h5) (fun z => by cases z)
    · cases hq
  simp only [List.filterMap_cons, List.filterMap_nil, h1, h2, List.head?_cons, Option.map_some, Option.getD_some, Expr.pos, h3, beq_self_eq_true, Bool.and_self, if_true]
  have hne : ([x, y] : List Str).eraseDups.length = 2 := by
    have e : (y == x) = false := beq_eq_false_iff_ne.mpr (Ne.symm h4)
    simp [List.eraseDups_cons, e, h4, Ne.symm h4]
  rw [hne, if_neg (by simp), h6, if_neg (by simp), h7, if_neg (by simp)]
theorem stores3 {x y z : Str} {px py pz p p2 : Pos} {k k2 : Nat} {a b c : Expr} {env : Env} (h0 : env.scope.kind = .function) (h1 : env.kindOf x = some .local) (h2 : env.kindOf y = some .local) (h2' : env.kindOf z = some .local) (h3 : py.line = px.line) (h3' : pz.line = px.line) (h4 : x ≠ y) (h4' : x ≠ z) (h4'' : y ≠ z) (h5 : noStar [a, b, c] = true)
    (h6 : [a, b, c].all (foldedForSure 8) = false) (h7 : [a, b, c].all (constantsAlone 8) = false) : swappedStores [.Tuple [.Name x px, .Name y py, .Name z pz] k p] (.Tuple [a, b, c] k2 p2) env = pure (some [x, y, z]) := by
  have bk : env.blockKind = .function := by unfold Env.blockKind; rw [h0] <;> rfl
  unfold swappedStores
  dsimp only
  rw [bk]
  simp only [List.length_cons, List.length_nil]
  rw [if_neg (by simp)]
  refine (if_neg fun hh => ?_).trans ?_
  · obtain ⟨e, he, hq⟩ := List.any_eq_true.mp hh
    split at hq
    · rcases List.mem_cons.mp he with z | he
      · rw [← z] at h5; cases h5
      · rcases List.mem_cons.mp he with z | he
        · rw [← z] at h5
          exact absurd (star_tail h5) (fun z => by cases z)
        · rw [List.mem_singleton] at he
          rw [← he] at h5
          exact absurd (star_tail (star_tail h5)) (fun z => by cases z)
    · cases hq
  simp only [List.filterMap_cons, List.filterMap_nil, h1, h2, h2', List.head?_cons, Option.map_some, Option.getD_some, Expr.pos, h3, h3', beq_self_eq_true, Bool.and_self, if_true]
  have hne : ([x, y, z] : List Str).eraseDups.length = 3 := by
    simp [List.eraseDups_cons, h4, Ne.symm h4, h4', Ne.symm h4', h4'', Ne.symm h4'']
  rw [hne, if_neg (by simp), h6, if_neg (by simp), h7, if_neg (by simp)]
def okSw3 (ct : CT) (x y z : Str) (px py pz : Pos) (vs : List Expr) : Bool := isFun ct.sc.kind && (isLoc ct x && (isLoc ct y && (isLoc ct z && (Nat.beq py.line px.line && (Nat.beq pz.line px.line && (!strEq x y && (!strEq x z && (!strEq y z && (noStar vs && (!(vs.all (foldedForSure 8)) && !(vs.all (constantsAlone 8))))))))))))
theorem stores2n {x y : Str} {px py p p2 : Pos} {k k2 : Nat} {vs : List Expr} {env : Env} (h : env.kindOf x ≠ some .local ∨ env.kindOf y ≠ some .local) : swappedStores [.Tuple [.Name x px, .Name y py] k p] (.Tuple vs k2 p2) env = pure none := by
  unfold swappedStores
  dsimp only
  split
  · rfl
  · split
    · rfl
    · have hn : ∀ z, env.kindOf z ≠ some .local → (env.kindOf z == some NameKind.local) = false := fun z q => beq_eq_false_iff_ne.mpr q
      rcases h with h | h
      · simp only [List.filterMap_cons, List.filterMap_nil, hn _ h, Bool.false_and, Bool.false_eq_true, if_false]
        split <;> (simp; done)
      · simp only [List.filterMap_cons, List.filterMap_nil, hn _ h, Bool.false_and, Bool.false_eq_true, if_false]
        split <;> (simp; done)
def inS : List Str → Str → Bool
  | [], _ => false
  | y :: r, x => match strEq y x with
    | true => true
    | false => inS r x
def excBy (ct : CT) (x : Str) : Option Nat := match isGlo (lkS ct.sc.names x) with
  | true => match strEq x "__debug__" with
    | true => none
    | false => match lkS ct.gl x with
      | some (.exc c) => some c
      | _ => none
  | false => none
/-! ### what may stand in an except clause -/
mutual
def cH : Nat → CT → Expr → Option Code1
  | 0, _, _ => none
  | Nat.succ n, ct, e => match e with
    | .Constant k _ _ => cConst k
    | .Name x _ => cName ct x
    | .Tuple es _ _ => gB (noStar es) (ob (cHs n ct es) fun ca => some fun cs => tupC (ca cs))
    | .List es _ => gB (noStar es) (ob (cHs n ct es) fun ca => some fun cs => lisC false (ca cs))
    | _ => none
def cHs : Nat → CT → List Expr → Option CodeA
  | 0, _, _ => none
  | Nat.succ n, ct, es => match es with
    | [] => some fun _ => aNil
    | e :: es => ob (cH n ct e) fun c => ob (cHs n ct es) fun r => some fun cs => aCons (c cs) (r cs)
end
/-- one statement of an except clause -/
def cHot (ct : CT) (st : Stmt) : Option CodeS := match st with
  | .Assign [.Name x p] e _ => ob (cTg 20 ct (.Name x p)) fun tg => match tg with
    | .nm i => gB (notComp e) (ob (cH 20 ct e) fun c => some fun cs => asgC (.nm i) (c cs))
    | _ => none
  | .Return (some e) _ => ob (cH 20 ct e) fun c => some fun cs => retC (c cs)
  | _ => none
def cHd (ct : CT) : List ExceptHandler → Option (Calls → List (Nat × C1S))
  | [] => some fun _ => []
  | .ExceptHandler (some (.Name x _)) none [st] _ :: r => ob (excBy ct x) fun c => ob (cHot ct st) fun s => ob (cHd ct r) fun l => some fun cs => (c, seqC (s cs) skipC) :: l cs
  | _ => none
/-- names that are set at once -/
def cAs (n : Nat) (ct : CT) (t e : Expr) : Option CodeS := match t with
  | .Name x _ => ob (cTg 20 ct t) fun tg => match tg with
    | .nm i => ob (cE n ct (inS ct.mutN x) e) fun c => some fun cs => asgC (.nm i) (c cs)
    | _ => none
  | .Tuple es _ _ => match isTupE e with
    | false => ob (cTg 20 ct t) fun tg => gB (notComp e) (ob (cE n ct false e) fun c => some fun cs => asgC tg (c cs))
    | true => match e with
      | .Tuple vs _ _ => match vs.all (foldedForSure 8) with
        | true => ob (cTg 20 ct t) fun tg => ob (cE n ct false e) fun c => some fun cs => asgC tg (c cs)
        | false => match es, vs with
          | [.Name x px, .Name y py], [a, b] => match isLoc ct x && isLoc ct y with
           | false => gB (noStar [a, b]) (ob (cTg 20 ct t) fun tg => ob (cE n ct (inS ct.mutN x) a) fun ca => ob (cE n ct (inS ct.mutN y) b) fun cb => some fun cs => asgC tg (tupC (aCons (ca cs) (aCons (cb cs) aNil))))
           | true => gB (okSw2 ct x y px py [a, b]) (ob (ixS ct.N x 0) fun i => ob (ixS ct.N y 0) fun j => ob (cE n ct (inS ct.mutN x) a) fun ca => ob (cE n ct (inS ct.mutN y) b) fun cb => some fun cs => par2C i j (aCons (ca cs) (aCons (cb cs) aNil)))
          | [.Name x px, .Name y py, .Name z pz], [a, b, c] => gB (okSw3 ct x y z px py pz [a, b, c]) (ob (ixS ct.N x 0) fun i => ob (ixS ct.N y 0) fun j => ob (ixS ct.N z 0) fun l => ob (cE n ct (inS ct.mutN x) a) fun ca => ob (cE n ct (inS ct.mutN y) b) fun cb => ob (cE n ct (inS ct.mutN z) c) fun cc => some fun cs => par3C i j l (aCons (ca cs) (aCons (cb cs) (aCons (cc cs) aNil))))
          | _, _ => none
      | _ => none
  | .Subscript o i _ => gB (plainIx i) (ob (cE n ct false o) fun co => ob (cE n ct false i) fun ci => ob (cE n ct false e) fun ce => some fun cs => putC (co cs) (ci cs) (ce cs))
  | _ => none
mutual
def cS : Nat → CT → Stmt → Option CodeS
  | 0, _, _ => none
  | Nat.succ n, ct, st => match st with
    | .Expr e _ => gB (notComp e) (ob (cE n ct false e) fun c => some fun cs => dropC (c cs))
    | .Assign ts e _ => match ts with
      | [t] => cAs n ct t e
      | _ => none
    | .If c a b _ => ob (cT n ct c) fun cc => ob (cSs n ct a) fun ca => ob (cSs n ct b) fun cb => some fun cs => ifS (cc cs) (ca cs) (cb cs)
    | .For t iter body els _ => match els with
      | [] => gB (notSet iter) (ob (cTg 20 ct t) fun tg => ob (cI n ct t iter) fun ci => ob (cSs n ct body) fun cb => some fun cs => forC (ci cs) tg (cb cs))
      | _ :: _ => none
    | .While c body els _ => match els with
      | [] => ob (cT n ct c) fun cc => ob (cSs n ct body) fun cb => some fun cs => whC (cc cs) (cb cs)
      | _ :: _ => none
    | .Return v _ => match v with
      | some e => ob (cE n ct ct.ret e) fun c => some fun cs => retC (c cs)
      | none => some fun _ => retNC
    | .Raise x y _ => match x with
      | some (.Call (.Name x _) [] [] _) => match y with
        | none => ob (excBy ct x) fun c => some fun _ => raiC c
        | some _ => none
      | _ => none
    | .Try body hds els fin _ => match els with
      | [] => match fin with
        | [] => match hds with
          | [] => none
          | h :: hs => ob (cSs n ct body) fun cb => ob (cHd ct (h :: hs)) fun l => some fun cs => tryC ct.exm (cb cs) (l cs)
        | _ :: _ => none
      | _ :: _ => none
    | .Pass _ => some fun _ => skipC
    | .Break _ => some fun _ => brkC
    | .Continue _ => some fun _ => cntC
    | _ => none
def cSs : Nat → CT → List Stmt → Option CodeS
  | 0, _, _ => none
  | Nat.succ n, ct, sts => match sts with
    | [] => some fun _ => skipC
    | st :: r => ob (cS n ct st) fun a => ob (cSs n ct r) fun b => some fun cs => seqC (a cs) (b cs)
end
section
variable {X : Cx} {T : Ads} {Wx : WX} {ct : CT} {cs : Calls} {n : Nat}
theorem isLoc_ok (G : Good X T Wx ct cs) {x : Str} (h : isLoc ct x = true) : X.env.scope.names.lookup x = some .local := by
  unfold isLoc at h
  split at h
  · rename_i e; exact G.kind e
  · cases h
theorem isFun_ok {k : ScopeKind} (h : isFun k = true) : k = .function := by cases k <;> first | rfl | cases h
theorem excBy_ok (G : Good X T Wx ct cs) {x : Str} {c : Nat} (h : excBy ct x = some c) : Gl X x ∧ X.mg x = some (.ref (T.ec c)) ∧ ExcFact X T c ∧ T.fld c = none ∧ (x == ("__debug__" : Str)) = false := by
  unfold excBy at h
  cases q : isGlo (lkS ct.sc.names x) with
  | false => rw [q] at h; cases h
  | true =>
    simp only [q, strEq_eq] at h
    by_cases z : x = "__debug__"
    · simp only [decide_eq_true z] at h; cases h
    · simp only [decide_eq_false z] at h
      cases q2 : lkS ct.gl x with
      | none => simp only [q2] at h; cases h
      | some g =>
        simp only [q2] at h
        cases g with
        | exc j => cases h; obtain ⟨a, b, c⟩ := G.gl x _ q2; exact ⟨G.glo q, a, b, c, beq_eq_false_iff_ne.mpr z⟩
        | _ => cases h
theorem tg_name {k : Nat} {x : Str} {p : Pos} {t : Tg} (h : cTg (k + 1) ct (.Name x p) = some t) : (ct.own.lookup x = some .local ∨ ct.own.lookup x = some .cell) ∧ ∃ i, t = .nm i ∧ ixS ct.N x 0 = some i := by
  have h' : (match isVar (lkS ct.own x) with
    | true => match strEq x "__debug__" with
      | true => none
      | false => match lkS ct.own x with
        | some .free => none
        | _ => match ixS ct.N x 0 with
          | some i => some (Tg.nm i)
          | none => none
    | false => none) = some t := h
  have fin : (match ixS ct.N x 0 with | some i => some (Tg.nm i) | none => none) = some t → ∃ i, t = .nm i ∧ ixS ct.N x 0 = some i := fun z => by
    cases q : ixS ct.N x 0 with
    | none => rw [q] at z; cases z
    | some i => rw [q] at z; cases z; exact ⟨i, rfl, rfl⟩
  rw [← lkS_eq]
  cases q : lkS ct.own x with
  | none => rw [q] at h'; cases h'
  | some k =>
    rw [q] at h'
    cases z : strEq x "__debug__" with
    | true => cases k <;> simp only [isVar, z] at h' <;> cases h'
    | false =>
      cases k with
      | globalExplicit => cases h'
      | globalImplicit => cases h'
      | «local» => simp only [isVar, z] at h'; exact ⟨.inl rfl, fin h'⟩
      | cell => simp only [isVar, z] at h'; exact ⟨.inr rfl, fin h'⟩
      | free => simp only [isVar, z] at h'; cases h'
theorem as_name (G : Good X T Wx ct cs) {x : Str} {p pos : Pos} {e : Expr} {i : Nat} {m : Bool} {c : Code1} (ht : cTg 20 ct (.Name x p) = some (.nm i)) (hc : cE n ct m e = some c) : ES X T Wx (.Assign [.Name x p] e pos) (asgC (.nm i) (c cs)) := by
  have he := (snd n).e G hc
  obtain ⟨k1, j, k2, k3⟩ := tg_name (k := 19) ht
  cases k2
  have hi := G.ix k3
  obtain ⟨hx, hf⟩ := G.own x k1
  cases h : notComp e with
  | true => exact s_set G.nd hi hx he (swaps_no h) hf
  | false =>
    cases e with
    | ListComp elt gens scope p2 =>
      by_cases sw : (X.env.blockKind == .function && X.env.kindOf x == some .local && p.line == p2.line && !(scope.names.any fun (n, k) => n == x && (k == .local || k == .cell))) = true
      · cases n with
        | zero => cases hc
        | succ n =>
          simp only [cE] at hc
          obtain ⟨⟨t, iter, ifs⟩, hg1, hc⟩ := ob_some hc
          have e1 := gen1_ok hg1
          subst e1
          obtain ⟨tg, tt, te, it, e, h1, h2, h3, h4, h5, h6, h7⟩ := (snd n).l G hc
          rw [e]
          have lx : X.env.scope.names.lookup x = some .local := by
            simp only [Bool.and_eq_true] at sw
            exact beq_iff_eq.mp sw.1.1.2
          exact s_setLc G.calm G.nd hi lx (by rw [swaps_lc, sw]) h1 h2 h3 h4 h5 h6 h7
      · exact s_set G.nd hi hx he (by rw [swaps_lc, Bool.eq_false_iff.mpr sw]) hf
    | SetComp _ _ _ _ => cases n <;> cases hc
    | DictComp _ _ _ _ _ => cases n <;> cases hc
    | _ => cases h
theorem as_ok (G : Good X T Wx ct cs) {t e : Expr} {pos : Pos} {r : CodeS} (h : cAs n ct t e = some r) : ES X T Wx (.Assign [t] e pos) (r cs) := by
  unfold cAs at h
  cases t with
  | Name x p =>
    obtain ⟨tg, ht, h⟩ := ob_some h
    cases tg with
    | tp ts => cases h
    | nm i =>
      obtain ⟨c, hc, h⟩ := ob_some h
      cases h
      exact as_name G ht hc
  | Tuple es k p =>
    dsimp only at h
    cases it : isTupE e with
    | false =>
      rw [it] at h
      obtain ⟨tg, ht, h⟩ := ob_some h
      obtain ⟨nc, h⟩ := gB_some h
      obtain ⟨c, hc, h⟩ := ob_some h
      cases h
      exact s_asg ((snd n).e G hc) (cTg_ok G 20 ht) (by show swapsWith e (some (.Tuple es k p)) pos.line X.env = pure false; exact swaps_no nc) (stores_not it) rfl
    | true =>
      rw [it] at h
      cases e with
      | Tuple vs k2 p2 =>
        dsimp only at h
        cases fo : vs.all (foldedForSure 8) with
        | true =>
          rw [fo] at h
          obtain ⟨tg, ht, h⟩ := ob_some h
          obtain ⟨c, hc, h⟩ := ob_some h
          cases h
          exact s_asg ((snd n).e G hc) (cTg_ok G 20 ht) rfl (stores_folded fo) rfl
        | false =>
          rw [fo] at h
          dsimp only at h
          split at h
          · rename_i x px y py a b
            split at h
            · rename_i lo
              obtain ⟨g, h⟩ := gB_some h
              obtain ⟨tg, ht, h⟩ := ob_some h
              obtain ⟨ca, ha, h⟩ := ob_some h
              obtain ⟨cb, hb, h⟩ := ob_some h
              cases h
              have nl : ∀ z, isLoc ct z = false → X.env.kindOf z ≠ some .local := fun z q k => by
                unfold isLoc at q
                rw [lkS_eq, ← G.sc] at q
                have k : X.env.scope.names.lookup z = some .local := k
                rw [k] at q; cases q
              have or2 : X.env.kindOf x ≠ some .local ∨ X.env.kindOf y ≠ some .local := by
                rcases Bool.and_eq_false_iff.mp lo with q | q
                · exact .inl (nl _ q)
                · exact .inr (nl _ q)
              exact s_asg (e_tup (a_cons ((snd n).e G ha) (a_cons ((snd n).e G hb) a_nil (star_cons (star_tail g))) (star_cons g))) (cTg_ok G 20 ht) rfl (stores2n or2) rfl
            obtain ⟨g, h⟩ := gB_some h
            obtain ⟨i, hi, h⟩ := ob_some h
            obtain ⟨j, hj, h⟩ := ob_some h
            obtain ⟨ca, ha, h⟩ := ob_some h
            obtain ⟨cb, hb, h⟩ := ob_some h
            cases h
            simp only [okSw2, Bool.and_eq_true, Bool.not_eq_true', strEq_eq, decide_eq_false_iff_not] at g
            obtain ⟨g0, g1, g2, g3, g4, g5, g6, g7⟩ := g
            have gi := G.ix hi
            have gj := G.ix hj
            have hij : i ≠ j := fun z => by subst z; rw [gi] at gj; exact g4 (Option.some.inj gj)
            exact s_par G.calm G.nd gi gj hij (isLoc_ok G g1) (isLoc_ok G g2) (a_cons ((snd n).e G ha) (a_cons ((snd n).e G hb) a_nil (star_cons (star_tail g5))) (star_cons g5))
              (stores2 (by rw [G.sc]; exact isFun_ok g0) (isLoc_ok G g1) (isLoc_ok G g2) (Nat.eq_of_beq_eq_true g3) g4 g5 g6 g7)
          · rename_i x px y py z pz a b c
            obtain ⟨g, h⟩ := gB_some h
            obtain ⟨i, hi, h⟩ := ob_some h
            obtain ⟨j, hj, h⟩ := ob_some h
            obtain ⟨l, hl, h⟩ := ob_some h
            obtain ⟨ca, ha, h⟩ := ob_some h
            obtain ⟨cb, hb, h⟩ := ob_some h
            obtain ⟨cc, hc, h⟩ := ob_some h
            cases h
            simp only [okSw3, Bool.and_eq_true, Bool.not_eq_true', strEq_eq, decide_eq_false_iff_not] at g
            obtain ⟨g0, g1, g2, g2', g3, g3', g4, g4', g4'', g5, g6, g7⟩ := g
            have gi := G.ix hi
            have gj := G.ix hj
            have gl := G.ix hl
            have hij : i ≠ j := fun z => by subst z; rw [gi] at gj; exact g4 (Option.some.inj gj)
            have hil : i ≠ l := fun z => by subst z; rw [gi] at gl; exact g4' (Option.some.inj gl)
            have hjl : j ≠ l := fun z => by subst z; rw [gj] at gl; exact g4'' (Option.some.inj gl)
            exact s_par3 G.calm G.nd gi gj gl hij hil hjl (isLoc_ok G g1) (isLoc_ok G g2) (isLoc_ok G g2') (a_cons ((snd n).e G ha) (a_cons ((snd n).e G hb) (a_cons ((snd n).e G hc) a_nil (star_cons (star_tail (star_tail g5)))) (star_cons (star_tail g5))) (star_cons g5))
              (stores3 (by rw [G.sc]; exact isFun_ok g0) (isLoc_ok G g1) (isLoc_ok G g2) (isLoc_ok G g2') (Nat.eq_of_beq_eq_true g3) (Nat.eq_of_beq_eq_true g3') g4 g4' g4'' g5 g6 g7)
          · cases h
      | _ => cases it
  | Subscript o i p =>
    obtain ⟨pl, h⟩ := gB_some h
    obtain ⟨co, ho, h⟩ := ob_some h
    obtain ⟨ci, hi, h⟩ := ob_some h
    obtain ⟨ce, he, h⟩ := ob_some h
    cases h
    exact s_put ((snd n).e G ho) ((snd n).e G hi) ((snd n).e G he) (fun _ => by cases i <;> first | rfl | cases pl) (by cases e <;> rfl) stores_put rfl
  | _ => cases h
structure GoodS (X : Cx) (T : Ads) (Wx : WX) (ct : CT) (cs : Calls) : Prop where
  g : Good X T Wx ct cs
  po : PassesOwn (model X.prog X.w) X.A X.env X.xe
  stk : X.stack = X.env :: X.outer
  frm : X.env.frame = some X.env.locals
  exm : ∀ c h b, (c, h, b) ∈ ct.exm → PySem.W.exmOne X.K (.ref (T.ec c)) (.ref (T.ec h)) = some b
mutual
theorem cH_ok (G : GoodN X T ct) : ∀ (n : Nat) {e : Expr} {r : Code1}, cH n ct e = some r → EE X T Wx e (r cs)
  | 0, _, _, h => by cases h
  | n + 1, e, r, h => by
    simp only [cH] at h
    cases e with
    | Constant k j p => exact cConst_ok h
    | Name x p => exact cName_ok G h
    | Tuple es k p =>
      obtain ⟨g, h⟩ := gB_some h
      obtain ⟨ca, ha, h⟩ := ob_some h
      cases h
      exact e_tup (cHs_ok G n ha g)
    | List es p =>
      obtain ⟨g, h⟩ := gB_some h
      obtain ⟨ca, ha, h⟩ := ob_some h
      cases h
      exact e_lis (cHs_ok G n ha g)
    | _ => cases h
theorem cHs_ok (G : GoodN X T ct) : ∀ (n : Nat) {es : List Expr} {r : CodeA}, cHs n ct es = some r → noStar es = true → EA X T Wx es (r cs)
  | 0, _, _, h, _ => by cases h
  | n + 1, [], r, h, _ => by cases h; exact a_nil
  | n + 1, e :: es, r, h, ns => by
    simp only [cHs] at h
    obtain ⟨c, hc, h⟩ := ob_some h
    obtain ⟨q, hq, h⟩ := ob_some h
    cases h
    exact a_cons (cH_ok G n hc) (cHs_ok G n hq (star_tail ns)) (star_cons ns)
end
theorem cHot_ok (G : GoodN X T ct) {st : Stmt} {r : CodeS} (h : cHot ct st = some r) : ES X T Wx st (r cs) := by
  unfold cHot at h
  split at h
  · rename_i x p e p2
    obtain ⟨tg, ht, h⟩ := ob_some h
    cases tg with
    | tp ts => cases h
    | nm i =>
      obtain ⟨g, h⟩ := gB_some h
      obtain ⟨c, hc, h⟩ := ob_some h
      cases h
      obtain ⟨k1, j, k2, k3⟩ := tg_name (k := 19) ht
      cases k2
      obtain ⟨hx, hf⟩ := G.own x k1
      exact s_set G.nd (G.ix k3) hx (cH_ok G 20 hc) (swaps_no g) hf
  · obtain ⟨c, hc, h⟩ := ob_some h
    cases h
    exact s_ret (cH_ok G 20 hc)
  · cases h
theorem GoodN.suite (G : GoodN X T ct) (a : Addr) (pn : List (Addr × Obj)) : GoodN (X.suite a pn) T ct where
  N := G.N
  nd := G.nd
  sc := G.sc
  own := G.own
  gl := fun x g hg => by
    have := G.gl x g hg
    cases g with
    | exc c => exact ⟨this.1, ⟨this.2.1.ex, this.2.1.kp, this.2.1.sub, this.2.1.ty⟩, this.2.2⟩
    | fn i => exact this
    | con d => exact this
    | blt => exact this
theorem cHd_ok (G : Good X T Wx ct cs) : ∀ {hds : List ExceptHandler} {r : Calls → List (Nat × C1S)}, cHd ct hds = some r → HOk X T Wx hds (r cs)
  | [], r, h => by cases h; exact .nil
  | hd :: hds, r, h => by
    unfold cHd at h
    split at h
    · rename_i e; cases e
    · rename_i x np st p r' e
      cases e
      obtain ⟨c, hc, h⟩ := ob_some h
      obtain ⟨s, hs, h⟩ := ob_some h
      obtain ⟨l, hl, h⟩ := ob_some h
      cases h
      obtain ⟨g1, g2, g3, g4, g5⟩ := excBy_ok G hc
      exact .cons g1 g2 g5 (fun a pn => ss_cons (cHot_ok (G.toGoodN.suite a pn) hs) ss_nil) (cHd_ok G hl)
    · cases h
theorem GoodS.tr (G : GoodS X T Wx ct cs) {W : WX} {pn : List (Addr × Obj)} {xe : Value → Shared → Prop} (tk : Takes (X.tr pn xe) W) (po : PassesOwn (model X.prog X.w) X.A X.env xe) : GoodS (X.tr pn xe) T W ct cs where
  g := {
    N := G.g.N
    nd := G.g.nd
    sc := G.g.sc
    own := G.g.own
    gl := fun x g hg => by
      have := G.g.gl x g hg
      cases g with
      | exc c => exact ⟨this.1, ⟨this.2.1.ex, this.2.1.kp, this.2.1.sub, this.2.1.ty⟩, this.2.2⟩
      | fn i => exact this
      | con d => exact this
      | blt => exact this
    calm := G.g.calm
    tk := tk
    units := G.g.units
    fns := fun i ps h => ⟨(G.g.fns i ps h).ex, (G.g.fns i ps h).keep⟩ }
  po := po
  stk := G.stk
  frm := G.frm
  exm := G.exm
mutual
theorem cS_ok : ∀ (n : Nat) {X : Cx} {Wx : WX} {st : Stmt} {r : CodeS}, GoodS X T Wx ct cs → cS n ct st = some r → ES X T Wx st (r cs)
  | 0, _, _, _, _, _, h => by cases h
  | n + 1, X, Wx, st, r, GS, h => by
    have G := GS.g
    have po := GS.po
    simp only [cS] at h
    cases st with
    | Expr e p =>
      obtain ⟨nc, h⟩ := gB_some h
      obtain ⟨c, hc, h⟩ := ob_some h
      cases h
      exact s_expr ((snd n).e G hc) (swaps_no nc)
    | Assign ts e p =>
      match ts, h with
      | [t], h => exact as_ok G h
      | [], h => cases h
      | _ :: _ :: _, h => cases h
    | If c a b p =>
      obtain ⟨cc, hc, h⟩ := ob_some h
      obtain ⟨ca, ha, h⟩ := ob_some h
      obtain ⟨cb, hb, h⟩ := ob_some h
      cases h
      exact s_if ((snd n).t G hc) (cSs_ok n GS ha) (cSs_ok n GS hb)
    | For t iter body els p =>
      cases els with
      | cons _ _ => cases h
      | nil =>
        obtain ⟨g, h⟩ := gB_some h
        obtain ⟨tg, ht, h⟩ := ob_some h
        obtain ⟨ci, hi, h⟩ := ob_some h
        obtain ⟨cb, hb, h⟩ := ob_some h
        cases h
        exact s_for po G.calm ((snd n).i G hi) (cTg_ok G 20 ht) (cSs_ok n GS hb) g
    | While c body els p =>
      cases els with
      | cons _ _ => cases h
      | nil =>
        obtain ⟨cc, hc, h⟩ := ob_some h
        obtain ⟨cb, hb, h⟩ := ob_some h
        cases h
        exact s_while po ((snd n).t G hc) (cSs_ok n GS hb)
    | Return v p =>
      cases v with
      | none => cases h; exact s_retN
      | some e =>
        obtain ⟨c, hc, h⟩ := ob_some h
        cases h
        exact s_ret ((snd n).e G hc)
    | Raise x y p =>
      dsimp only at h
      split at h
      · cases y with
        | some _ => cases h
        | none =>
          obtain ⟨c, hc, h⟩ := ob_some h
          cases h
          obtain ⟨g1, g2, g3, g4, g5⟩ := excBy_ok G hc
          exact s_raise G.calm G.tk g3 g4 g2 g1 g5
      · cases h
    | Try body hds els fin p =>
      cases els with
      | cons _ _ => cases h
      | nil =>
        cases fin with
        | cons _ _ => cases h
        | nil =>
          cases hds with
          | nil => cases h
          | cons hd hds =>
            obtain ⟨cb, hb, h⟩ := ob_some h
            obtain ⟨l, hl, h⟩ := ob_some h
            cases h
            exact s_try GS.stk GS.frm G.tk (fun W pn xe tk po => cSs_ok n (GS.tr tk po) hb) GS.exm (cHd_ok G hl)
    | Pass p => cases h; exact s_pass
    | Break p => cases h; exact s_break
    | Continue p => cases h; exact s_cont
    | _ => cases h
theorem cSs_ok : ∀ (n : Nat) {X : Cx} {Wx : WX} {sts : List Stmt} {r : CodeS}, GoodS X T Wx ct cs → cSs n ct sts = some r → ESs X T Wx sts (r cs)
  | 0, _, _, _, _, _, h => by cases h
  | n + 1, X, Wx, [], r, GS, h => by cases h; exact ss_nil
  | n + 1, X, Wx, st :: sts, r, GS, h => by
    simp only [cSs] at h
    obtain ⟨a, ha, h⟩ := ob_some h
    obtain ⟨b, hb, h⟩ := ob_some h
    cases h
    exact ss_cons (cS_ok n GS ha) (cSs_ok n GS hb)
end
end
end Ev
/-! Ev, part J: the defs of a text. -/
namespace Ev
open PySem L2 PyProof.Rows

structure Fn where
  name : Str
  params : Arguments
  body : List Stmt
  sc : Scope
  N : List Str
  mutN : List Str
  ret : Bool
def Fn.ps (f : Fn) : List Str := f.params.args.map (·.arg)
def ctOf (exm : List (Nat × Nat × Bool)) (gl : List (Str × GV)) (fns : List Fn) (f : Fn) : CT := ⟨f.N, f.sc, f.sc.names, gl, fns.map Fn.ps, f.mutN, f.ret, exm⟩
structure FC where
  ar : Nat
  nn : Nat
  code : CodeS
def fuelC : Nat := 60
def mkFC (exm : List (Nat × Nat × Bool)) (gl : List (Str × GV)) (fns : List Fn) (f : Fn) : FC := ⟨f.ps.length, f.N.length, match cSs fuelC (ctOf exm gl fns f) f.body with
  | some c => c
  | none => fun _ _ _ => .bad⟩
def startD (n : Nat) (ds : List D) : Sl := ds.map some ++ List.replicate (n - ds.length) none
def runF (c : FC) (cs : Calls) (ds : List D) (S : Sto) : Res := match Nat.beq ds.length c.ar with
  | true => match c.code cs (startD c.nn ds) S with
    | .rt d S' => .ok d S'
    | .nx _ S' => .ok .non S'
    | .exc x v _ S' => .exc x v S'
    | _ => .bad
  | false => .bad
def fnSem (l : List FC) : Nat → Calls
  | 0 => fun _ _ _ => .bad
  | Nat.succ n => fun i ds S => match lGet l i with
    | some c => runF c (fnSem l n) ds S
    | none => .bad
def nodupS : List Str → Bool
  | [] => true
  | x :: r => match inS r x with
    | true => false
    | false => nodupS r
theorem inS_ok : ∀ {l : List Str} {x : Str}, inS l x = false → x ∉ l
  | [], _, _ => by simp
  | y :: r, x, h => by
    have h' : (match strEq y x with | true => true | false => inS r x) = false := h
    rw [strEq_eq] at h'
    by_cases e : y = x
    · rw [decide_eq_true e] at h'; cases h'
    · rw [decide_eq_false e] at h'
      intro hm
      rcases List.mem_cons.mp hm with z | hm
      · exact e z.symm
      · exact inS_ok h' hm
theorem nodupS_ok : ∀ {l : List Str}, nodupS l = true → l.Nodup
  | [], _ => List.nodup_nil
  | x :: r, h => by
    have h' : (match inS r x with | true => false | false => nodupS r) = true := h
    cases q : inS r x with
    | true => rw [q] at h'; cases h'
    | false => rw [q] at h'; exact List.nodup_cons.mpr ⟨inS_ok q, nodupS_ok h'⟩
def preS : List Str → List Str → Bool
  | [], _ => true
  | _ :: _, [] => false
  | x :: r, y :: t => match strEq x y with
    | true => preS r t
    | false => false
theorem preS_ok : ∀ {l m : List Str}, preS l m = true → m.take l.length = l
  | [], _, _ => by simp
  | _ :: _, [], h => by cases h
  | x :: r, y :: t, h => by
    have h' : (match strEq x y with | true => preS r t | false => false) = true := h
    rw [strEq_eq] at h'
    by_cases e : x = y
    · rw [decide_eq_true e] at h'; subst e; rw [List.length_cons, List.take_succ_cons, preS_ok h']
    · rw [decide_eq_false e] at h'; cases h'
def locOrCell (sc : Scope) (x : Str) : Bool := match lkS sc.names x with
  | some .local => true
  | some .cell => true
  | _ => false
def noFree : List (Str × NameKind) → Bool
  | [] => true
  | (_, .free) :: _ => false
  | _ :: r => noFree r
theorem noFree_ok : ∀ {l : List (Str × NameKind)}, noFree l = true → ∀ y ∈ l, y.2 ≠ .free
  | [], _, _, h => by simp at h
  | (x, k) :: r, h, y, hy => by
    have hr : k ≠ .free ∧ noFree r = true := by cases k <;> first | exact ⟨by decide, h⟩ | cases h
    rcases List.mem_cons.mp hy with z | hy
    · rw [z]; exact hr.1
    · exact noFree_ok hr.2 y hy
def scB (f : Fn) : Bool := isFun f.sc.kind && (!f.sc.isCoroutine && (!f.sc.isGenerator && (nodupS f.N && (preS f.ps f.N && (f.ps.all (locOrCell f.sc) && (noFree f.sc.names && nodupS f.ps))))))
theorem scB_ok {f : Fn} (h : scB f = true) : FnScope f.N f.ps f.sc ∧ f.ps.Nodup := by
  unfold scB at h
  simp only [Bool.and_eq_true, Bool.not_eq_true'] at h
  obtain ⟨h1, h2, h3, h4, h5, h6, h7, h8⟩ := h
  refine ⟨⟨isFun_ok h1, h2, h3, nodupS_ok h4, preS_ok h5, fun x hx => ?_, noFree_ok h7⟩, nodupS_ok h8⟩
  have := List.all_eq_true.mp h6 x hx
  unfold locOrCell at this
  rw [lkS_eq] at this
  split at this
  · rename_i e; exact .inl e
  · rename_i e; exact .inr e
  · cases this
def plainP (p : Arguments) : Bool := match p with
  | ⟨[], _, none, [], [], none, []⟩ => true
  | _ => false
theorem plainP_ok {p : Arguments} (h : plainP p = true) : p = ⟨[], p.args, none, [], [], none, []⟩ := by
  unfold plainP at h
  split at h
  · rfl
  · cases h
def okFn (exm : List (Nat × Nat × Bool)) (gl : List (Str × GV)) (fns : List Fn) (f : Fn) : Bool := plainP f.params && (scB f && (cSs fuelC (ctOf exm gl fns f) f.body).isSome)
section
variable {K : PySem.W.Frag} {T : Ads}
theorem startD_rs {W : Wd} {n : Nat} {ds : List D} {vs : List V} (h : Rvs K T W ds vs) {N : List Str} (hn : N.length = n) : Rs K T W (startD n ds) (L2.start N vs) := by
  have hl := h.len
  unfold startD L2.start
  refine ⟨by simp [hn, hl], fun i d e => ?_⟩
  by_cases hi : i < ds.length
  · rw [List.getElem?_append_left (by simpa using hi), List.getElem?_map] at e
    cases q : ds[i]? with
    | none => rw [q] at e; cases e
    | some d' =>
      rw [q] at e; cases e
      obtain ⟨v, a, b⟩ := h.get q
      refine ⟨v, ?_, b⟩
      rw [List.getElem?_append_left (by simpa [hl] using hi), List.getElem?_map, a] <;> rfl
  · rw [List.getElem?_append_right (by simpa using hi), List.getElem?_replicate] at e
    split at e <;> cases e
end
/-- what is known of the module -/
structure Mdl (P : Program) (w : World) (K : PySem.W.Frag) (mg : Str → Option Value) (T : Ads) (exm : List (Nat × Nat × Bool)) (gl : List (Str × GV)) (fns : List Fn) : Prop where
  glo : ∀ (X : Cx), X.K = K → X.mg = mg → ∀ x g, lkS gl x = some g → GlOk X T x g
  ok : ∀ f ∈ fns, okFn exm gl fns f = true
  exs : ∀ c h b, (c, h, b) ∈ exm → PySem.W.exmOne K (.ref (T.ec c)) (.ref (T.ec h)) = some b
  fn : ∀ i f, fns[i]? = some f → ∃ fd, FunD K f.name f.name f.params f.body f.sc [] [] (T.fn i) fd
section
variable {P : Program} {w : World} {K : PySem.W.Frag} {mg : Str → Option Value} {base : Heap} {T : Ads} {exm : List (Nat × Nat × Bool)} {gl : List (Str × GV)} {fns : List Fn}
theorem binds_of {f : Fn} {fd : FuncData} {i : Nat} (hp : plainP f.params = true) (nd : f.ps.Nodup) (F : FunD K f.name f.name f.params f.body f.sc [] [] (T.fn i) fd) (us ws : List Value) (s : Shared) (hl : us.length + ws.length = f.ps.length) :
    BindsTo s fd ⟨us, (f.ps.drop us.length).zip ws⟩ (f.ps.zip (us ++ ws)) := by
  obtain ⟨oc, od, dV, kV, doc, pm, an, cdv, ct, osl, rfl, lk, hcd, hd, _⟩ := F.ex
  have hdv : dV = .none := by
    rcases hd with ⟨_, e⟩ | ⟨e, _⟩
    · exact e
    · exact absurd rfl e
  subst hdv
  exact .of_eq (bind_pos (as := f.params.args) (plainP_ok hp) rfl nd us ws (by rw [hl]; exact List.length_map ..))
theorem fn_all (M : Mdl P w K mg T exm gl fns) : ∀ (n i : Nat) (f : Fn) (fd : FuncData), fns[i]? = some f → FunD K f.name f.name f.params f.body f.sc [] [] (T.fn i) fd →
    FnOk P w K mg base (L2.CX P w) n (T.fn i) fd f.ps (spOf K T f.ps.length (fnSem (fns.map (mkFC exm gl fns)) n i))
  | 0, i, f, fd, hi, F => ⟨fun vs H Q E ⟨W, ds, S, _, _, _, p⟩ => p.elim, fun A outer s H args us vs Q E _ _ _ _ ⟨W, ds, S, _, _, _, p⟩ => p.elim⟩
  | n + 1, i, f, fd, hi, F => by
    have hmem : f ∈ fns := List.mem_of_getElem? hi
    have ok := M.ok f hmem
    unfold okFn at ok
    simp only [Bool.and_eq_true] at ok
    obtain ⟨ok1, ok2, ok3⟩ := ok
    obtain ⟨sc, nd⟩ := scB_ok ok2
    have hc : lGet (fns.map (mkFC exm gl fns)) i = some (mkFC exm gl fns f) := by rw [lGet_eq, List.getElem?_map, hi] <;> rfl
    obtain ⟨c, hcs⟩ := Option.isSome_iff_exists.mp ok3
    refine F.ok sc (fun vs H Q E ⟨W, ds, S, rv, _, hn, _⟩ => by rw [rv.len]; exact hn) (fun cdv A outer s H vs Q E hr ⟨W, ds, S, rv, rh, hn, p⟩ => ?_)
    have p : Post K T W (match lGet (fns.map (mkFC exm gl fns)) i with | some c => runF c (fnSem (fns.map (mkFC exm gl fns)) n) ds S | none => .bad) Q E := p
    rw [hc] at p
    have p : Post K T W (match Nat.beq ds.length f.ps.length with
      | true => match (mkFC exm gl fns f).code (fnSem (fns.map (mkFC exm gl fns)) n) (startD f.N.length ds) S with
        | .rt d S' => .ok d S'
        | .nx _ S' => .ok .non S'
        | .exc x v _ S' => .exc x v S'
        | _ => .bad
      | false => .bad) Q E := p
    rw [beq_dec, decide_eq_true hn] at p
    have ec : (mkFC exm gl fns f).code = c := by
      show (match cSs fuelC (ctOf exm gl fns f) f.body with | some c => c | none => fun _ _ _ => .bad) = c
      rw [hcs]
    rw [ec] at p
    let X := cxOf (L2.CX P w) P w K mg base f.N f.name f.sc (T.fn i) cdv A outer s H E
    let Wx : WX := fun cls d _ H => E cls d H
    have tk : Takes X Wx := takes_of (X := X) rfl rfl rfl (E₁ := fun e' s'' => L2.CX P w outer H s E e' s'') rfl
    have po : PassesOwn (model X.prog X.w) X.A X.env X.xe := passes_of (X := X) (K := fun e s'' => L2.CX P w outer H s E e s'') (E₁ := fun e' s'' => L2.CX P w outer H s E e' s'') rfl
    have G : Good X T Wx (ctOf exm gl fns f) (fnSem (fns.map (mkFC exm gl fns)) n) := {
      N := rfl
      nd := sc.nd
      sc := rfl
      own := fun x hx => ⟨hx, .inl rfl⟩
      calm := rfl
      tk := tk
      units := by have := hr.un; show (A.deeper _).units + 65 < cLine; omega
      gl := M.glo X rfl rfl
      fns := fun j ps hj => by
        have hj : (fns.map Fn.ps)[j]? = some ps := hj
        rw [List.getElem?_map] at hj
        cases q : fns[j]? with
        | none => rw [q] at hj; cases hj
        | some g =>
          rw [q] at hj; cases hj
          obtain ⟨gd, FG⟩ := M.fn j g q
          have okg := M.ok g (List.mem_of_getElem? q)
          unfold okFn at okg
          simp only [Bool.and_eq_true] at okg
          obtain ⟨_, ndg⟩ := scB_ok okg.2.1
          exact ⟨⟨n, gd, hr, fn_all M n j g gd q FG, fun us ws s hl => binds_of okg.1 ndg FG us ws s hl⟩, FG.kp⟩ }
    refine ⟨tS X.K T Wx (c (fnSem (fns.map (mkFC exm gl fns)) n)), cSs_ok fuelC ⟨G, po, rfl, rfl, M.exs⟩ hcs, W, startD f.N.length ds, S, startD_rs rv rfl, rh, ?_⟩
    cases z : c (fnSem (fns.map (mkFC exm gl fns)) n) (startD f.N.length ds) S with
    | rt d S' => simp only [z] at p; exact fun U H' v le rh' rv' => p U H' v le rh' rv'
    | nx σ' S' => simp only [z] at p; exact fun U H' τ le rh' rs' => p U H' .non le rh' rfl
    | exc x v σ' S' => simp only [z] at p; exact fun U H' τ cls q le rh' rs' rx => p U H' cls q le rh' rx
    | bk σ' S' => simp only [z] at p; exact p.elim
    | ct σ' S' => simp only [z] at p; exact p.elim
    | bad => simp only [z] at p; exact p.elim
end
end Ev
/-! Ev, part K: what the head tells. -/
namespace Ev
open PySem L2 PyProof.Rows

/-! ### constants of the module -/
mutual
def conB (K : PySem.W.Frag) : D → Value → Bool
  | .non, u => match u with
    | .none => true
    | _ => false
  | .bl b, u => match u with
    | .bool c => b == c
    | _ => false
  | .int i, u => match u with
    | .int j _ => decide (i = j)
    | _ => false
  | .str x, u => match u with
    | .str y _ => decide (x = y)
    | _ => false
  | .tup ds, u => match u with
    | .ref a => match K.lookup a with
      | some ⟨.type c, _, .seq its _, _⟩ => decide (c = "tuple") && (Nat.ble its.size 1000 && consB K ds its.toList)
      | _ => false
    | _ => false
  | _, _ => false
def consB (K : PySem.W.Frag) : List D → List Value → Bool
  | [], us => match us with
    | [] => true
    | _ :: _ => false
  | d :: ds, us => match us with
    | [] => false
    | u :: us => conB K d u && consB K ds us
end
section
variable {K : PySem.W.Frag} {T : Ads}
mutual
theorem conB_ok : ∀ (d : D) (u : Value), conB K d u = true → ∃ v, RelV v u ∧ ∀ W, Rv K T W d v
  | .non, u, h => by cases u <;> first | exact ⟨.non, rfl, fun _ => rfl⟩ | (simp [conB] at h)
  | .bl b, u, h => by
    cases u <;> first | (simp [conB] at h; done) | skip
    simp [conB] at h; subst h; exact ⟨.bl b, rfl, fun _ => rfl⟩
  | .int i, u, h => by
    cases u <;> first | (simp [conB] at h; done) | skip
    simp [conB] at h; subst h; exact ⟨.int i, ⟨_, rfl⟩, fun _ => rfl⟩
  | .str x, u, h => by
    cases u <;> first | (simp [conB] at h; done) | skip
    simp [conB] at h; subst h; exact ⟨.str x, ⟨_, rfl⟩, fun _ => rfl⟩
  | .tup ds, u, h => by
    cases u with
    | ref a =>
      simp only [conB] at h
      split at h
      · rename_i c dd its n sl e
        simp only [Bool.and_eq_true, decide_eq_true_eq] at h
        obtain ⟨h1, h2, h3⟩ := h
        obtain ⟨vs, g1, g2⟩ := consB_ok ds its.toList h3
        have hz := Nat.le_of_ble_eq_true h2
        subst h1
        exact ⟨.ref a, rfl, fun W => ⟨a, vs, rfl, .inr ⟨_, its, n, e, rfl, rfl, by rw [sizeLine_eq]; omega, g1⟩, g2 W⟩⟩
      · cases h
    | _ => simp [conB] at h
  | .lis _, _, h => by simp [conB] at h
  | .scr _, _, h => by simp [conB] at h
  | .ty _, _, h => by simp [conB] at h
  | .dic _ _, _, h => by simp [conB] at h
  | .loc _, _, h => by simp [conB] at h
  | .fn _, _, h => by simp [conB] at h
  | .exc _ _, _, h => by simp [conB] at h
theorem consB_ok : ∀ (ds : List D) (us : List Value), consB K ds us = true → ∃ vs, Vals vs us ∧ ∀ W, Rvs K T W ds vs
  | [], [], _ => ⟨[], .nil, fun _ => rfl⟩
  | [], _ :: _, h => by simp [consB] at h
  | _ :: _, [], h => by simp [consB] at h
  | d :: ds, u :: us, h => by
    simp only [consB, Bool.and_eq_true] at h
    obtain ⟨v, a, b⟩ := conB_ok d u h.1
    obtain ⟨vs, c, e⟩ := consB_ok ds us h.2
    exact ⟨v :: vs, .cons a c, fun W => ⟨v, vs, rfl, b W, e W⟩⟩
end
end

/-! ### the facts -/
def nmAt : List Str → Nat → Str
  | [], _ => Str.ofString ""
  | x :: r, n => match n with
    | 0 => x
    | Nat.succ n => nmAt r n
def adsOf (K : PySem.W.Frag) (fn ec : List Str) : Ads := ⟨fun i => He.ga K (nmAt fn i), fun c => He.ga K (nmAt ec c), fun _ => none⟩
def gvB (K : PySem.W.Frag) (fn ec : List Str) (x : Str) : GV → Bool
  | .fn i => decide (nmAt fn i = x) && (He.Fa.glo x).ok K
  | .con d => match PySem.W.nsIn K mainGlobals x with
    | some (some u) => conB K d u
    | _ => false
  | .blt => (He.Fa.free x).ok K
  | .exc c => decide (nmAt ec c = x) && ((He.Fa.glo x).ok K && (He.Fa.exc x).ok K)
def gvsB (K : PySem.W.Frag) (fn ec : List Str) : List (Str × GV) → Bool
  | [] => true
  | (x, g) :: r => gvB K fn ec x g && gvsB K fn ec r
theorem gvsB_at {K : PySem.W.Frag} {fn ec : List Str} : ∀ {l : List (Str × GV)} {x : Str} {g : GV}, gvsB K fn ec l = true → lkS l x = some g → gvB K fn ec x g = true
  | [], _, _, _, h => by cases h
  | (y, g') :: r, x, g, h, e => by
    simp only [gvsB, Bool.and_eq_true] at h
    have e' : (match strEq x y with | true => some g' | false => lkS r x) = some g := e
    rw [strEq_eq] at e'
    by_cases z : x = y
    · rw [decide_eq_true z] at e'; cases e'; subst z; exact h.1
    · rw [decide_eq_false z] at e'; exact gvsB_at h.2 e'
theorem gv_ok {K : PySem.W.Frag} {h : Heap} {mg : Str → Option Value} {fn ec : List Str} {x : Str} {g : GV} (hK : K.In h) (G : h.Ns mainGlobals mg) (c : gvB K fn ec x g = true) {X : Cx} (h1 : X.K = K) (h2 : X.mg = mg) : GlOk X (adsOf K fn ec) x g := by
  subst h1 h2
  cases g with
  | fn i =>
    simp only [gvB, Bool.and_eq_true, decide_eq_true_eq] at c
    have := He.glo_ok hK G c.2
    show X.mg x = some (.ref (He.ga X.K (nmAt fn i)))
    rw [c.1]; exact this
  | con d =>
    simp only [gvB] at c
    split at c
    · rename_i u e
      obtain ⟨v, a, b⟩ := conB_ok (T := adsOf X.K fn ec) d u c
      exact ⟨u, v, PySem.W.mg_of hK G e, a, b⟩
    · cases c
  | blt => exact He.free_ok hK G c
  | exc k =>
    simp only [gvB, Bool.and_eq_true, decide_eq_true_eq] at c
    obtain ⟨c1, c2, c3⟩ := c
    obtain ⟨a, b, d, e⟩ := He.exc_ok c3
    have ea : (adsOf X.K fn ec).ec k = He.ga X.K x := by show He.ga X.K (nmAt ec k) = _; rw [c1]
    refine ⟨by rw [ea]; exact He.glo_ok hK G c2, ⟨?_, ?_, ?_, ?_⟩, rfl⟩ <;> rw [ea] <;> assumption
def exsB (K : PySem.W.Frag) (ec : List Str) : List (Nat × Nat × Bool) → Bool
  | [] => true
  | p :: r => decide (PySem.W.exmOne K (.ref (He.ga K (nmAt ec p.1))) (.ref (He.ga K (nmAt ec p.2.1))) = some p.2.2) && exsB K ec r
theorem exsB_ok {K : PySem.W.Frag} {ec : List Str} : ∀ {l : List (Nat × Nat × Bool)}, exsB K ec l = true → ∀ p ∈ l, PySem.W.exmOne K (.ref (He.ga K (nmAt ec p.1))) (.ref (He.ga K (nmAt ec p.2.1))) = some p.2.2
  | [], _, _, h => by simp at h
  | q :: r, h, p, hp => by
    simp only [exsB, Bool.and_eq_true, decide_eq_true_eq] at h
    rcases List.mem_cons.mp hp with z | hp
    · rw [z]; exact h.1
    · exact exsB_ok h.2 p hp
/-! ### the head's hook -/
def defD (f : Fn) : He.DefD := ⟨(f.name, none), f.name, f.name, f.params, f.body, f.sc, [], []⟩
abbrev Seen : Type := Bool × List He.FnW
def seen (exm : List (Nat × Nat × Bool)) (gl : List (Str × GV)) (fns : List Fn) (ec : List Str) (K : PySem.W.Frag) : Seen :=
  ((gvsB K (fns.map Fn.name) ec gl && exsB K ec exm) && fns.all fun f => (defD f).ok K, fns.map fun f => He.fnW K (f.name, none))
def due (fns : List Fn) : Seen := (true, fns.map fun f => (defD f).val)
def seenG (n : Nat) (exm : List (Nat × Nat × Bool)) (gl : List (Str × GV)) (fns : List Fn) (ec : List Str) (g : Addr → Option Obj) : Seen := seen exm gl fns ec (He.frG g (He.asD g n))
def hook (n : Nat) (exm : List (Nat × Nat × Bool)) (gl : List (Str × GV)) (fns : List Fn) (ec : List Str) : PySem.W.Hook where
  α := Seen
  obs := fun s => seenG n exm gl fns ec s.heap.get?
  val := fun _ => due fns
  says := fun _ h => ∃ K : PySem.W.Frag, K.In h ∧ seen exm gl fns ec K = due fns
  of := fun _ _ e => ⟨_, He.frG_in, e⟩
  keeps := fun _ _ _ ⟨K, hK, c⟩ k => ⟨K, PySem.W.Frag.In.keeps hK k, c⟩
def eye (n : Nat) (exm : List (Nat × Nat × Bool)) (gl : List (Str × GV)) (fns : List Fn) (ec : List Str) (s : PySem.W.SharedT) : Seen := seenG n exm gl fns ec (HandSHeadRun.getT s)
theorem eye_eq {n : Nat} {exm : List (Nat × Nat × Bool)} {gl : List (Str × GV)} {fns : List Fn} {ec : List Str} (s : PySem.W.SharedT) : eye n exm gl fns ec s = (hook n exm gl fns ec).obs s.abs := by
  have e : HandSHeadRun.getT s = s.abs.heap.get? := funext (HandSHeadRun.getT_eq s)
  unfold eye
  rw [e] <;> rfl
theorem mdl_of {K : PySem.W.Frag} {h : Heap} {mg : Str → Option Value} {exm : List (Nat × Nat × Bool)} {gl : List (Str × GV)} {fns : List Fn} {ec : List Str} (hK : K.In h) (G : h.Ns mainGlobals mg) (c : seen exm gl fns ec K = due fns) (ok : fns.all (okFn exm gl fns) = true) {P : Program} {w : World} :
    Mdl P w K mg (adsOf K (fns.map Fn.name) ec) exm gl fns := by
  have c1 : ((gvsB K (fns.map Fn.name) ec gl && exsB K ec exm) && fns.all fun f => (defD f).ok K) = true := congrArg (fun z : Seen => z.1) c
  have c2 : (fns.map fun f => He.fnW K (f.name, none)) = fns.map fun f => (defD f).val := congrArg (fun z : Seen => z.2) c
  obtain ⟨c1, c3⟩ := He.ba c1
  obtain ⟨c1, c4⟩ := He.ba c1
  refine ⟨fun X h1 h2 x g e => gv_ok hK G (gvsB_at c1 e) h1 h2, fun f hf => List.all_eq_true.mp ok f hf, fun c h b hm => exsB_ok c4 _ hm, fun i f hi => ?_⟩
  have e2 : (fns.map fun f => He.fnW K (f.name, none))[i]? = (fns.map fun f => (defD f).val)[i]? := by rw [c2]
  rw [List.getElem?_map, List.getElem?_map, hi] at e2
  have e3 := He.DefD.funD (d := defD f) (Option.some.inj e2) (List.all_eq_true.mp c3 f (List.mem_of_getElem? hi))
  have en : ∀ (l : List Fn) (j : Nat), l[j]? = some f → nmAt (l.map Fn.name) j = f.name := fun l => by
    induction l with
    | nil => intro j h; simp at h
    | cons a r ih =>
      intro j h
      cases j with
      | zero => simp at h; subst h; rfl
      | succ j => exact ih j (by simpa using h)
  have ea : (adsOf K (fns.map Fn.name) ec).fn i = He.fAd K (f.name, none) := by
    show He.ga K (nmAt (fns.map Fn.name) i) = He.ga K f.name
    rw [en fns i hi]
  rw [ea]
  exact e3
/-! ### the law's call -/
def isTrueR : Res → Bool
  | .ok (.bl true) _ => true
  | _ => false
/-- the law at a script: its own code gives True -/
theorem sp_true {K : PySem.W.Frag} {T : Ads} {f : List D → Sto → Res} {H : Hp} {a : Addr} {ns : List Int} (hO : L2.Only H) (hS : SqL K H a (ns.map V.int)) (h : isTrueR (f [.scr (ns.map .int)] []) = true) :
    spOf K T 1 f [.ref a] H (fun v _ => v = .bl true) fun _ _ _ => False := by
  have rvs : ∀ (W : Wd) (ns : List Int), Rvs K T W (ns.map D.int) (ns.map V.int) := fun W ns => by
    induction ns with
    | nil => rfl
    | cons n ns ih => exact ⟨.int n, _, rfl, rfl, ih⟩
  refine ⟨⟨H, fun _ => none, fun _ => none⟩, [.scr (ns.map .int)], [], ⟨.ref a, [], rfl, ⟨a, _, rfl, hS, rvs _ ns⟩, rfl⟩, ⟨fun _ _ e => e, fun _ _ e => (by cases e), fun _ _ e => (by cases e), fun _ _ _ e => (by cases e), fun _ _ e => (by cases e), fun _ _ e => (by cases e), fun _ _ e => (by cases e)⟩, rfl, ?_⟩
  unfold isTrueR at h
  split at h
  · rename_i S e
    rw [e]
    intro U H' v le rh rv
    exact rv
  · cases h
/-- all that a walk of the law asks -/
theorem law_of {K : PySem.W.Frag} {h : Heap} {mg : Str → Option Value} {exm : List (Nat × Nat × Bool)} {gl : List (Str × GV)} {fns : List Fn} {ec : List Str} {P : Program} {w : World} {fa : Addr} {depth li : Nat} {f : Fn} (hK : K.In h) (G : h.Ns mainGlobals mg) (c : seen exm gl fns ec K = due fns) (ok : fns.all (okFn exm gl fns) = true)
    (hl : fns[li]? = some f) (hps : f.ps = [("script" : Str)]) (hg : lkS gl f.name = some (.fn li)) (hfa : mg f.name = some (.ref fa)) (run : ∀ ns : List Int, ns.length ≤ 63 → isTrueR (fnSem (fns.map (mkFC exm gl fns)) depth li [.scr (ns.map .int)] []) = true) :
    ∃ (fd : FuncData) (sp : Sp), (∀ (s : Shared) (u : Value), BindsTo s fd ⟨[u], []⟩ [(("script" : Str), u)]) ∧
      (∀ (H : Hp) (a : Addr) (ns : List Int), ns.length ≤ 63 → L2.Only H → SqL K H a (ns.map V.int) → sp [.ref a] H (fun v _ => v = .bl true) fun _ _ _ => False) ∧
      ∀ base : Heap, K.In base → base.Ns mainGlobals mg → FnOk P w K mg base L2.CX0 depth fa fd [("script" : Str)] sp := by
  have M : Mdl P w K mg (adsOf K (fns.map Fn.name) ec) exm gl fns := mdl_of hK G c ok
  obtain ⟨fd, F⟩ := M.fn li f hl
  have ha : (adsOf K (fns.map Fn.name) ec).fn li = fa := by
    have := M.glo ⟨P, w, K, mg, h, callerA, [], ⟨h, #[], {}, 0, (start P).1.os⟩, fun _ => none, default, [], [], [], fun _ => false, true, [], fun _ _ => False⟩ rfl rfl f.name _ hg
    have this : mg f.name = some (.ref ((adsOf K (fns.map Fn.name) ec).fn li)) := this
    rw [hfa] at this
    cases this; rfl
  have okf := M.ok f (List.mem_of_getElem? hl)
  unfold okFn at okf
  simp only [Bool.and_eq_true] at okf
  obtain ⟨_, nd⟩ := scB_ok okf.2.1
  refine ⟨fd, fun vs H Q _ => spOf K (adsOf K (fns.map Fn.name) ec) 1 (fnSem (fns.map (mkFC exm gl fns)) depth li) vs H Q fun _ _ _ => False, fun s u => ?_, fun H a ns hn hO hS => sp_true hO hS (run ns hn), fun base _ _ => ?_⟩
  · have := binds_of okf.1 nd F [u] [] s (by rw [hps] <;> rfl)
    rw [hps] at this
    exact this
  · have := fn_all (base := base) M depth li f fd hl F
    rw [hps, ha] at this
    refine ⟨fun vs H Q E h => this.len vs H Q _ h, fun A outer s H args us vs Q E hr he hb hv hs => codeAny_mono (this.run A outer s H args us vs Q _ hr he hb hv hs) fun r s' q => ?_⟩
    cases r with
    | ok fl => cases fl <;> exact q
    | error e =>
      obtain ⟨_, _, _, _, _, _, _, _, _, _, _, _, z⟩ := q
      exact z.elim
end Ev
namespace Ev
open PySem L2 PyProof.Rows
namespace Lw
abbrev PR : PySem.Program := PySem.Challenge.pw_askedback_k50_rows_by_hand_and_refused
def at_ (i : Nat) : Stmt := PR.main.body.getD i (.Pass ⟨0, 0, 0, 0⟩)
def fnI (i : Nat) (x : Str) (N m : List Str) (r : Bool) : Fn := ⟨x, defArgs (at_ i), defBody (at_ i), defScope (at_ i), N, m, r⟩
def f0 : Fn := fnI 1 "tupled" ["thing", "part"] [] false
def f1 : Fn := fnI 2 "is_number" ["thing"] [] false
def f2 : Fn := fnI 3 "is_from" ["thing", "least"] [] false
def f3 : Fn := fnI 4 "is_below" ["thing", "many"] [] false
def f4 : Fn := fnI 5 "is_tuple_of" ["thing", "many"] [] false
def f5 : Fn := fnI 6 "raised" ["base", "many", "found", "lap"] [] false
def f6 : Fn := fnI 12 "is_prime" ["thing"] [] false
def f7 : Fn := fnI 13 "sure_prime" ["prime"] [] false
def f8 : Fn := fnI 14 "sure_field" ["prime", "long"] [] false
def f9 : Fn := fnI 15 "has_row_form" ["prime", "long", "thing", "own"] [] false
def f10 : Fn := fnI 16 "has_rows_form" ["prime", "long", "thing", "own"] [] false
def f11 : Fn := fnI 17 "is_row" ["prime", "long", "thing"] [] false
def f12 : Fn := fnI 18 "is_rows" ["prime", "long", "thing"] [] false
def f13 : Fn := fnI 19 "sure_row" ["prime", "long", "row", "own"] [] false
def f14 : Fn := fnI 20 "sure_rows" ["prime", "long", "rows", "own"] [] false
def f15 : Fn := fnI 21 "sure_two" ["prime", "one", "other", "near", "far", "long"] [] false
def f16 : Fn := fnI 22 "inverse" ["prime", "number", "own"] [] false
def f17 : Fn := fnI 23 "under" ["prime", "number"] [] false
def f18 : Fn := fnI 24 "row_of" ["prime", "numbers", "own", "number"] [] false
def f19 : Fn := fnI 25 "unit_row" ["long", "place", "own"] [] false
def f20 : Fn := fnI 26 "added" ["prime", "one", "other", "near", "far"] [] false
def f21 : Fn := fnI 27 "scaled" ["prime", "number", "row", "own"] [] false
def f22 : Fn := fnI 28 "lessened" ["prime", "one", "other", "near", "far"] [] false
def f23 : Fn := fnI 29 "crossed" ["prime", "one", "other", "near", "far"] [] false
def f24 : Fn := fnI 30 "blended" ["prime", "long", "rows", "numbers", "found", "row", "number"] [] false
def f25 : Fn := fnI 31 "columns" ["long", "rows", "place", "row"] [] false
def f26 : Fn := fnI 32 "row_sum" ["prime", "one", "other", "near", "far"] [] false
def f27 : Fn := fnI 33 "row_less" ["prime", "one", "other", "near", "far"] [] false
def f28 : Fn := fnI 34 "row_times" ["prime", "number", "row", "near", "_"] [] false
def f29 : Fn := fnI 35 "dot" ["prime", "one", "other", "near", "far"] [] false
def f30 : Fn := fnI 36 "rows_times" ["prime", "long", "rows", "row", "own", "told", "some"] [] false
def f31 : Fn := fnI 37 "mixed" ["prime", "long", "rows", "numbers", "own", "told"] [] false
def f32 : Fn := fnI 38 "rows_turned" ["prime", "long", "rows"] [] false
def f33 : Fn := fnI 39 "rows_product" ["prime", "long", "rows", "others", "told", "own", "row"] [] false
def f34 : Fn := fnI 40 "cleared" ["prime", "row", "head", "place"] [] false
def f35 : Fn := fnI 41 "made_stairs" ["prime", "long", "rows", "left", "found", "place", "some", "at", "head", "row"] [] false
def f36 : Fn := fnI 42 "head_of" ["row", "place", "own"] [] false
def f37 : Fn := fnI 43 "led_down" ["prime", "stairs", "row", "head"] [] false
def f38 : Fn := fnI 44 "has_stairs_form" ["prime", "long", "thing", "row"] [] false
def f39 : Fn := fnI 45 "is_stairs" ["prime", "long", "thing"] [] false
def f40 : Fn := fnI 46 "stairs_of" ["prime", "long", "rows"] [] false
def f41 : Fn := fnI 47 "heads_of" ["prime", "long", "rows", "row"] [] false
def f42 : Fn := fnI 48 "rank_of" ["prime", "long", "rows"] [] false
def f43 : Fn := fnI 49 "are_free" ["prime", "long", "rows"] [] false
def f44 : Fn := fnI 50 "is_mixed" ["prime", "long", "rows", "row", "stairs"] [] false
def f45 : Fn := fnI 51 "are_mixed_alike" ["prime", "long", "rows", "others"] [] false
def f46 : Fn := fnI 52 "free_among" ["prime", "long", "rows", "own", "found", "place", "row", "stairs", "at"] ["found"] false
def f47 : Fn := fnI 53 "made_nulled" ["prime", "long", "rows", "stairs", "heads", "found", "place", "own", "row", "head"] ["own", "found"] false
def f48 : Fn := fnI 54 "nulled" ["prime", "long", "rows"] [] false
def f49 : Fn := fnI 55 "joined_rows" ["prime", "long", "rows", "others", "near"] [] false
def f50 : Fn := fnI 56 "met_rows" ["prime", "long", "rows", "others", "near", "far"] [] false
def f51 : Fn := fnI 57 "how_many_mixed" ["prime", "long", "rows"] [] false
def f52 : Fn := fnI 58 "nth_mixed" ["prime", "long", "rows", "number", "stairs"] [] false
def f53 : Fn := fnI 59 "nth_blended" ["prime", "long", "stairs", "number", "digits", "_"] ["digits"] false
def f54 : Fn := fnI 60 "number_of_mixed" ["prime", "long", "rows", "row", "stairs", "own", "found", "head"] [] false
def f55 : Fn := fnI 62 "made_solution" ["prime", "long", "rows", "ends", "stairs", "found", "row", "head", "end"] ["found"] false
def f56 : Fn := fnI 63 "made_bar" ["prime", "long", "rows", "ends", "told"] [] false
def f57 : Fn := fnI 64 "made_multipliers" ["prime", "long", "rows", "row"] [] false
def f58 : Fn := fnI 65 "made_apart" ["prime", "long", "rows", "row"] [] false
def f59 : Fn := fnI 66 "sure_equations" ["prime", "long", "rows", "ends", "own"] [] false
def f60 : Fn := fnI 67 "sure_pair" ["prime", "long", "pair", "own"] [] false
def f61 : Fn := fnI 68 "sure_row_asked" ["prime", "long", "rows", "row", "own"] [] false
def f62 : Fn := fnI 69 "is_solution" ["prime", "long", "rows", "ends", "thing", "own", "told", "row", "end"] [] false
def f63 : Fn := fnI 70 "solution" ["prime", "long", "rows", "ends", "own", "told"] [] false
def f64 : Fn := fnI 71 "is_row_bar" ["prime", "long", "rows", "ends", "thing", "own", "told"] [] false
def f65 : Fn := fnI 72 "row_bar" ["prime", "long", "rows", "ends", "own", "told"] [] false
def f66 : Fn := fnI 73 "are_multipliers" ["prime", "long", "rows", "row", "thing", "own", "told"] [] false
def f67 : Fn := fnI 74 "multipliers" ["prime", "long", "rows", "row", "own", "told"] [] false
def f68 : Fn := fnI 75 "is_apart" ["prime", "long", "rows", "row", "thing", "own", "told", "some"] [] false
def f69 : Fn := fnI 76 "apart_of" ["prime", "long", "rows", "row", "own", "told"] [] false
def f70 : Fn := fnI 77 "how_many_solutions" ["prime", "long", "rows", "ends", "own", "told"] [] false
def f71 : Fn := fnI 78 "nth_solution" ["prime", "long", "rows", "ends", "number", "own", "told", "least"] [] false
def f72 : Fn := fnI 79 "number_of_solution" ["prime", "long", "rows", "ends", "row", "own", "told", "some", "found", "least", "gap", "head"] [] false
def f73 : Fn := fnI 80 "same_solutions" ["prime", "long", "one", "other", "near", "near_ends", "far", "far_ends", "first", "second"] [] false
def f74 : Fn := fnI 81 "spared_equations" ["prime", "long", "rows", "ends", "own", "told", "found", "place", "row", "ahead", "stairs", "at"] ["found"] false
def f75 : Fn := fnI 83 "_law_same" ["got", "due", "mine", "its"] [] false
def f76 : Fn := fnI 84 "_law_call" ["door", "told"] [] false
def f77 : Fn := fnI 85 "_law_unfit" ["door", "good"] [] false
def f78 : Fn := fnI 86 "_law_hand_right" ["both", "alike", "got"] [] false
def f79 : Fn := fnI 87 "_law_solved_right" ["both", "alike", "got"] [] false
def f80 : Fn := fnI 88 "_law_things_right" ["got", "own"] [] false
def f81 : Fn := fnI 89 "law" ["script", "doors", "door"] [] false
def ge (x : Str) (g : GV) : Str × GV := (x, g)
def fl0 : List Fn := [f0, f1, f2, f3, f4, f5, f6, f7, f8, f9, f10, f11, f12, f13, f14, f15, f16, f17, f18, f19, f20, f21, f22, f23, f24]
def fl1 : List Fn := [f25, f26, f27, f28, f29, f30, f31, f32, f33, f34, f35, f36, f37, f38, f39, f40, f41, f42, f43, f44, f45, f46, f47, f48, f49]
def fl2 : List Fn := [f50, f51, f52, f53, f54, f55, f56, f57, f58, f59, f60, f61, f62, f63, f64, f65, f66, f67, f68, f69, f70, f71, f72, f73, f74]
def fl3 : List Fn := [f75, f76, f77, f78, f79, f80, f81]
def fns : List Fn := fl0 ++ (fl1 ++ (fl2 ++ (fl3)))
def gp0 : List (Str × GV) := [ge "Unfit" (.exc 0), ge "PRIMES" (.con (.tup [.int 2, .int 3, .int 5, .int 7, .int 11, .int 13])), ge "MOST_LONG" (.con (.int 64)), ge "tupled" (.fn 0), ge "is_number" (.fn 1), ge "is_from" (.fn 2), ge "is_below" (.fn 3), ge "is_tuple_of" (.fn 4), ge "raised" (.fn 5), ge "is_prime" (.fn 6), ge "sure_prime" (.fn 7), ge "sure_field" (.fn 8), ge "has_row_form" (.fn 9), ge "has_rows_form" (.fn 10), ge "is_row" (.fn 11), ge "is_rows" (.fn 12), ge "sure_row" (.fn 13), ge "sure_rows" (.fn 14), ge "sure_two" (.fn 15), ge "inverse" (.fn 16), ge "under" (.fn 17), ge "row_of" (.fn 18), ge "unit_row" (.fn 19), ge "added" (.fn 20), ge "scaled" (.fn 21)]
def gp1 : List (Str × GV) := [ge "lessened" (.fn 22), ge "crossed" (.fn 23), ge "blended" (.fn 24), ge "columns" (.fn 25), ge "row_sum" (.fn 26), ge "row_less" (.fn 27), ge "row_times" (.fn 28), ge "dot" (.fn 29), ge "rows_times" (.fn 30), ge "mixed" (.fn 31), ge "rows_turned" (.fn 32), ge "rows_product" (.fn 33), ge "cleared" (.fn 34), ge "made_stairs" (.fn 35), ge "head_of" (.fn 36), ge "led_down" (.fn 37), ge "has_stairs_form" (.fn 38), ge "is_stairs" (.fn 39), ge "stairs_of" (.fn 40), ge "heads_of" (.fn 41), ge "rank_of" (.fn 42), ge "are_free" (.fn 43), ge "is_mixed" (.fn 44), ge "are_mixed_alike" (.fn 45), ge "free_among" (.fn 46)]
def gp2 : List (Str × GV) := [ge "made_nulled" (.fn 47), ge "nulled" (.fn 48), ge "joined_rows" (.fn 49), ge "met_rows" (.fn 50), ge "how_many_mixed" (.fn 51), ge "nth_mixed" (.fn 52), ge "nth_blended" (.fn 53), ge "number_of_mixed" (.fn 54), ge "made_solution" (.fn 55), ge "made_bar" (.fn 56), ge "made_multipliers" (.fn 57), ge "made_apart" (.fn 58), ge "sure_equations" (.fn 59), ge "sure_pair" (.fn 60), ge "sure_row_asked" (.fn 61), ge "is_solution" (.fn 62), ge "solution" (.fn 63), ge "is_row_bar" (.fn 64), ge "row_bar" (.fn 65), ge "are_multipliers" (.fn 66), ge "multipliers" (.fn 67), ge "is_apart" (.fn 68), ge "apart_of" (.fn 69), ge "how_many_solutions" (.fn 70), ge "nth_solution" (.fn 71)]
def gp3 : List (Str × GV) := [ge "number_of_solution" (.fn 72), ge "same_solutions" (.fn 73), ge "spared_equations" (.fn 74), ge "_law_same" (.fn 75), ge "_law_call" (.fn 76), ge "_law_unfit" (.fn 77), ge "_law_hand_right" (.fn 78), ge "_law_solved_right" (.fn 79), ge "_law_things_right" (.fn 80), ge "law" (.fn 81), ge "all" (.blt), ge "any" (.blt), ge "bool" (.blt), ge "enumerate" (.blt), ge "int" (.blt), ge "isinstance" (.blt), ge "len" (.blt), ge "list" (.blt), ge "min" (.blt), ge "range" (.blt), ge "str" (.blt), ge "sum" (.blt), ge "tuple" (.blt), ge "zip" (.blt)]
def gl : List (Str × GV) := gp0 ++ (gp1 ++ (gp2 ++ (gp3)))
def exm : List (Nat × Nat × Bool) := [(0, 0, true)]
def ec : List Str := ["Unfit"]
def lo0 : List Str := ["tupled", "is_number", "is_from", "is_below", "is_tuple_of", "raised", "Unfit", "PRIMES", "MOST_LONG", "is_prime", "sure_prime", "sure_field", "has_row_form", "has_rows_form", "is_row", "is_rows", "sure_row", "sure_rows", "sure_two", "inverse", "under", "row_of", "unit_row", "added", "scaled"]
def lo1 : List Str := ["lessened", "crossed", "blended", "columns", "row_sum", "row_less", "row_times", "dot", "rows_times", "mixed", "rows_turned", "rows_product", "cleared", "made_stairs", "head_of", "led_down", "has_stairs_form", "is_stairs", "stairs_of", "heads_of", "rank_of", "are_free", "is_mixed", "are_mixed_alike", "free_among"]
def lo2 : List Str := ["made_nulled", "nulled", "joined_rows", "met_rows", "how_many_mixed", "nth_mixed", "nth_blended", "number_of_mixed", "made_solution", "made_bar", "made_multipliers", "made_apart", "sure_equations", "sure_pair", "sure_row_asked", "is_solution", "solution", "is_row_bar", "row_bar", "are_multipliers", "multipliers", "is_apart", "apart_of", "how_many_solutions", "nth_solution"]
def lo3 : List Str := ["number_of_solution", "same_solutions", "spared_equations", "_law_same", "_law_call", "_law_unfit", "_law_hand_right", "_law_solved_right", "_law_things_right"]
def loose : List Str := lo0 ++ (lo1 ++ (lo2 ++ (lo3)))
theorem okAll : fns.all (okFn exm gl fns) = true := by decide +kernel
theorem runs (ns : List Int) : isTrueR (fnSem (fns.map (mkFC exm gl fns)) 40 81 [.scr (ns.map .int)] []) = true := by kernel_rfl
abbrev OR : PySem.W.OpenRow := PySem.W.OpenLaw.row PySem.Challenge.rw_askedback_k50_rows_by_hand_and_refused
theorem goes (w : World) : HandSHeadRun.RunEq OR (PySem.W.view OR.prog [89]) (hook 3 exm gl fns ec) (eye 3 exm gl fns ec) 6000 loose w := by
  intro os
  kernel_rfl
end Lw
end Ev
open PySem PySem.W PySem.Calls PyProof.Rows in
theorem PySem.Challenge.cw_askedback_k50_rows_by_hand_and_refused_holds : PySem.Challenge.rw_askedback_k50_rows_by_hand_and_refused.Holds := by
  w_on; o_law
  refine HandSHeadRun.head_any (r := Ev.Lw.OR) (q := view Ev.Lw.OR.prog [89]) (H := Ev.hook 3 Ev.Lw.exm Ev.Lw.gl Ev.Lw.fns Ev.Lw.ec) (ob := Ev.eye 3 Ev.Lw.exm Ev.Lw.gl Ev.Lw.fns Ev.Lw.ec) (M := 6000) (loose := Ev.Lw.loose)
    (d := HandSHeadRun.topDef Ev.Lw.OR.prog 89) (kwd := []) Ev.eye_eq (by kernel_rfl) (fun s => by kernel_rfl) Ev.Lw.goes (by kernel_rfl) (by kernel_rfl) (by kernel_rfl) (by rfl) (by first | assumption | decide +kernel) (by decide +kernel)
    ⟨rfl, rfl, rfl, rfl, rfl, by decide +kernel⟩ ?hw ?hc
  case hw => w_witness2
  case hc =>
    refine L2.walk_ofE (l := PySem.Challenge.rw_askedback_k50_rows_by_hand_and_refused) (n := 63) (k := 40) (x := "script") (CX := L2.CX0) rfl (by decide) (by kernel_rfl) ⟨rfl, by decide, by decide⟩ ?F (fun _ _ _ _ z => z)
    intro w mg fa h Y G hmg0
    obtain ⟨K, hK, c⟩ := Y
    have hfa : mg ("law" : PySem.Str) = some (.ref fa) := by
      have e : (HandSHeadRun.topDef Ev.Lw.OR.prog 89).name = ("law" : PySem.Str) := by kernel_rfl
      rw [← e]
      exact hmg0
    obtain ⟨fd, sp, h1, h2, h3⟩ := Ev.law_of (P := PySem.Challenge.rw_askedback_k50_rows_by_hand_and_refused.prog) (w := w) (depth := 40) (li := 81) (f := Ev.Lw.f81) hK G c Ev.Lw.okAll (by kernel_rfl) (by kernel_rfl) (by kernel_rfl) hfa fun ns _ => Ev.Lw.runs ns
    exact ⟨K, fd, sp, hK, h1, h2, h3⟩
