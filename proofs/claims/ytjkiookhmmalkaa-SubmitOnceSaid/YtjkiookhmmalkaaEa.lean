/-
  A symbolic run of the code, and what its steps come to: nothing of a program in it. No conditions.
-/
import Derived.Orders
import Derived.OrdersHeld
import Derived.Scope
import Derived.ScopeJumps
import Derived.Laws.World
import Derived.Laws.Cells
import Derived.Laws.Sem
import Derived.Deep.RegionHeld3
import Derived.Laws.Tables
import Derived.Laws.CopyRow
import Derived.Deep.MidRow
import Derived.Great.BuildSlice
import Derived.Laws.StructEq
import Derived.Laws.AppendOwn
import Derived.RangeFuncLeaves
namespace Rx
open Go

/-- Whole numbers, as far as they are known. -/
inductive IE where
  | c (n : Int)
  | v (i : Nat)
  | sl (n : Nat)
  | bin (o : BinOp) (k : IntKind) (x y : IE)
  | conv (k : IntKind) (x : IE)
  deriving DecidableEq, Repr

/-- What the variables stand for. -/
structure Env where
  i : Nat → Int
  b : Nat → Bool
  v : Nat → Value
  k : Nat → Nat
  g : Nat → Value
  f : Nat → Loop
  vo : ∀ n, (v n).oneCell' = true

def ibin (o : BinOp) (k : IntKind) (x y : Int) : Int :=
  match o with
  | .add => k.wrap (x + y)
  | .sub => k.wrap (x - y)
  | .mul => k.wrap (x * y)
  | .quo => k.wrap (x.tdiv y)
  | .rem => x.tmod y
  | .and => k.wrap (BitVec.ofInt k.bits x &&& BitVec.ofInt k.bits y).toNat
  | .or => k.wrap (BitVec.ofInt k.bits x ||| BitVec.ofInt k.bits y).toNat
  | .shl => k.wrap (x * 2 ^ (min y.toNat k.bits))
  | .shr => x.fdiv (2 ^ (min y.toNat k.bits))
  | _ => 0
def icmp (o : BinOp) (x y : Int) : Bool :=
  match o with
  | .eql => x == y
  | .neq => x != y
  | .lss => decide (x < y)
  | .leq => decide (x ≤ y)
  | .gtr => decide (x > y)
  | .geq => decide (x ≥ y)
  | _ => false
def lenOf : Value → Int
  | .slice _ n _ => n
  | _ => 0
def isNil : Value → Bool
  | .slice none _ _ => true
  | _ => false

def isSlice : Value → Bool
  | .slice _ _ _ => true
  | _ => false
def isPtr : Value → Bool
  | .pointer (some _) => true
  | _ => false

def IE.ev (ρ : Env) : IE → Int
  | .c n => n
  | .v i => ρ.i i
  | .sl n => lenOf (ρ.v n)
  | .bin o k x y => ibin o k (x.ev ρ) (y.ev ρ)
  | .conv k x => k.wrap (x.ev ρ)

inductive BE where
  | c (b : Bool)
  | v (i : Nat)
  | cmp (o : BinOp) (x y : IE)
  | not (x : BE)
  | beq (x y : BE)
  | nil (n : Nat)
  | slc (n : Nat)
  | isp (n : Nat)
  | and (x y : BE)
  deriving DecidableEq, Repr
def BE.ev (ρ : Env) : BE → Bool
  | .c b => b
  | .v i => ρ.b i
  | .cmp o x y => icmp o (x.ev ρ) (y.ev ρ)
  | .not x => !(x.ev ρ)
  | .beq x y => x.ev ρ == y.ev ρ
  | .nil n => isNil (ρ.v n)
  | .slc n => isSlice (ρ.v n)
  | .isp n => isPtr (ρ.v n)
  | .and x y => x.ev ρ && y.ev ρ

/-- Values, as far as they are known. -/
inductive SV where
  | undef
  | int (k : IntKind) (e : IE)
  | bool (e : BE)
  | ptr (id off : Nat)
  | optr (n off : Nat)
  | nilp
  | fn (f : Fn) (first cap : List SV)
  | nilf
  | agg (l : List SV)
  | tup (l : List SV)
  | val (n : Nat)
  | sl (id len cap : Nat)
  | nils
  | map (id : Nat)
  | nilm
  | gb (n : Nat)
  | yv (id : Nat)
  deriving Repr, Inhabited

def shiftPtr (n : Nat) : Value → Value
  | .pointer (some a) => .pointer (some (a.add n))
  | x => x

mutual
def SV.den (ρ : Env) : SV → Value
  | .undef => Go.undef
  | .int k e => .int k (e.ev ρ)
  | .bool e => .bool (e.ev ρ)
  | .ptr id off => .pointer (some ⟨ρ.k id, off, none⟩)
  | .optr n off => shiftPtr off (ρ.v n)
  | .nilp => .pointer none
  | .fn f first cap => .func f (denL ρ first).toArray (denL ρ cap).toArray
  | .nilf => .nilFunc
  | .agg l => .agg (denL ρ l).toArray
  | .tup l => .tuple (denL ρ l).toArray
  | .val n => ρ.v n
  | .sl id len cap => .slice (some ⟨ρ.k id, 0, none⟩) len cap
  | .nils => .slice none 0 0
  | .map id => .map (some (ρ.k id))
  | .nilm => .map none
  | .gb n => ρ.g n
  | .yv id => .func (.yield (ρ.k id)) #[] #[]
def denL (ρ : Env) : List SV → List Value
  | [] => []
  | x :: r => x.den ρ :: denL ρ r
end

theorem denL_map (ρ : Env) (l : List SV) : denL ρ l = l.map (SV.den ρ) := by
  induction l with
  | nil => rfl
  | cons x r ih => simp [denL, ih]

/-- It fills one cell. -/
def SV.one : SV → Bool
  | .undef | .agg _ | .tup _ | .gb _ => false
  | _ => true

theorem oneCell_shift (n : Nat) (v : Value) (h : v.oneCell' = true) : (shiftPtr n v).oneCell' = true := by
  unfold shiftPtr
  split
  · rfl
  · exact h

theorem den_one {ρ : Env} {s : SV} (h : s.one = true) : (s.den ρ).oneCell' = true := by
  cases s <;> simp [SV.one] at h <;> simp only [SV.den] <;> first | rfl | exact ρ.vo _ | exact oneCell_shift _ _ (ρ.vo _)

/-- How many variables are in use. -/
structure Cnt where
  i : Nat
  b : Nat
  v : Nat
  g : Nat
  k : Nat
  deriving DecidableEq, Repr

def IE.sc (c : Cnt) : IE → Bool
  | .c _ => true
  | .v i => decide (i < c.i)
  | .sl n => decide (n < c.v)
  | .bin _ _ x y => x.sc c && y.sc c
  | .conv _ x => x.sc c
def BE.sc (c : Cnt) : BE → Bool
  | .c _ => true
  | .v i => decide (i < c.b)
  | .cmp _ x y => x.sc c && y.sc c
  | .not x => x.sc c
  | .beq x y => x.sc c && y.sc c
  | .nil n => decide (n < c.v)
  | .slc n => decide (n < c.v)
  | .isp n => decide (n < c.v)
  | .and x y => x.sc c && y.sc c
mutual
def SV.sc (c : Cnt) : SV → Bool
  | .undef => true
  | .int _ e => e.sc c
  | .bool e => e.sc c
  | .ptr id _ => decide (id < c.k)
  | .optr n _ => decide (n < c.v)
  | .nilp => true
  | .fn _ first cap => scL c first && scL c cap
  | .nilf => true
  | .agg l => scL c l
  | .tup l => scL c l
  | .val n => decide (n < c.v)
  | .sl id _ _ => decide (id < c.k)
  | .nils => true
  | .map id => decide (id < c.k)
  | .nilm => true
  | .gb n => decide (n < c.g)
  | .yv id => decide (id < c.k)
def scL (c : Cnt) : List SV → Bool
  | [] => true
  | x :: r => x.sc c && scL c r
end

/-- They agree on all variables in use. -/
structure Ag (c : Cnt) (ρ ρ' : Env) : Prop where
  i : ∀ n, n < c.i → ρ'.i n = ρ.i n
  b : ∀ n, n < c.b → ρ'.b n = ρ.b n
  v : ∀ n, n < c.v → ρ'.v n = ρ.v n
  g : ∀ n, n < c.g → ρ'.g n = ρ.g n
  k : ∀ n, n < c.k → ρ'.k n = ρ.k n
  f : ∀ n, n < c.k → ρ'.f n = ρ.f n
theorem Ag.refl (c : Cnt) (ρ : Env) : Ag c ρ ρ := ⟨fun _ _ => rfl, fun _ _ => rfl, fun _ _ => rfl, fun _ _ => rfl, fun _ _ => rfl, fun _ _ => rfl⟩
theorem Ag.trans {c : Cnt} {a b d : Env} (h : Ag c a b) (k : Ag c b d) : Ag c a d :=
  ⟨fun n hn => (k.i n hn).trans (h.i n hn), fun n hn => (k.b n hn).trans (h.b n hn), fun n hn => (k.v n hn).trans (h.v n hn), fun n hn => (k.g n hn).trans (h.g n hn), fun n hn => (k.k n hn).trans (h.k n hn), fun n hn => (k.f n hn).trans (h.f n hn)⟩
structure Cnt.le (c d : Cnt) : Prop where
  i : c.i ≤ d.i
  b : c.b ≤ d.b
  v : c.v ≤ d.v
  g : c.g ≤ d.g
  k : c.k ≤ d.k
theorem Ag.mono {c d : Cnt} {ρ ρ' : Env} (h : Ag d ρ ρ') (hc : c.le d) : Ag c ρ ρ' :=
  ⟨fun n hn => h.i n (Nat.lt_of_lt_of_le hn hc.i), fun n hn => h.b n (Nat.lt_of_lt_of_le hn hc.b), fun n hn => h.v n (Nat.lt_of_lt_of_le hn hc.v), fun n hn => h.g n (Nat.lt_of_lt_of_le hn hc.g), fun n hn => h.k n (Nat.lt_of_lt_of_le hn hc.k), fun n hn => h.f n (Nat.lt_of_lt_of_le hn hc.k)⟩

theorem IE.ag {c : Cnt} {ρ ρ' : Env} (h : Ag c ρ ρ') : ∀ (e : IE), e.sc c = true → e.ev ρ' = e.ev ρ
  | .c _, _ => rfl
  | .v _, hs => h.i _ (by simpa [IE.sc] using hs)
  | .sl _, hs => by simp only [IE.ev]; rw [h.v _ (by simpa [IE.sc] using hs)]
  | .bin _ _ x y, hs => by
    simp only [IE.sc, Bool.and_eq_true] at hs
    simp only [IE.ev]; rw [IE.ag h x hs.1, IE.ag h y hs.2]
  | .conv _ x, hs => by simp only [IE.sc] at hs; simp only [IE.ev]; rw [IE.ag h x hs]
theorem BE.ag {c : Cnt} {ρ ρ' : Env} (h : Ag c ρ ρ') : ∀ (e : BE), e.sc c = true → e.ev ρ' = e.ev ρ
  | .c _, _ => rfl
  | .v _, hs => h.b _ (by simpa [BE.sc] using hs)
  | .cmp _ x y, hs => by
    simp only [BE.sc, Bool.and_eq_true] at hs
    simp only [BE.ev]; rw [IE.ag h x hs.1, IE.ag h y hs.2]
  | .not x, hs => by simp only [BE.sc] at hs; simp only [BE.ev]; rw [BE.ag h x hs]
  | .beq x y, hs => by
    simp only [BE.sc, Bool.and_eq_true] at hs
    simp only [BE.ev]; rw [BE.ag h x hs.1, BE.ag h y hs.2]
  | .nil _, hs => by simp only [BE.ev]; rw [h.v _ (by simpa [BE.sc] using hs)]
  | .slc _, hs => by simp only [BE.ev]; rw [h.v _ (by simpa [BE.sc] using hs)]
  | .isp _, hs => by simp only [BE.ev]; rw [h.v _ (by simpa [BE.sc] using hs)]
  | .and x y, hs => by
    simp only [BE.sc, Bool.and_eq_true] at hs
    simp only [BE.ev]; rw [BE.ag h x hs.1, BE.ag h y hs.2]
mutual
theorem SV.ag {c : Cnt} {ρ ρ' : Env} (h : Ag c ρ ρ') : ∀ (s : SV), s.sc c = true → s.den ρ' = s.den ρ
  | .undef, _ => rfl
  | .int _ e, hs => by simp only [SV.sc] at hs; simp only [SV.den]; rw [IE.ag h e hs]
  | .bool e, hs => by simp only [SV.sc] at hs; simp only [SV.den]; rw [BE.ag h e hs]
  | .ptr _ _, hs => by simp only [SV.den]; rw [h.k _ (by simpa [SV.sc] using hs)]
  | .optr _ _, hs => by simp only [SV.den]; rw [h.v _ (by simpa [SV.sc] using hs)]
  | .nilp, _ => rfl
  | .fn _ a b, hs => by
    simp only [SV.sc, Bool.and_eq_true] at hs
    simp only [SV.den]; rw [agL h a hs.1, agL h b hs.2]
  | .nilf, _ => rfl
  | .agg l, hs => by simp only [SV.sc] at hs; simp only [SV.den]; rw [agL h l hs]
  | .tup l, hs => by simp only [SV.sc] at hs; simp only [SV.den]; rw [agL h l hs]
  | .val _, hs => h.v _ (by simpa [SV.sc] using hs)
  | .sl _ _ _, hs => by simp only [SV.den]; rw [h.k _ (by simpa [SV.sc] using hs)]
  | .nils, _ => rfl
  | .map _, hs => by simp only [SV.den]; rw [h.k _ (by simpa [SV.sc] using hs)]
  | .nilm, _ => rfl
  | .gb _, hs => h.g _ (by simpa [SV.sc] using hs)
  | .yv _, hs => by simp only [SV.den]; rw [h.k _ (by simpa [SV.sc] using hs)]
theorem agL {c : Cnt} {ρ ρ' : Env} (h : Ag c ρ ρ') : ∀ (l : List SV), scL c l = true → denL ρ' l = denL ρ l
  | [], _ => rfl
  | x :: r, hs => by
    simp only [scL, Bool.and_eq_true] at hs
    simp only [denL]; rw [SV.ag h x hs.1, agL h r hs.2]
end

/-! ### are two the same -/
mutual
def SV.eqb : SV → SV → Bool
  | .undef, .undef => true
  | .int k e, .int k' e' => decide (k = k') && decide (e = e')
  | .bool e, .bool e' => decide (e = e')
  | .ptr a b, .ptr a' b' => decide (a = a') && decide (b = b')
  | .optr a b, .optr a' b' => decide (a = a') && decide (b = b')
  | .nilp, .nilp => true
  | .fn f a b, .fn f' a' b' => decide (f = f') && eqbL a a' && eqbL b b'
  | .nilf, .nilf => true
  | .agg l, .agg l' => eqbL l l'
  | .tup l, .tup l' => eqbL l l'
  | .val n, .val n' => decide (n = n')
  | .sl a b c, .sl a' b' c' => decide (a = a') && decide (b = b') && decide (c = c')
  | .nils, .nils => true
  | .map a, .map a' => decide (a = a')
  | .nilm, .nilm => true
  | .gb a, .gb a' => decide (a = a')
  | .yv a, .yv a' => decide (a = a')
  | _, _ => false
def eqbL : List SV → List SV → Bool
  | [], [] => true
  | x :: r, y :: s => x.eqb y && eqbL r s
  | _, _ => false
end
mutual
theorem SV.eqb_eq : ∀ {a b : SV}, a.eqb b = true → a = b
  | .undef, b, h => by cases b <;> simp [SV.eqb] at h ⊢
  | .int k e, b, h => by cases b <;> simp [SV.eqb] at h ⊢; exact h
  | .bool e, b, h => by cases b <;> simp [SV.eqb] at h ⊢; exact h
  | .ptr _ _, b, h => by cases b <;> simp [SV.eqb] at h ⊢; exact h
  | .optr _ _, b, h => by cases b <;> simp [SV.eqb] at h ⊢; exact h
  | .nilp, b, h => by cases b <;> simp [SV.eqb] at h ⊢
  | .fn f x y, b, h => by
    cases b <;> simp [SV.eqb] at h ⊢
    exact ⟨h.1.1, eqbL_eq h.1.2, eqbL_eq h.2⟩
  | .nilf, b, h => by cases b <;> simp [SV.eqb] at h ⊢
  | .agg l, b, h => by cases b <;> simp [SV.eqb] at h ⊢; exact eqbL_eq h
  | .tup l, b, h => by cases b <;> simp [SV.eqb] at h ⊢; exact eqbL_eq h
  | .val _, b, h => by cases b <;> simp [SV.eqb] at h ⊢; exact h
  | .sl _ _ _, b, h => by cases b <;> simp [SV.eqb] at h ⊢; exact ⟨h.1.1, h.1.2, h.2⟩
  | .nils, b, h => by cases b <;> simp [SV.eqb] at h ⊢
  | .map _, b, h => by cases b <;> simp [SV.eqb] at h ⊢; exact h
  | .nilm, b, h => by cases b <;> simp [SV.eqb] at h ⊢
  | .gb _, b, h => by cases b <;> simp [SV.eqb] at h ⊢; exact h
  | .yv _, b, h => by cases b <;> simp [SV.eqb] at h ⊢; exact h
theorem eqbL_eq : ∀ {a b : List SV}, eqbL a b = true → a = b
  | [], b, h => by cases b <;> simp [eqbL] at h ⊢
  | x :: r, b, h => by
    cases b <;> simp [eqbL] at h ⊢
    exact ⟨SV.eqb_eq h.1, eqbL_eq h.2⟩
end

/-! ### what is known of memory -/
/-- How a round was left. -/
inductive Jp where
  | ret
  | exit (n : Nat)
  | goto (n : Nat)
  deriving Repr, DecidableEq
def Jp.code : Jp → Code
  | .ret => .ret
  | .exit n => .exit n
  | .goto n => .goto n
/-- What a block is that holds no cells: a map from numbers written out, what a range over a function keeps. -/
inductive Ks where
  | map (ks : List (IntKind × Int))
  | dfr (open_ : Bool)
  | lp (self : Nat) (s : LoopState) (p : Option Jp)
  deriving Repr, DecidableEq
/-- A block: cells of a type, or (keys there) something else. -/
structure Blk where
  cells : List SV
  t : TypeId
  keys : Option Ks := none
  deriving Repr, Inhabited
/-! ### temporaries: a list, and beside it what is reckoned with -/
inductive Tr where
  | e
  | n (v : SV) (l r : Tr)
def Tr.get : Tr → Nat → SV
  | .e, _ => .undef
  | .n v l r, i => bif i == 0 then v else bif (i - 1) % 2 == 0 then l.get ((i - 1) / 2) else r.get ((i - 1) / 2)
/-- At a place; fuel is more than the place. -/
def Tr.set : Nat → Tr → Nat → SV → Tr
  | 0, t, _, _ => t
  | f + 1, .e, i, x => bif i == 0 then .n x .e .e else bif (i - 1) % 2 == 0 then .n .undef (Tr.set f .e ((i - 1) / 2) x) .e else .n .undef .e (Tr.set f .e ((i - 1) / 2) x)
  | f + 1, .n v l r, i, x => bif i == 0 then .n x l r else bif (i - 1) % 2 == 0 then .n v (Tr.set f l ((i - 1) / 2) x) r else .n v l (Tr.set f r ((i - 1) / 2) x)
theorem Tr.get_set : ∀ (f : Nat) (t : Tr) (i : Nat) (x : SV) (j : Nat), i < f → (Tr.set f t i x).get j = if i = j then x else t.get j
  | 0, _, _, _, _, h => by omega
  | f + 1, t, i, x, j, h => by
    by_cases h0 : i = 0
    · subst h0
      cases t with
      | e =>
        by_cases hj : j = 0
        · subst hj; simp [Tr.set, Tr.get]
        · have : ¬ 0 = j := fun h => hj h.symm
          have hbj : (j == 0) = false := by simp [hj]
          simp [Tr.set, Tr.get, hbj, this]
      | n v l r =>
        by_cases hj : j = 0
        · subst hj; simp [Tr.set, Tr.get]
        · have : ¬ 0 = j := fun h => hj h.symm
          have hbj : (j == 0) = false := by simp [hj]
          simp [Tr.set, Tr.get, hbj, this]
    · have hb : (i == 0) = false := by simp [h0]
      have hf : (i - 1) / 2 < f := by omega
      by_cases hj : j = 0
      · subst hj
        cases t with
        | e => simp only [Tr.set, hb, cond_false]; split <;> cases ((i - 1) % 2 == 0) <;> simp_all [Tr.get]
        | n v l r => simp only [Tr.set, hb, cond_false]; split <;> cases ((i - 1) % 2 == 0) <;> simp_all [Tr.get]
      · have hbj : (j == 0) = false := by simp [hj]
        by_cases hp : (i - 1) % 2 = 0
        · have hpb : ((i - 1) % 2 == 0) = true := by simp [hp]
          by_cases hq : (j - 1) % 2 = 0
          · have hqb : ((j - 1) % 2 == 0) = true := by simp [hq]
            have e : ((i - 1) / 2 = (j - 1) / 2) ↔ i = j := by omega
            cases t <;> simp only [Tr.set, Tr.get, hb, hpb, hbj, hqb, cond_false, cond_true, Tr.get_set f _ _ x _ hf, e]
          · have hqb : ((j - 1) % 2 == 0) = false := by simp [hq]
            have e : ¬ i = j := by omega
            cases t <;> simp only [Tr.set, Tr.get, hb, hpb, hbj, hqb, cond_false, cond_true, e, if_false]
        · have hpb : ((i - 1) % 2 == 0) = false := by simp [hp]
          by_cases hq : (j - 1) % 2 = 0
          · have hqb : ((j - 1) % 2 == 0) = true := by simp [hq]
            have e : ¬ i = j := by omega
            cases t <;> simp only [Tr.set, Tr.get, hb, hpb, hbj, hqb, cond_false, cond_true, e, if_false]
          · have hqb : ((j - 1) % 2 == 0) = false := by simp [hq]
            have e : ((i - 1) / 2 = (j - 1) / 2) ↔ i = j := by omega
            cases t <;> simp only [Tr.set, Tr.get, hb, hpb, hbj, hqb, cond_false, Tr.get_set f _ _ x _ hf, e]
def Tr.ofL : Nat → List SV → Tr → Tr
  | _, [], t => t
  | i, .undef :: r, t => Tr.ofL (i + 1) r t
  | i, x :: r, t => Tr.ofL (i + 1) r (t.set (i + 1) i x)
theorem Tr.get_ofL : ∀ (l : List SV) (i : Nat) (t : Tr) (j : Nat), (∀ j, i ≤ j → t.get j = .undef) → (Tr.ofL i l t).get j = if j < i then t.get j else (l[j - i]?).getD .undef
  | [], i, t, j, h => by
    simp only [Tr.ofL]
    split
    · rfl
    · simp [h j (by omega)]
  | x :: r, i, t, j, h => by
    have key : ∀ t', (∀ j, t'.get j = if i = j then x else t.get j) → (Tr.ofL (i + 1) r t').get j = if j < i then t.get j else ((x :: r)[j - i]?).getD .undef := by
      intro t' ht
      rw [Tr.get_ofL r (i + 1) t' j (fun j hj => by rw [ht, if_neg (by omega)]; exact h j (by omega))]
      rw [ht]
      by_cases h1 : j < i
      · rw [if_pos (by omega), if_neg (by omega), if_pos h1]
      · by_cases h2 : i = j
        · subst h2
          rw [if_pos (by omega), if_pos rfl, if_neg (by omega)]
          simp
        · rw [if_neg (by omega), if_neg h1]
          obtain ⟨k, rfl⟩ : ∃ k, j = i + 1 + k := ⟨j - (i + 1), by omega⟩
          rw [show i + 1 + k - (i + 1) = k by omega, show i + 1 + k - i = k + 1 by omega]
          simp
    have hset : (∀ j, (t.set (i + 1) i x).get j = if i = j then x else t.get j) := fun j => Tr.get_set _ _ _ _ _ (by omega)
    cases x <;> first
      | exact key _ hset
      | exact key t (fun j => by
          by_cases hij : i = j
          · rw [if_pos hij]; exact h j (by omega)
          · rw [if_neg hij])
structure TM where
  l : List SV
  n : Nat
  t : Tr
  hn : l.length = n
  ok : ∀ i, t.get i = (l[i]?).getD .undef
instance : Coe TM (List SV) := ⟨TM.l⟩
def TM.get (tm : TM) (i : Nat) : SV := tm.t.get i
theorem TM.get_eq (tm : TM) (i : Nat) : tm.get i = (tm.l[i]?).getD .undef := tm.ok i
def TM.get? (tm : TM) (i : Nat) : Option SV := if i < tm.n then some (tm.t.get i) else none
theorem TM.get?_eq (tm : TM) (i : Nat) : tm.get? i = tm.l[i]? := by
  unfold TM.get?
  rw [tm.ok, ← tm.hn]
  split
  · rename_i h; simp [h]
  · rename_i h; simp [List.getElem?_eq_none (Nat.le_of_not_lt h)]
def TM.set (tm : TM) (i : Nat) (x : SV) : TM :=
  if h : i < tm.n then ⟨tm.l.set i x, tm.n, tm.t.set (i + 1) i x, by simp [tm.hn], fun j => by
    rw [Tr.get_set _ _ _ _ _ (by omega), tm.ok, List.getElem?_set]
    have := tm.hn
    by_cases hij : i = j
    · subst hij; simp [this, h]
    · simp [hij]⟩ else tm
@[simp] theorem TM.set_l (tm : TM) (i : Nat) (x : SV) : (tm.set i x).l = tm.l.set i x := by
  unfold TM.set
  split
  · rfl
  · rename_i h
    exact (List.set_eq_of_length_le (by rw [tm.hn]; omega)).symm
def TM.ofL (l : List SV) : TM := ⟨l, l.length, Tr.ofL 0 l .e, rfl, fun i => by rw [Tr.get_ofL _ _ _ _ (fun _ _ => rfl)]; simp⟩
/-- Arguments, and behind them nothing yet. -/
def TM.start (args : List SV) (n : Nat) : TM :=
  ⟨args ++ List.replicate (n - args.length) .undef, args.length + (n - args.length), Tr.ofL 0 args .e, by simp, fun i => by
    rw [Tr.get_ofL _ _ _ _ (fun _ _ => rfl)]
    simp only [Nat.not_lt_zero, if_false, Nat.sub_zero]
    by_cases h : i < args.length
    · rw [List.getElem?_append_left h]
    · rw [List.getElem?_append_right (by omega)]
      by_cases h2 : i - args.length < n - args.length
      · simp [List.getElem?_eq_none (Nat.le_of_not_lt h), h2]
      · simp [List.getElem?_eq_none (Nat.le_of_not_lt h), h2]⟩
/-- The list, reckoned. -/
def TM.list (tm : TM) : List SV := (List.range tm.n).map tm.get
theorem TM.list_eq (tm : TM) : tm.list = tm.l := by
  unfold TM.list
  apply List.ext_getElem?
  intro i
  rw [List.getElem?_map, ← TM.get?_eq]
  unfold TM.get?
  by_cases h : i < tm.n
  · rw [List.getElem?_range h, if_pos h]; rfl
  · rw [List.getElem?_eq_none (by simpa using h), if_neg h]; rfl
def Tr.sc (c : Cnt) : Tr → Bool
  | .e => true
  | .n v l r => v.sc c && (l.sc c && r.sc c)
theorem Tr.sc_get {c : Cnt} : ∀ {t : Tr}, t.sc c = true → ∀ i, (t.get i).sc c = true
  | .e, _, _ => rfl
  | .n v l r, h, i => by
    simp only [Tr.sc, Bool.and_eq_true] at h
    simp only [Tr.get]
    cases i == 0
    · cases (i - 1) % 2 == 0
      · exact Tr.sc_get h.2.2 _
      · exact Tr.sc_get h.2.1 _
    · exact h.1
def TM.sc (c : Cnt) (tm : TM) : Bool := tm.t.sc c
theorem scL_of {c : Cnt} : ∀ {l : List SV}, (∀ x ∈ l, x.sc c = true) → scL c l = true
  | [], _ => rfl
  | x :: r, h => by
    simp only [scL, Bool.and_eq_true]
    exact ⟨h x List.mem_cons_self, scL_of (fun y hy => h y (List.mem_cons_of_mem _ hy))⟩
theorem TM.sc_l {c : Cnt} {tm : TM} (h : tm.sc c = true) : scL c tm.l = true := by
  refine scL_of (fun x hx => ?_)
  obtain ⟨i, hi, rfl⟩ := List.mem_iff_getElem.1 hx
  have := Tr.sc_get h i
  rw [tm.ok] at this
  simpa [hi] using this

/-- A range over a function that goes on: its record, the variables, its code. -/
structure RI where
  id : Nat
  tm : TM
  ps : Array Tmp
  assign : Code
  body : Code

structure St where
  hp : List Blk
  ni : Nat
  nb : Nat
  nv : Nat
  ng : Nat
  lv : Nat
  pc : List (BE × Bool)
  log : List (Nat × Nat × Nat)
  stack : List TM
  df : List Nat := []
  ri : List RI := []
  rd : Bool := false

def St.cnt (st : St) : Cnt := ⟨st.ni, st.nb, st.nv, st.ng, st.hp.length⟩
def Ks.sc (c : Cnt) : Ks → Bool
  | .lp self _ _ => decide (self < c.k)
  | _ => true
def Blk.sc (c : Cnt) (b : Blk) : Bool := scL c b.cells && match b.keys with
  | some k => k.sc c
  | none => true
def hpSc (c : Cnt) : List Blk → Bool
  | [] => true
  | b :: r => b.sc c && hpSc c r
def pcSc (c : Cnt) : List (BE × Bool) → Bool
  | [] => true
  | b :: r => b.1.sc c && pcSc c r
def stSc (c : Cnt) : List TM → Bool
  | [] => true
  | b :: r => b.sc c && stSc c r
def riSc (c : Cnt) : List RI → Bool
  | [] => true
  | b :: r => (b.tm.sc c && decide (b.id < c.k)) && riSc c r
def dfSc (n : Nat) : List Nat → Bool
  | [] => true
  | b :: r => decide (b < n) && dfSc n r
def St.sc (st : St) (tm : TM) : Bool := hpSc st.cnt st.hp && pcSc st.cnt st.pc && (stSc st.cnt st.stack && riSc st.cnt st.ri && dfSc st.hp.length st.df) && tm.sc st.cnt

def entries : List (IntKind × Int) → List Value → Nat → List MapEntry
  | k :: r, v :: s, n => ⟨.int k.1 k.2, v, n⟩ :: entries r s (n + 1)
  | _, _, _ => []
def Blk.obj (ρ : Env) (b : Blk) : Obj :=
  match b.keys with
  | none => .cells (denL ρ b.cells).toArray b.t (0, 0)
  | some (.map ks) => .map (entries ks (denL ρ b.cells) 0).toArray b.cells.length
  | some (.dfr o) => .deferred (if o then some [] else none)
  | some (.lp self s p) => .loop { ρ.f self with state := s, pending := p.map Jp.code }

def HeapOK (ρ : Env) (hp : List Blk) (w : World) : Prop :=
  (∀ (id : Nat) blk, hp[id]? = some blk → w.heap[ρ.k id]? = some (blk.obj ρ)) ∧
  ∀ i j, i < hp.length → j < hp.length → ρ.k i = ρ.k j → i = j

/-- All but the blocks of K is as it was. -/
structure Fr (K : List Nat) (w w' : World) : Prop where
  size : w.heap.size ≤ w'.heap.size
  block : ∀ j, j < w.heap.size → j ∉ K → w'.heap[j]? = w.heap[j]?
  os : w'.os = w.os
  tape : w'.tape = w.tape
  output : w'.output = w.output
theorem Fr.refl (K : List Nat) (w : World) : Fr K w w := ⟨Nat.le_refl _, fun _ _ _ => rfl, rfl, rfl, rfl⟩
theorem Fr.trans {K : List Nat} {a b c : World} (h : Fr K a b) (k : Fr K b c) : Fr K a c :=
  ⟨Nat.le_trans h.size k.size, fun j hj hK => (k.block j (Nat.lt_of_lt_of_le hj h.size) hK).trans (h.block j hj hK), k.os.trans h.os, k.tape.trans h.tape, k.output.trans h.output⟩
theorem Fr.mono {K K' : List Nat} {a b : World} (h : Fr K a b) (hK : ∀ j, j ∈ K → j < a.heap.size → j ∈ K') : Fr K' a b :=
  ⟨h.size, fun j hj hn => h.block j hj (fun hk => hn (hK j hk hj)), h.os, h.tape, h.output⟩
/-- One after the other; what the second may write beyond K is new. -/
theorem Fr.then {K K' : List Nat} {a b c : World} (h : Fr K a b) (k : Fr K' b c) (hK : ∀ j, j ∈ K' → j ∈ K ∨ a.heap.size ≤ j) : Fr K a c :=
  ⟨Nat.le_trans h.size k.size, fun j hj hn => (k.block j (Nat.lt_of_lt_of_le hj h.size) (fun hk => (hK j hk).elim hn (fun h2 => by omega))).trans (h.block j hj hn), k.os.trans h.os, k.tape.trans h.tape, k.output.trans h.output⟩

def ids (ρ : Env) (n : Nat) : List Nat := (List.range n).map ρ.k
theorem mem_ids {ρ : Env} {n j : Nat} : j ∈ ids ρ n ↔ ∃ i, i < n ∧ ρ.k i = j := by simp [ids]

theorem upd_ne_ok (v : Nat → Value) (h : ∀ n, (v n).oneCell' = true) (n : Nat) (x : Value) (hx : x.oneCell' = true) : ∀ m, (if m = n then x else v m).oneCell' = true := by
  intro m; split
  · exact hx
  · exact h m
def Env.setI (ρ : Env) (n : Nat) (x : Int) : Env := { ρ with i := fun m => if m = n then x else ρ.i m }
def Env.setB (ρ : Env) (n : Nat) (x : Bool) : Env := { ρ with b := fun m => if m = n then x else ρ.b m }
def Env.setV (ρ : Env) (n : Nat) (x : Value) (hx : x.oneCell' = true) : Env := { ρ with v := fun m => if m = n then x else ρ.v m, vo := upd_ne_ok ρ.v ρ.vo n x hx }
def Env.setG (ρ : Env) (n : Nat) (x : Value) : Env := { ρ with g := fun m => if m = n then x else ρ.g m }
def Env.setK (ρ : Env) (n : Nat) (x : Nat) : Env := { ρ with k := fun m => if m = n then x else ρ.k m }
def Env.setF (ρ : Env) (n : Nat) (x : Loop) : Env := { ρ with f := fun m => if m = n then x else ρ.f m }

/-- New variables. -/
inductive Fv where
  | i (n : Nat)
  | b (n : Nat)
  | v (n : Nat)
  | g (n : Nat)
  deriving Repr, DecidableEq
def exF : List Fv → Env → (Env → Prop) → Prop
  | [], ρ, p => p ρ
  | .i n :: r, ρ, p => ∃ x : Int, exF r (ρ.setI n x) p
  | .b n :: r, ρ, p => ∃ x : Bool, exF r (ρ.setB n x) p
  | .v n :: r, ρ, p => ∃ (x : Value) (hx : x.oneCell' = true), exF r (ρ.setV n x hx) p
  | .g n :: r, ρ, p => ∃ x : Value, exF r (ρ.setG n x) p
def allF : List Fv → Env → (Env → Prop) → Prop
  | [], ρ, p => p ρ
  | .i n :: r, ρ, p => ∀ x : Int, allF r (ρ.setI n x) p
  | .b n :: r, ρ, p => ∀ x : Bool, allF r (ρ.setB n x) p
  | .v n :: r, ρ, p => ∀ (x : Value) (hx : x.oneCell' = true), allF r (ρ.setV n x hx) p
  | .g n :: r, ρ, p => ∀ x : Value, allF r (ρ.setG n x) p
/-- The variables get what these values are, in ρ0. -/
def assignL (ρ0 : Env) : Env → List Fv → List SV → Env
  | ρ, .i n :: r, .int _ e :: s => assignL ρ0 (ρ.setI n (e.ev ρ0)) r s
  | ρ, .b n :: r, .bool e :: s => assignL ρ0 (ρ.setB n (e.ev ρ0)) r s
  | ρ, .v n :: r, x :: s => assignL ρ0 (if h : x.one = true then ρ.setV n (x.den ρ0) (den_one h) else ρ) r s
  | ρ, .g n :: r, x :: s => assignL ρ0 (ρ.setG n (x.den ρ0)) r s
  | ρ, _, _ => ρ

/-- Steps that are told, not run: what they come to is shown by who uses the tree. -/
inductive SOp where
  | append (ats : Array TypeId) (ty : TypeId)
  | mks (t : TypeId)
  | slice (t : TypeId) (lo hi mx : Bool)
  deriving Repr
/-- What a run comes to. -/
inductive Tree where
  | bot
  | stuck (why : String)
  | ret (n : Nat) (v : SV) (hp : List Blk)
  | br (c : BE) (t e : Tree)
  | need (c : BE) (t : Tree)
  | new (id : Nat) (t : Tree)
  | call (hp : List Blk) (f : FuncId) (args : List SV) (fv : List Fv) (v : SV) (t : Tree)
  | idx (s : Nat) (i : IE) (sz : Nat) (n : Nat) (t : Tree)
  | ld (n : Nat) (p : SV) (fv : List Fv) (vs : List SV) (t : Tree)
  | sem (s : SOp) (args : List SV) (hp : List Blk) (n : Nat) (t : Tree)
  | sto (k : Nat) (p : SV) (vs : List SV) (t : Tree)
  | loop (fv : List Fv) (ini : List SV) (k : Nat) (t : Tree)
  | cont (lv : Nat) (k : Nat) (vals : List SV)
  | both (t e : Tree)
  | newf (id : Nat) (t : Tree)
  deriving Repr, Inhabited
end Rx

namespace Rx
open Go

/-! ### types -/
inductive TD where
  | int (k : IntKind)
  | bool
  | slice (e : TypeId)
  | struct (fs : List (Nat × Nat × Bool))
  | arr (n esz : Nat) (ag : Bool)
  | map (k : IntKind) (e : TypeId)
  | other
  deriving Repr, DecidableEq
structure TI where
  d : TD
  size : Nat
  zero : Option (List SV)
  deriving Repr
def TD.agg : TD → Bool
  | .struct _ | .arr .. => true
  | _ => false

def ofVal1 : Value → Option SV
  | .int k n => some (.int k (.c n))
  | .bool b => some (.bool (.c b))
  | .pointer none => some .nilp
  | .slice none 0 0 => some .nils
  | .nilFunc => some .nilf
  | .map none => some .nilm
  | _ => none
def ofVals : List Value → Option (List SV)
  | [] => some []
  | v :: r => match ofVal1 v, ofVals r with
    | some x, some y => some (x :: y)
    | _, _ => none
def ofVal : Value → Option SV
  | .agg cs => (ofVals cs.toList).map .agg
  | v => ofVal1 v
def zeroCells (ag : Bool) (v : Value) : Option (List SV) :=
  if ag then (match v with
    | .agg cs => ofVals cs.toList
    | _ => none)
  else (ofVal1 v).map fun x => [x]

def aggOf : TypeDesc → Bool
  | .struct _ | .array .. => true
  | _ => false
def fieldOf (P : Program) (f : Field) : Option (Nat × Nat × Bool) :=
  match P.info? f.type, P.underlying f.type with
  | some i, some d => if i.size = 0 then none else some (f.offset, i.size, aggOf d)
  | _, _ => none
def fieldsOf (P : Program) : List Field → Option (List (Nat × Nat × Bool))
  | [] => some []
  | f :: r => match fieldOf P f, fieldsOf P r with
    | some x, some y => some (x :: y)
    | _, _ => none
def tdOf (P : Program) : TypeDesc → TD
  | .int k => .int k
  | .bool => .bool
  | .slice e => .slice e
  | .struct fs => match fieldsOf P fs.toList with
    | some l => .struct l
    | none => .other
  | .array n e => match P.info? e, P.underlying e with
    | some i, some d => .arr n i.size (aggOf d)
    | _, _ => .other
  | .map k e => match P.underlying k with
    | some (.int kk) => .map kk e
    | _ => .other
  | _ => .other
def tiOf (P : Program) (t : TypeId) : Option TI :=
  match P.info? t, P.underlying t with
  | some i, some d =>
    if aggOf d && !(tdOf P d).agg then none else
    some { d := tdOf P d, size := i.size, zero := i.zero.bind (zeroCells (aggOf d)) }
  | _, _ => none

/-! ### smart makers -/
def mkbin (o : BinOp) (k : IntKind) (x y : IE) : IE :=
  match x, y with
  | .c a, .c b => .c (ibin o k a b)
  | x, y => .bin o k x y
def mkconv (k : IntKind) (x : IE) : IE :=
  match x with
  | .c a => .c (k.wrap a)
  | x => .conv k x
def mkcmp (o : BinOp) (x y : IE) : BE :=
  match x, y with
  | .c a, .c b => .c (icmp o a b)
  | x, y => .cmp o x y
def mknot (x : BE) : BE :=
  match x with
  | .c a => .c (!a)
  | .not y => y
  | x => .not x
def mkbeq (x y : BE) : BE :=
  match x, y with
  | .c a, .c b => .c (a == b)
  | .c true, y => y
  | x, .c true => x
  | x, y => .beq x y

def mkand (x y : BE) : BE :=
  match x, y with
  | .c true, y => y
  | .c false, _ => .c false
  | x, .c true => x
  | x, y => .and x y
/-- Two rows of numbers: the same? -/
def eqCells : List SV → List SV → Option BE
  | [], [] => some (.c true)
  | .int k a :: r, .int k' b :: s => if k = k' then (eqCells r s).map (mkand (mkcmp .eql a b)) else none
  | _, _ => none

theorem mkand_ev (ρ : Env) (x y : BE) : (mkand x y).ev ρ = (x.ev ρ && y.ev ρ) := by
  unfold mkand; split <;> simp [BE.ev]
theorem mkbin_ev (ρ : Env) (o : BinOp) (k : IntKind) (x y : IE) : (mkbin o k x y).ev ρ = ibin o k (x.ev ρ) (y.ev ρ) := by
  unfold mkbin; split <;> rfl
theorem mkconv_ev (ρ : Env) (k : IntKind) (x : IE) : (mkconv k x).ev ρ = k.wrap (x.ev ρ) := by
  unfold mkconv; split <;> rfl
theorem mkcmp_ev (ρ : Env) (o : BinOp) (x y : IE) : (mkcmp o x y).ev ρ = icmp o (x.ev ρ) (y.ev ρ) := by
  unfold mkcmp; split <;> rfl
theorem mknot_ev (ρ : Env) (x : BE) : (mknot x).ev ρ = !(x.ev ρ) := by
  unfold mknot; split <;> simp [BE.ev]
theorem mkbeq_ev (ρ : Env) (x y : BE) : (mkbeq x y).ev ρ = (x.ev ρ == y.ev ρ) := by
  unfold mkbeq; split <;> simp [BE.ev]

/-- What is known of a test. -/
def look (pc : List (BE × Bool)) (c : BE) : Option Bool :=
  match c with
  | .c b => some b
  | .not x => (look1 pc (.not x)).orElse fun _ => (look1 pc x).map (!·)
  | c => look1 pc c
where
  look1 : List (BE × Bool) → BE → Option Bool
  | [], _ => none
  | x :: r, c => if x.1 = c then some x.2 else look1 r c

/-! ### operands, frames -/
def opv (tm : TM) : Operand → Option SV
  | .tmp t => some (tm.get t)
  | .const v => ofVal v
  | .global _ => none
  | .func f => some (.fn (.func f) [] [])
def opvs (tm : TM) : List Operand → Option (List SV)
  | [] => some []
  | x :: r => match opv tm x, opvs tm r with
    | some a, some b => some (a :: b)
    | _, _ => none
def partsv (tm : TM) : List (Nat × Operand) → Option (List (Nat × SV))
  | [] => some []
  | x :: r => match opv tm x.2, partsv tm r with
    | some a, some b => some ((x.1, a) :: b)
    | _, _ => none
def put (tm : TM) (dst : Option Tmp) (v : SV) : TM :=
  match dst with
  | some d => tm.set d v
  | none => tm
def SV.cells : SV → List SV
  | .agg l => l
  | v => [v]
def allOne : List SV → Bool
  | [] => true
  | x :: r => x.one && allOne r
def splice (l : List SV) (off : Nat) (xs : List SV) : List SV := l.take off ++ xs ++ l.drop (off + xs.length)

/-- Parts laid into cells. -/
def fillS (place : Nat → Option (Nat × Nat)) (cells : List SV) : List (Nat × SV) → Option (List SV)
  | [] => some cells
  | (i, v) :: rest =>
    match place i with
    | none => none
    | some (off, size) => if v.cells.length = size ∧ off + size ≤ cells.length ∧ allOne v.cells = true then fillS place (splice cells off v.cells) rest else none

structure Ctx where
  T : TypeId → Option TI
  eqT : TypeId → Bool
  F : FuncId → Option Func
  sig : FuncId → Option SV
  lp : List Nat → List (Nat × Nat)
  un : List Nat → Bool

/-! ### new variables, like a sample -/
mutual
def freshSV (ni nb nv : Nat) : SV → SV × List Fv × Nat × Nat × Nat
  | .int k _ => (.int k (.v ni), [.i ni], ni + 1, nb, nv)
  | .bool _ => (.bool (.v nb), [.b nb], ni, nb + 1, nv)
  | .agg l => let r := freshL ni nb nv l; (.agg r.1, r.2)
  | .tup l => let r := freshL ni nb nv l; (.tup r.1, r.2)
  | _ => (.val nv, [.v nv], ni, nb, nv + 1)
def freshL (ni nb nv : Nat) : List SV → List SV × List Fv × Nat × Nat × Nat
  | [] => ([], [], ni, nb, nv)
  | x :: r =>
    let a := freshSV ni nb nv x
    let b := freshL a.2.2.1 a.2.2.2.1 a.2.2.2.2 r
    (a.1 :: b.1, a.2.1 ++ b.2.1, b.2.2)
end

/-! ### operations that leave memory alone -/
/-- A value, and what must be so. -/
def pureOp (C : Ctx) (pc : List (BE × Bool)) (tm : TM) (o : Oper) : Option (SV × Option BE) :=
  match o.op with
  | .move x | .assign x => (opv tm x).map fun v => (v, none)
  | .pick c a b =>
    match opv tm c with
    | some (.bool e) =>
      match look pc e with
      | some true => (opv tm a).map fun v => (v, none)
      | some false => (opv tm b).map fun v => (v, none)
      | none => none
    | _ => none
  | .nilCheck x =>
    match opv tm x with
    | some (.ptr id off) => some (.ptr id off, none)
    | some (.fn (.func f) a b) => some (.fn (.func f) a b, none)
    | some (.optr n off) => some (.optr n off, some (.isp n))
    | _ => none
  | .fieldAddr s x f =>
    match opv tm x, C.T s with
    | some (.ptr id off), some { d := .struct fs, .. } =>
      match fs[f]? with
      | some (o, _, _) => some (.ptr id (off + o), none)
      | none => none
    | some (.optr n off), some { d := .struct fs, .. } =>
      match fs[f]? with
      | some (o, _, _) => some (.optr n (off + o), some (.isp n))
      | none => none
    | _, _ => none
  | .field s x f =>
    match opv tm x, C.T s with
    | some (.agg l), some { d := .struct fs, .. } =>
      match fs[f]? with
      | some (o, sz, true) => some (.agg ((l.drop o).take sz), none)
      | some (o, _, false) => (l[o]?).map fun v => (v, none)
      | none => none
    | _, _ => none
  | .binOp op xt x y _ =>
    match opv tm x, opv tm y with
    | some (.int k a), some (.int k' b) =>
      match op with
      | .shl | .shr => match b with
        | .c n => if 0 ≤ n then some (.int k (mkbin op k a b), none) else none
        | b => some (.int k (mkbin op k a b), some (.cmp .geq b (.c 0)))
      | .add | .sub | .mul | .and | .or => if k = k' then some (.int k (mkbin op k a b), none) else none
      | .quo | .rem => if k = k' then (match b with
        | .c n => if n = 0 then none else some (.int k (mkbin op k a b), none)
        | b => some (.int k (mkbin op k a b), some (.cmp .neq b (.c 0)))) else none
      | .eql | .neq | .lss | .leq | .gtr | .geq => if k = k' then some (.bool (mkcmp op a b), none) else none
      | _ => none
    | some (.bool a), some (.bool b) =>
      match op, C.T xt with
      | .eql, some { d := .bool, .. } => some (.bool (mkbeq a b), none)
      | .neq, some { d := .bool, .. } => some (.bool (mknot (mkbeq a b)), none)
      | _, _ => none
    | some (.agg a), some (.agg b) =>
      match C.T xt with
      | some { d := .struct fs, .. } =>
        if C.eqT xt = true ∧ fs.length = a.length then
          match op, eqCells a b with
          | .eql, some e => some (.bool e, none)
          | .neq, some e => some (.bool (mknot e), none)
          | _, _ => none
        else none
      | _ => none
    | some (.val n), some .nils =>
      match op, C.T xt with
      | .eql, some { d := .slice _, .. } => some (.bool (.nil n), some (.slc n))
      | .neq, some { d := .slice _, .. } => some (.bool (.not (.nil n)), some (.slc n))
      | _, _ => none
    | _, _ => none
  | .unOp .not _ x =>
    match opv tm x with
    | some (.bool e) => some (.bool (mknot e), none)
    | _ => none
  | .convert s d x =>
    match opv tm x, C.T s, C.T d with
    | some (.int _ e), some _, some { d := .int k, .. } => some (.int k (mkconv k e), none)
    | _, _, _ => none
  | .extract x i =>
    match opv tm x with
    | some (.tup l) => (l[i]?).map fun v => (v, none)
    | _ => none
  | .makeFunc f a b =>
    match opvs tm a.toList, opvs tm b.toList with
    | some a, some b => some (.fn f a b, none)
    | _, _ => none
  | .build t parts =>
    match C.T t, partsv tm parts.toList with
    | some { d := .struct fs, zero := some z, .. }, some ps =>
      (fillS (fun i => (fs[i]?).map fun p => (p.1, p.2.1)) z ps).map fun l => (.agg l, none)
    | some { d := .arr _ esz _, zero := some z, .. }, some ps =>
      (fillS (fun i => some (i * esz, esz)) z ps).map fun l => (.agg l, none)
    | _, _ => none
  | .call { callee := .builtin .len, args, argTypes } =>
    match args.toList, argTypes.toList with
    | [x], [t] =>
      match opv tm x, C.T t with
      | some (.sl _ n _), some { d := .slice _, .. } => some (.int .i64 (.c n), none)
      | some .nils, some { d := .slice _, .. } => some (.int .i64 (.c 0), none)
      | some (.val n), some { d := .slice _, .. } => some (.int .i64 (.sl n), some (.slc n))
      | _, _ => none
    | _, _ => none
  | _ => none

/-- A read of cells that are known. -/
def loadOp (C : Ctx) (hp : List Blk) (tm : TM) (o : Oper) : Option (SV × Nat × Nat × Nat) :=
  match o.op with
  | .load t x =>
    match opv tm x, C.T t with
    | some (.ptr id off), some ti =>
      match hp[id]? with
      | some blk =>
        if blk.keys = none ∧ off + ti.size ≤ blk.cells.length then
          if ti.d.agg then some (.agg ((blk.cells.drop off).take ti.size), id, off, ti.size)
          else if ti.size = 1 then (blk.cells[off]?).map fun v => (v, id, off, 1) else none
        else none
      | none => none
    | _, _ => none
  | _ => none
end Rx

namespace Rx
open Go

section
variable {P : Program}

theorem run_ul {t : TypeId} {d : TypeDesc} (h : P.underlying t = some d) (w : World) : (underlying t).run P w = .ok d w := by
  simp [underlying, h]
theorem run_ti {t : TypeId} {i : TypeInfo} (h : P.info? t = some i) (w : World) : (typeInfo t).run P w = .ok i w := by
  simp [typeInfo, h]
theorem run_sz {t : TypeId} {i : TypeInfo} (h : P.info? t = some i) (w : World) : (Go.sizeOf t).run P w = .ok i.size w := by
  simp [Go.sizeOf, run_ti h]
theorem run_zv {t : TypeId} {i : TypeInfo} {z : Value} (h : P.info? t = some i) (hz : i.zero = some z) (w : World) : (zeroValue t).run P w = .ok z w := by
  simp [zeroValue, run_ti h, hz]
theorem run_ia {t : TypeId} {d : TypeDesc} (h : P.underlying t = some d) (w : World) : (isAgg t).run P w = .ok (aggOf d) w := by
  simp only [isAgg, Sem.run_bind, run_ul h, Result.andThen_ok]
  cases d <;> rfl

/-- What a type's row tells. -/
structure TIs (P : Program) (t : TypeId) (ti : TI) (i : TypeInfo) (d : TypeDesc) : Prop where
  info : P.info? t = some i
  und : P.underlying t = some d
  td : ti.d = tdOf P d
  size : ti.size = i.size
  zero : ti.zero = i.zero.bind (zeroCells (aggOf d))
  agg : aggOf d = ti.d.agg

theorem agg_tdOf (d : TypeDesc) (h : (tdOf P d).agg = true) : aggOf d = true := by
  cases d <;> simp [tdOf, TD.agg, aggOf] at *
  split at h
  · rename_i heq; split at heq <;> cases heq
  · rename_i heq; split at heq <;> cases heq
  · cases h

theorem ti_is {t : TypeId} {ti : TI} (h : tiOf P t = some ti) : ∃ i d, TIs P t ti i d := by
  unfold tiOf at h
  split at h
  · rename_i i d hi hd
    split at h
    · cases h
    · rename_i hn
      cases h
      refine ⟨i, d, hi, hd, rfl, rfl, rfl, ?_⟩
      cases ha : aggOf d
      · cases hb : (tdOf P d).agg
        · rfl
        · rw [agg_tdOf d hb] at ha; cases ha
      · cases hb : (tdOf P d).agg
        · simp [ha, hb] at hn
        · rfl
  · cases h

theorem fields_at : ∀ {fs : List Field} {l : List (Nat × Nat × Bool)}, fieldsOf P fs = some l → l.length = fs.length ∧ ∀ (n : Nat) p, l[n]? = some p → ∃ f i d, fs[n]? = some f ∧ P.info? f.type = some i ∧ P.underlying f.type = some d ∧ p.1 = f.offset ∧ p.2.1 = i.size ∧ i.size ≠ 0 ∧ p.2.2 = aggOf d
  | [], l, h => by
    simp only [fieldsOf, Option.some.injEq] at h
    subst h
    exact ⟨rfl, fun n p hp => by simp at hp⟩
  | f :: r, l, h => by
    simp only [fieldsOf] at h
    split at h
    · rename_i x y hx hy
      cases h
      obtain ⟨h1, h2⟩ := fields_at hy
      refine ⟨by simp [h1], fun n p hp => ?_⟩
      cases n with
      | zero =>
        simp at hp
        subst hp
        unfold fieldOf at hx
        split at hx
        · rename_i i d hi hd
          split at hx
          · cases hx
          · rename_i hne
            cases hx
            exact ⟨f, i, d, rfl, hi, hd, rfl, rfl, hne, rfl⟩
        · cases hx
      | succ n => exact h2 n p (by simpa using hp)
    · cases h

/-- A struct type's row. -/
theorem ti_struct {t : TypeId} {ti : TI} {fs : List (Nat × Nat × Bool)} (h : tiOf P t = some ti) (hd : ti.d = .struct fs) :
    ∃ fields : Array Field, P.underlying t = some (.struct fields) ∧ fieldsOf P fields.toList = some fs := by
  obtain ⟨i, d, hh⟩ := ti_is h
  have h1 := hh.td
  rw [hd] at h1
  cases d <;> simp only [tdOf] at h1 <;> try (cases h1; done)
  case struct fields =>
    refine ⟨fields, hh.und, ?_⟩
    split at h1
    · rename_i l hl
      cases h1
      exact hl
    · cases h1
  all_goals (split at h1 <;> cases h1)

theorem ti_slice {t : TypeId} {ti : TI} {e : TypeId} (h : tiOf P t = some ti) (hd : ti.d = .slice e) : P.underlying t = some (.slice e) := by
  obtain ⟨i, d, hh⟩ := ti_is h
  have h1 := hh.td
  rw [hd] at h1
  cases d <;> simp only [tdOf] at h1 <;> try (cases h1; done)
  case slice e' => cases h1; exact hh.und
  all_goals (split at h1 <;> cases h1)
theorem ti_int {t : TypeId} {ti : TI} {k : IntKind} (h : tiOf P t = some ti) (hd : ti.d = .int k) : P.underlying t = some (.int k) := by
  obtain ⟨i, d, hh⟩ := ti_is h
  have h1 := hh.td
  rw [hd] at h1
  cases d <;> simp only [tdOf] at h1 <;> try (cases h1; done)
  case int e' => cases h1; exact hh.und
  all_goals (split at h1 <;> cases h1)
theorem ti_bool {t : TypeId} {ti : TI} (h : tiOf P t = some ti) (hd : ti.d = .bool) : P.underlying t = some .bool := by
  obtain ⟨i, d, hh⟩ := ti_is h
  have h1 := hh.td
  rw [hd] at h1
  cases d <;> simp only [tdOf] at h1 <;> try (cases h1; done)
  case bool => exact hh.und
  all_goals (split at h1 <;> cases h1)
theorem ti_arr {t : TypeId} {ti : TI} {n esz : Nat} {ag : Bool} (h : tiOf P t = some ti) (hd : ti.d = .arr n esz ag) :
    ∃ e i d, P.underlying t = some (.array n e) ∧ P.info? e = some i ∧ P.underlying e = some d ∧ i.size = esz ∧ ag = aggOf d := by
  obtain ⟨i, d, hh⟩ := ti_is h
  have h1 := hh.td
  rw [hd] at h1
  cases d <;> simp only [tdOf] at h1 <;> try (cases h1; done)
  case array m e =>
    split at h1
    · rename_i i2 d2 hi2 hd2
      cases h1
      exact ⟨e, i2, d2, hh.und, hi2, hd2, rfl, rfl⟩
    · cases h1
  all_goals (split at h1 <;> cases h1)

/-! ### values written out -/
theorem ofVal1_den (ρ : Env) {v : Value} {s : SV} (h : ofVal1 v = some s) : s.den ρ = v := by
  unfold ofVal1 at h
  split at h <;> first | (cases h; rfl) | cases h
theorem ofVal1_one {v : Value} {s : SV} (h : ofVal1 v = some s) : s.one = true := by
  unfold ofVal1 at h
  split at h <;> first | (cases h; rfl) | cases h
theorem ofVals_den (ρ : Env) : ∀ {l : List Value} {s : List SV}, ofVals l = some s → denL ρ s = l
  | [], s, h => by simp only [ofVals, Option.some.injEq] at h; subst h; rfl
  | v :: r, s, h => by
    simp only [ofVals] at h
    split at h
    · rename_i x y hx hy
      cases h
      simp only [denL, ofVal1_den ρ hx, ofVals_den ρ hy]
    · cases h
theorem ofVals_one : ∀ {l : List Value} {s : List SV}, ofVals l = some s → allOne s = true
  | [], s, h => by simp only [ofVals, Option.some.injEq] at h; subst h; rfl
  | v :: r, s, h => by
    simp only [ofVals] at h
    split at h
    · rename_i x y hx hy
      cases h
      simp only [allOne, ofVal1_one hx, ofVals_one hy, Bool.and_self]
    · cases h
theorem ofVal_den (ρ : Env) {v : Value} {s : SV} (h : ofVal v = some s) : s.den ρ = v := by
  unfold ofVal at h
  split at h
  · rename_i cs
    cases hl : ofVals cs.toList with
    | none => rw [hl] at h; cases h
    | some l =>
      rw [hl] at h
      cases h
      simp only [SV.den, ofVals_den ρ hl, Array.toArray_toList]
  · exact ofVal1_den ρ h
theorem zeroCells_one1 (ρ : Env) {v : Value} {l : List SV} (h : zeroCells false v = some l) : ∃ s, l = [s] ∧ s.den ρ = v := by
  simp only [zeroCells, Bool.false_eq_true, if_false] at h
  cases hl : ofVal1 v with
  | none => rw [hl] at h; cases h
  | some s =>
    rw [hl] at h
    cases h
    exact ⟨s, rfl, ofVal1_den ρ hl⟩
theorem ofVal1_agg {v : Value} {s : SV} (h : ofVal1 v = some s) : v.cells = #[v] := by
  cases v <;> first | rfl | (simp [ofVal1] at h)
theorem zeroCells_den (ρ : Env) {ag : Bool} {v : Value} {l : List SV} (h : zeroCells ag v = some l) : v.cells = (denL ρ l).toArray := by
  cases ag
  · have h0 := h
    obtain ⟨s, rfl, hs⟩ := zeroCells_one1 ρ h
    simp only [zeroCells, Bool.false_eq_true, if_false] at h0
    cases hl : ofVal1 v with
    | none => rw [hl] at h0; cases h0
    | some s' =>
      rw [ofVal1_agg hl]
      simp only [denL, hs]
  · simp only [zeroCells, if_true] at h
    split at h
    · rename_i cs
      simp only [ofVals_den ρ h, Value.cells, Array.toArray_toList]
    · cases h

/-! ### operands -/
theorem denL_get (ρ : Env) (l : List SV) (n : Nat) : (denL ρ l)[n]? = (l[n]?).map (SV.den ρ) := by
  rw [denL_map, List.getElem?_map]
theorem denL_len (ρ : Env) (l : List SV) : (denL ρ l).length = l.length := by rw [denL_map, List.length_map]
theorem denL_append (ρ : Env) (a b : List SV) : denL ρ (a ++ b) = denL ρ a ++ denL ρ b := by simp [denL_map]
theorem denL_take (ρ : Env) (a : List SV) (n : Nat) : denL ρ (a.take n) = (denL ρ a).take n := by simp [denL_map, List.map_take]
theorem denL_drop (ρ : Env) (a : List SV) (n : Nat) : denL ρ (a.drop n) = (denL ρ a).drop n := by simp [denL_map, List.map_drop]

theorem opv_den {ρ : Env} {tm : TM} {a : Act} (ht : a.tmps = (denL ρ tm).toArray) {x : Operand} {s : SV} (h : opv tm x = some s) : a.eval x = s.den ρ := by
  cases x with
  | tmp t =>
    simp only [opv, Option.some.injEq] at h
    subst h
    simp only [Act.eval, ht, Array.getD_eq_getD_getElem?, List.getElem?_toArray, denL_get]
    rw [TM.get_eq]
    cases tm.l[t]? <;> simp [SV.den]
  | const v => exact (ofVal_den ρ h).symm
  | global g => cases h
  | func f =>
    simp only [opv, Option.some.injEq] at h
    subst h
    rfl
theorem opvs_den {ρ : Env} {tm : TM} {a : Act} (ht : a.tmps = (denL ρ tm).toArray) : ∀ {l : List Operand} {s : List SV}, opvs tm l = some s → l.map a.eval = denL ρ s
  | [], s, h => by simp only [opvs, Option.some.injEq] at h; subst h; rfl
  | x :: r, s, h => by
    simp only [opvs] at h
    split at h
    · rename_i p q hp hq
      cases h
      simp only [List.map_cons, denL, opv_den ht hp, opvs_den ht hq]
    · cases h
theorem opvs_arr {ρ : Env} {tm : TM} {a : Act} (ht : a.tmps = (denL ρ tm).toArray) {l : Array Operand} {s : List SV} (h : opvs tm l.toList = some s) : l.map a.eval = (denL ρ s).toArray := by
  apply Array.toList_inj.1
  rw [Array.toList_map, opvs_den ht h]
def denP (ρ : Env) (l : List (Nat × SV)) : List (Nat × Value) := l.map fun p => (p.1, p.2.den ρ)
theorem partsv_den {ρ : Env} {tm : TM} {a : Act} (ht : a.tmps = (denL ρ tm).toArray) : ∀ {l : List (Nat × Operand)} {s : List (Nat × SV)}, partsv tm l = some s → l.map (fun p => (p.1, a.eval p.2)) = denP ρ s
  | [], s, h => by simp only [partsv, Option.some.injEq] at h; subst h; rfl
  | x :: r, s, h => by
    simp only [partsv] at h
    split at h
    · rename_i p q hp hq
      cases h
      simp only [List.map_cons, denP, opv_den ht hp]
      rw [partsv_den ht hq]; rfl
    · cases h
theorem put_den {ρ : Env} {tm : TM} {a : Act} (ht : a.tmps = (denL ρ tm).toArray) (dst : Option Tmp) (s : SV) : (a.put dst (s.den ρ)).tmps = (denL ρ (put tm dst s)).toArray := by
  cases dst with
  | none => exact ht
  | some d =>
    simp only [Act.put, put, ht, TM.set_l, denL_map, List.setIfInBounds_toArray, List.map_set]

/-! ### tests -/
theorem look1_ev {ρ : Env} : ∀ {pc : List (BE × Bool)}, (∀ x ∈ pc, x.1.ev ρ = x.2) → ∀ {c : BE} {b : Bool}, look.look1 pc c = some b → c.ev ρ = b
  | [], _, c, b, h => by simp [look.look1] at h
  | x :: r, hp, c, b, h => by
    simp only [look.look1] at h
    split at h
    · rename_i he
      cases h
      rw [← he]
      exact hp x List.mem_cons_self
    · exact look1_ev (fun y hy => hp y (List.mem_cons_of_mem _ hy)) h
theorem look_ev {ρ : Env} {pc : List (BE × Bool)} (hp : ∀ x ∈ pc, x.1.ev ρ = x.2) {c : BE} {b : Bool} (h : look pc c = some b) : c.ev ρ = b := by
  unfold look at h
  split at h
  · cases h; rfl
  · rename_i x
    cases h1 : look.look1 pc (.not x) with
    | some y =>
      rw [h1] at h
      simp at h
      subst h
      exact look1_ev hp h1
    | none =>
      rw [h1] at h
      simp only [Option.orElse] at h
      cases h2 : look.look1 pc x with
      | none => rw [h2] at h; simp at h
      | some y =>
        rw [h2] at h
        simp at h
        subst h
        simp [BE.ev, look1_ev hp h2]
  · exact look1_ev hp h
end
end Rx

namespace Rx
open Go
section
variable {P : Program}

/-! ### parts laid into cells -/
theorem foldl_set (off : Nat) : ∀ (cs : List Value) (k : Nat) (l : List Value), off + k + cs.length ≤ l.length →
    (cs.zipIdx k).foldl (fun (m : Array Value) x => m.setIfInBounds (off + x.2) x.1) l.toArray = (l.take (off + k) ++ cs ++ l.drop (off + k + cs.length)).toArray
  | [], k, l, _ => by simp
  | c :: r, k, l, h => by
    simp only [List.zipIdx_cons, List.foldl_cons]
    rw [List.setIfInBounds_toArray]
    have h' : off + k < l.length := by simp at h; omega
    rw [foldl_set off r (k + 1) _ (by simp at h ⊢; omega)]
    congr 1
    have e := list_seg_step l (off + k) c r (by simp at h ⊢; omega)
    simpa [Nat.add_assoc] using e

theorem denL_splice (ρ : Env) (l : List SV) (off : Nat) (xs : List SV) : denL ρ (splice l off xs) = (denL ρ l).take off ++ denL ρ xs ++ (denL ρ l).drop (off + (denL ρ xs).length) := by
  simp only [splice, denL_append, denL_take, denL_drop, denL_len]

theorem cells_den {ρ : Env} {s : SV} (h : allOne s.cells = true) : (s.den ρ).cells = (denL ρ s.cells).toArray := by
  cases s <;> simp only [SV.cells, allOne, SV.one, Bool.and_true, denL] at h ⊢ <;> first | rfl | (cases h; done) | skip
  case val n => have := ρ.vo n; simp only [SV.den]; cases hv : ρ.v n <;> rw [hv] at this <;> first | rfl | (simp [Value.oneCell'] at this)
  case optr n off =>
    have := oneCell_shift off _ (ρ.vo n)
    simp only [SV.den]
    cases hv : shiftPtr off (ρ.v n) <;> rw [hv] at this <;> first | rfl | (simp [Value.oneCell'] at this)

theorem allOne_mem {ρ : Env} : ∀ {l : List SV}, allOne l = true → ∀ v ∈ denL ρ l, v.oneCell' = true
  | [], _, v, hv => by simp [denL] at hv
  | x :: r, h, v, hv => by
    simp only [allOne, Bool.and_eq_true] at h
    simp only [denL, List.mem_cons] at hv
    rcases hv with rfl | hv
    · exact den_one h.1
    · exact allOne_mem h.2 v hv

theorem fill_den {ρ : Env} {place : Nat → Option (Nat × Nat)} : ∀ {ps : List (Nat × SV)} {cells out : List SV}, fillS place cells ps = some out →
    Instr.fill place (denL ρ cells).toArray (denP ρ ps) = some (denL ρ out).toArray
  | [], cells, out, h => by simp only [fillS, Option.some.injEq] at h; subst h; rfl
  | (i, v) :: rest, cells, out, h => by
    simp only [fillS] at h
    split at h
    · cases h
    · rename_i off size hp
      split at h
      · rename_i hc
        obtain ⟨h1, h2, h3⟩ := hc
        have hcells := cells_den (ρ := ρ) h3
        have hsz : (v.den ρ).cells.size = size := by rw [hcells, List.size_toArray, denL_len]; exact h1
        simp only [denP, List.map_cons, Instr.fill, hp]
        rw [if_neg (by simp only [hsz, List.size_toArray, denL_len, Bool.or_eq_true, decide_eq_true_eq]; omega)]
        have := fill_den (ρ := ρ) h
        rw [← this]
        congr 1
        rw [hcells, ← Array.foldl_toList, Array.toList_zipIdx]
        have e := foldl_set off (denL ρ v.cells) 0 (denL ρ cells) (by simp only [denL_len]; omega)
        rw [denL_splice]
        simpa using e
      · cases h

theorem places_of : ∀ {fs : List Field} {l : List (Nat × Nat × Bool)}, fieldsOf P fs = some l →
    fs.mapM (fun f => (P.info? f.type).map fun i => (f.offset, i.size)) = some (l.map fun p => (p.1, p.2.1))
  | [], l, h => by simp only [fieldsOf, Option.some.injEq] at h; subst h; rfl
  | f :: r, l, h => by
    simp only [fieldsOf] at h
    split at h
    · rename_i x y hx hy
      cases h
      have := places_of hy
      unfold fieldOf at hx
      split at hx
      · rename_i i d hi hd
        split at hx
        · cases hx
        · cases hx
          simp [List.mapM_cons, hi, this]
      · cases hx
    · cases h

theorem build_run {ρ : Env} {t : TypeId} {ti : TI} {z out : List SV} {ps : List (Nat × SV)} (hti : tiOf P t = some ti) (hz : ti.zero = some z) (w : World) (parts : Array (Nat × Value)) (hp : parts.toList = denP ρ ps)
    (h : (∃ fs, ti.d = .struct fs ∧ fillS (fun i => (fs[i]?).map fun p => (p.1, p.2.1)) z ps = some out) ∨ (∃ n esz ag, ti.d = .arr n esz ag ∧ fillS (fun i => some (i * esz, esz)) z ps = some out)) :
    (Instr.build t parts).run P w = .ok (.agg (denL ρ out).toArray) w := by
  obtain ⟨i, d, hh⟩ := ti_is hti
  have hzz := hh.zero
  rw [hz] at hzz
  cases hiz : i.zero with
  | none => rw [hiz] at hzz; cases hzz
  | some zv =>
    rw [hiz] at hzz
    have hzc := zeroCells_den ρ hzz.symm
    refine run_build w t parts _ ?_
    unfold Program.built
    rcases h with ⟨fs, hd, hf⟩ | ⟨n, esz, ag, hd, hf⟩
    · obtain ⟨fields, hu, hfs⟩ := ti_struct hti hd
      simp only [hh.info, hu, hiz, places_of hfs]
      rw [hp, hzc]
      have := fill_den (ρ := ρ) hf
      rw [← this]
      congr 1
      funext j
      simp
    · obtain ⟨e, ie, de, hu, hie, hue, hsz, _⟩ := ti_arr hti hd
      simp only [hh.info, hu, hiz, hie, hsz]
      rw [hp, hzc]
      exact fill_den (ρ := ρ) hf

/-! ### operations that leave memory alone -/
theorem binOp_int_run (op : BinOp) (xt : TypeId) (x y : Operand) (k k' : IntKind) (a b : Int) (w : World) (r : Value)
    (h : (binOp op xt (.int k a) (.int k' b)).run P w = .ok r w) :
    ((do pure (Next.value (← (do eqGuard op xt x y (.int k a) (.int k' b); binOp op xt (.int k a) (.int k' b))))) : Sem Next).run P w = .ok (.value r) w := by
  have hg : (eqGuard op xt x y (.int k a) (.int k' b)).run P w = .ok () w := by
    unfold eqGuard; split <;> rfl
  simp only [Sem.run_bind, hg, Result.andThen_ok, h, Sem.run_pure]

theorem equalIn_eq (t : TypeId) (x y : Value) : ∃ d, Op.equal t x y = Op.equalIn (d + 1) t x y := ⟨9999, rfl⟩
theorem equal_bool {t : TypeId} (hu : P.underlying t = some .bool) (a b : Bool) (w : World) : (Op.equal t (.bool a) (.bool b)).run P w = .ok (a == b) w := by
  obtain ⟨d, hd⟩ := equalIn_eq t (.bool a) (.bool b)
  rw [hd]
  simp only [Op.equalIn, Sem.run_bind, run_ul hu, Result.andThen_ok, Sem.run_pure]
theorem equal_nil {t e : TypeId} (hu : P.underlying t = some (.slice e)) (a : Option Addr) (l c : Nat) (w : World) : (Op.equal t (.slice a l c) (.slice none 0 0)).run P w = .ok (isNil (.slice a l c)) w := by
  obtain ⟨d, hd⟩ := equalIn_eq t (.slice a l c) (.slice none 0 0)
  rw [hd]
  cases a <;> simp [Op.equalIn, Sem.run_bind, run_ul hu, isNil]
theorem eqGuard_plain (op : BinOp) (t : TypeId) (x y : Operand) (a b : Value) (w : World) (h : (match a, b with | .nilIface, .nilIface => false | .agg _, .agg _ => false | _, _ => true) = true) : (eqGuard op t x y a b).run P w = .ok () w := by
  cases a <;> cases b <;> first | (cases h; done) | (cases op <;> rfl)

theorem addr_add_add (a : Addr) (m n : Nat) : (a.add m).add n = a.add (m + n) := by
  unfold Addr.add
  by_cases hm : m = 0
  · subst hm; simp
  · by_cases hn : n = 0
    · subst hn; simp [hm]
    · simp [hm, hn]; omega

/-- What is asked of a type whose values are compared. -/
structure EqOK (P : Program) (t : TypeId) : Prop where
  flds : ∃ fs : Array Field, P.underlying t = some (.struct fs) ∧ ∀ (j : Nat) f, fs[j]? = some f → f.name ≠ "_" ∧ f.offset = j ∧ ∃ k, P.underlying f.type = some (.int k)
  gd : P.eqGuardType P.depth t = false
  st : P.stoodInHeld t = false

theorem eqCells_ev (ρ : Env) (a : List SV) : ∀ {b : List SV} {e : BE}, eqCells a b = some e → a.length = b.length ∧
    ∃ xs : List (IntKind × Int × Int), denL ρ a = xs.map (fun x => .int x.1 x.2.1) ∧ denL ρ b = xs.map (fun x => .int x.1 x.2.2) ∧ e.ev ρ = xs.all fun x => x.2.1 == x.2.2 := by
  induction a with
  | nil =>
    intro b e h
    cases b with
    | nil =>
      simp only [eqCells, Option.some.injEq] at h
      subst h
      exact ⟨rfl, [], rfl, rfl, rfl⟩
    | cons y s => simp [eqCells] at h
  | cons x r ih =>
    intro b e h
    cases b with
    | nil => cases x <;> simp [eqCells] at h
    | cons y s =>
      cases x <;> try (simp [eqCells] at h; done)
      cases y <;> try (simp [eqCells] at h; done)
      rename_i k x k' y
      simp only [eqCells] at h
      split at h
      · rename_i hk
        subst hk
        cases hr : eqCells r s with
        | none => rw [hr] at h; cases h
        | some e' =>
          rw [hr] at h
          simp only [Option.map_some, Option.some.injEq] at h
          subst h
          obtain ⟨h1, xs, h2, h3, h4⟩ := ih hr
          refine ⟨by simp [h1], (k, x.ev ρ, y.ev ρ) :: xs, by simp [denL, SV.den, h2], by simp [denL, SV.den, h3], ?_⟩
          rw [mkand_ev, mkcmp_ev, h4]
          simp [icmp]
      · cases h

theorem eqFields_run {t : TypeId} (fs : Array Field) (d : Nat) (xs : List (IntKind × Int × Int)) (w : World) :
    ∀ (l : List Field) (j : Nat), (∀ (i : Nat) f, l[i]? = some f → f.name ≠ "_" ∧ f.offset = j + i ∧ ∃ k, P.underlying f.type = some (.int k)) → j + l.length = xs.length →
    (Op.eqFields (d + 1) (xs.map fun x => Value.int x.1 x.2.1).toArray (xs.map fun x => Value.int x.1 x.2.2).toArray l).run P w = .ok ((xs.drop j).all fun x => x.2.1 == x.2.2) w
  | [], j, _, hl => by
    simp at hl
    simp [Op.eqFields, hl]
  | f :: r, j, h, hl => by
    obtain ⟨h1, h2, k, h3⟩ := h 0 f rfl
    simp at hl h2
    have hj : j < xs.length := by omega
    have hd : xs.drop j = xs[j] :: xs.drop (j + 1) := List.drop_eq_getElem_cons hj
    have ih := eqFields_run (t := t) fs d xs w r (j + 1) (fun i f' hf' => by have := h (i + 1) f' (by simpa using hf'); simpa [Nat.add_assoc, Nat.add_comm 1 i] using this) (by omega)
    have pa : ∀ g : IntKind × Int × Int → Value, (part f.type (xs.map g).toArray f.offset).run P w = .ok (g xs[j]) w := by
      intro g
      simp only [part, Sem.run_bind, run_ia h3, aggOf, Result.andThen_ok, Bool.false_eq_true, if_false, h2]
      simp [hj]
    simp only [Op.eqFields, ne_eq, h1, not_false_eq_true, if_true, Sem.run_bind, pa, Result.andThen_ok, run_equalIn_int w d _ _ k _ _ h3, Sem.run_ite, ih]
    rw [hd]
    simp only [List.all_cons]
    cases hb : xs[j].2.1 == xs[j].2.2 <;> simp

theorem equal_agg {t : TypeId} (he : EqOK P t) {ρ : Env} {a b : List SV} {e : BE} (h : eqCells a b = some e) (hn : ∀ fs, P.underlying t = some (.struct fs) → fs.size = a.length) (w : World) :
    (Op.equal t (.agg (denL ρ a).toArray) (.agg (denL ρ b).toArray)).run P w = .ok (e.ev ρ) w := by
  obtain ⟨fs, hu, hf⟩ := he.flds
  obtain ⟨h1, xs, h2, h3, h4⟩ := eqCells_ev ρ a h
  have hsz := hn fs hu
  have hfo : P.fieldsOf t = fs := by simp [Program.fieldsOf, hu]
  show (Op.equalIn (9999 + 1) t _ _).run P w = _
  rw [run_equalIn_struct w 9999 t _ _ (by rw [hfo]; exact hu) he.st, hfo, h2, h3, h4]
  have := eqFields_run (P := P) (t := t) fs 9998 xs w fs.toList 0 (fun i f hf' => by have := hf i f (by simpa using hf'); simpa using this) (by
    have : (denL ρ a).length = xs.length := by rw [h2]; simp
    rw [denL_len] at this
    simp; omega)
  simpa using this

theorem pure_sound {C : Ctx} (hT : ∀ t ti, C.T t = some ti → tiOf P t = some ti) (hE : ∀ t, C.eqT t = true → EqOK P t) {ρ : Env} {pc : List (BE × Bool)} (hpc : ∀ x ∈ pc, x.1.ev ρ = x.2)
    {tm : TM} {a : Act} (ht : a.tmps = (denL ρ tm).toArray) {o : Oper} {v : SV} {nd : Option BE} (h : pureOp C pc tm o = some (v, nd)) (hn : ∀ c, nd = some c → c.ev ρ = true) (w : World) :
    (execOp a.eval o).run P w = .ok (.value (v.den ρ)) w := by
  obtain ⟨dst, op, ty, pos, after, guard⟩ := o
  unfold pureOp at h
  simp only at h
  split at h
  · -- move
    rename_i x
    cases hx : opv tm x with
    | none => rw [hx] at h; cases h
    | some s => rw [hx] at h; cases h; simp only [execOp, opv_den ht hx, Sem.run_pure]
  · rename_i x
    cases hx : opv tm x with
    | none => rw [hx] at h; cases h
    | some s => rw [hx] at h; cases h; simp only [execOp, opv_den ht hx, Sem.run_pure]
  · -- pick
    rename_i c x y
    split at h
    · rename_i e he
      have hc := opv_den ht he
      split at h
      · rename_i hl
        have hev := look_ev hpc hl
        cases hx : opv tm x with
        | none => rw [hx] at h; cases h
        | some s =>
          rw [hx] at h; cases h
          simp only [execOp, hc, SV.den, hev, asBool, Sem.run_bind, Sem.run_pure, Result.andThen_ok, if_true, opv_den ht hx]
      · rename_i hl
        have hev := look_ev hpc hl
        cases hx : opv tm y with
        | none => rw [hx] at h; cases h
        | some s =>
          rw [hx] at h; cases h
          simp only [execOp, hc, SV.den, hev, asBool, Sem.run_bind, Sem.run_pure, Result.andThen_ok, Bool.false_eq_true, if_false, opv_den ht hx]
      · cases h
    · cases h
  · -- nilCheck
    rename_i x
    split at h
    · rename_i id off hx
      cases h
      simp only [execOp, opv_den ht hx, SV.den, Sem.run_pure]
    · rename_i f p q hx
      cases h
      simp only [execOp, opv_den ht hx, SV.den, Sem.run_pure]
    · rename_i n off hx
      cases h
      have hp := hn _ rfl
      simp only [BE.ev] at hp
      simp only [execOp, opv_den ht hx, SV.den]
      revert hp
      unfold isPtr
      split
      · rename_i aa hv
        intro _
        simp only [hv, shiftPtr, Sem.run_pure]
      · intro hp; cases hp
    · cases h
  · -- fieldAddr
    rename_i s x f
    split at h
    · rename_i id off fs sz z hx hs
      split at h
      · rename_i oo s1 s2 hf
        cases h
        obtain ⟨fields, hu, hfs⟩ := ti_struct (hT _ _ hs) rfl
        obtain ⟨ff, i, d, h1, h2, h3, h4, h5, h6, h7⟩ := (fields_at hfs).2 f _ hf
        have hff : fields[f]? = some ff := by simpa using h1
        simp only [execOp, opv_den ht hx, SV.den, Instr.fieldAt, Instr.sureAddr, fieldPlace, Sem.run_bind, run_ul hu, Result.andThen_ok, hff, Sem.run_pure, run_sz h2, Sem.run_ite, if_neg h6]
        simp only at h4
        subst h4
        rw [Addr.add_mid]
      · cases h
    · rename_i n off fs sz z hx hs
      split at h
      · rename_i oo s1 s2 hf
        cases h
        have hp := hn _ rfl
        obtain ⟨fields, hu, hfs⟩ := ti_struct (hT _ _ hs) rfl
        obtain ⟨ff, i, d, h1, h2, h3, h4, h5, h6, h7⟩ := (fields_at hfs).2 f _ hf
        have hff : fields[f]? = some ff := by simpa using h1
        simp only [BE.ev] at hp
        simp only at h4
        subst h4
        simp only [execOp, opv_den ht hx, SV.den]
        revert hp
        unfold isPtr
        split
        · rename_i aa hv
          intro _
          simp only [hv, shiftPtr, Instr.fieldAt, Instr.sureAddr, fieldPlace, Sem.run_bind, run_ul hu, Result.andThen_ok, hff, Sem.run_pure, run_sz h2, Sem.run_ite, if_neg h6]
          rw [addr_add_add]
        · intro hp; cases hp
      · cases h
    · cases h
  · -- field
    rename_i s x f
    split at h
    · rename_i l fs sz z hx hs
      obtain ⟨fields, hu, hfs⟩ := ti_struct (hT _ _ hs) rfl
      split at h
      · rename_i oo s1 hf
        cases h
        obtain ⟨ff, i, d, h1, h2, h3, h4, h5, h6, h7⟩ := (fields_at hfs).2 f _ hf
        have hff : fields[f]? = some ff := by simpa using h1
        simp only at h4 h5 h7
        subst h4 h5
        simp only [execOp, opv_den ht hx, SV.den, Instr.field, asAgg, part, Sem.run_bind, run_ul hu, Result.andThen_ok, hff, Sem.run_pure, run_ia h3, ← h7, if_true, run_sz h2, denL_take, denL_drop]
        simp [List.extract_toArray, List.extract_eq_take_drop]
      · rename_i oo s1 hf
        obtain ⟨ff, i, d, h1, h2, h3, h4, h5, h6, h7⟩ := (fields_at hfs).2 f _ hf
        have hff : fields[f]? = some ff := by simpa using h1
        simp only at h4 h5 h7
        subst h4 h5
        cases hl : l[ff.offset]? with
        | none => rw [hl] at h; cases h
        | some u =>
          rw [hl] at h; cases h
          simp only [execOp, opv_den ht hx, SV.den, Instr.field, asAgg, part, Sem.run_bind, run_ul hu, Result.andThen_ok, hff, Sem.run_pure, run_ia h3, ← h7, Bool.false_eq_true, if_false]
          simp [denL_get, hl]
      · cases h
    · cases h
  · -- binOp
    rename_i op xt x y yt
    split at h
    · rename_i k a1 k' b1 hx hy
      have key : ∀ r : SV, (binOp op xt (.int k (a1.ev ρ)) (.int k' (b1.ev ρ))).run P w = .ok (r.den ρ) w → (execOp a.eval { dst, op := .binOp op xt x y yt, type := ty, pos, after, guard }).run P w = .ok (.value (r.den ρ)) w := by
        intro r hr
        simp only [execOp, opv_den ht hx, opv_den ht hy, SV.den]
        exact binOp_int_run op xt x y k k' _ _ w _ hr
      have nn : ∀ c : IE, (BE.cmp .geq c (.c 0)).ev ρ = true → ¬ c.ev ρ < 0 := by
        intro c hc
        simp only [BE.ev, icmp, IE.ev, ge_iff_le, decide_eq_true_eq] at hc
        omega
      split at h
      all_goals (try (cases h; done))
      · split at h
        · rename_i nv
          split at h
          · rename_i h0
            cases h
            refine key _ ?_
            have hnn : ¬ nv < 0 := by omega
            simp [binOp, Op.shift, IE.ev, SV.den, mkbin_ev, ibin, hnn]
          · cases h
        · cases h
          have := nn _ (hn _ rfl)
          refine key _ ?_
          simp [binOp, Op.shift, SV.den, mkbin_ev, ibin, this]
      · split at h
        · rename_i nv
          split at h
          · rename_i h0
            cases h
            refine key _ ?_
            have hnn : ¬ nv < 0 := by omega
            simp [binOp, Op.shift, IE.ev, SV.den, mkbin_ev, ibin, hnn]
          · cases h
        · cases h
          have := nn _ (hn _ rfl)
          refine key _ ?_
          simp [binOp, Op.shift, SV.den, mkbin_ev, ibin, this]
      all_goals (split at h)
      all_goals (try (cases h; done))
      all_goals (rename_i hk; subst hk)
      case _ => cases h; refine key _ ?_; simp [binOp, Op.intArith, SV.den, mkbin_ev, ibin]
      case _ => cases h; refine key _ ?_; simp [binOp, Op.intArith, SV.den, mkbin_ev, ibin]
      case _ => cases h; refine key _ ?_; simp [binOp, Op.intArith, SV.den, mkbin_ev, ibin]
      case _ => cases h; refine key _ ?_; simp [binOp, Op.intBits, SV.den, mkbin_ev, ibin]
      case _ => cases h; refine key _ ?_; simp [binOp, Op.intBits, SV.den, mkbin_ev, ibin]
      case _ =>
        split at h
        · rename_i nv
          split at h
          · cases h
          · rename_i h0
            cases h; refine key _ ?_
            simp [binOp, Op.intDiv, SV.den, mkbin_ev, ibin, IE.ev, h0]
        · cases h; refine key _ ?_
          have h0 := hn _ rfl
          simp only [BE.ev, icmp, IE.ev, bne_iff_ne, ne_eq] at h0
          simp [binOp, Op.intDiv, SV.den, mkbin_ev, ibin, h0]
      case _ =>
        split at h
        · rename_i nv
          split at h
          · cases h
          · rename_i h0
            cases h; refine key _ ?_
            simp [binOp, Op.intDiv, SV.den, mkbin_ev, ibin, IE.ev, h0]
        · cases h; refine key _ ?_
          have h0 := hn _ rfl
          simp only [BE.ev, icmp, IE.ev, bne_iff_ne, ne_eq] at h0
          simp [binOp, Op.intDiv, SV.den, mkbin_ev, ibin, h0]
      all_goals (cases h; refine key _ ?_; simp [binOp, Op.intCmp, SV.den, mkcmp_ev, icmp])
    · rename_i a1 b1 hx hy
      split at h
      · rename_i hs
        cases h
        have hu := ti_bool (hT _ _ hs) rfl
        simp only [execOp, opv_den ht hx, opv_den ht hy, SV.den, mkbeq_ev, Sem.run_bind, eqGuard_plain (P := P) .eql xt x y (.bool _) (.bool _) w rfl, Result.andThen_ok, binOp, equal_bool hu, Sem.run_pure]
      · rename_i hs
        cases h
        have hu := ti_bool (hT _ _ hs) rfl
        simp only [execOp, opv_den ht hx, opv_den ht hy, SV.den, mknot_ev, mkbeq_ev, Sem.run_bind, eqGuard_plain (P := P) .neq xt x y (.bool _) (.bool _) w rfl, Result.andThen_ok, binOp, equal_bool hu, Sem.run_pure]
      · cases h
    · rename_i l1 l2 hx hy
      split at h
      · rename_i ft fsz fz hft
        split at h
        · rename_i heq
          have he := hE _ heq.1
          have hlen : ∀ fs : Array Field, P.underlying xt = some (.struct fs) → fs.size = l1.length := by
            intro fs hfs
            obtain ⟨fields, hu, hfl⟩ := ti_struct (hT _ _ hft) rfl
            rw [hu] at hfs
            cases hfs
            have := (fields_at hfl).1
            rw [← heq.2, this]
            simp
          split at h
          · rename_i e hs
            cases h
            simp only [execOp, opv_den ht hx, opv_den ht hy, SV.den, Sem.run_bind, run_eqGuard_agg w .eql xt x y _ _ he.gd, Result.andThen_ok, binOp, equal_agg he hs hlen, Sem.run_pure]
          · rename_i e hs
            cases h
            simp only [execOp, opv_den ht hx, opv_den ht hy, SV.den, mknot_ev, Sem.run_bind, run_eqGuard_agg w .neq xt x y _ _ he.gd, Result.andThen_ok, binOp, equal_agg he hs hlen, Sem.run_pure]
          · cases h
        · cases h
      · cases h
    · rename_i n hx hy
      split at h
      · rename_i e sz z hs
        cases h
        have hu := ti_slice (hT _ _ hs) rfl
        have hp := hn _ rfl
        simp only [BE.ev] at hp
        simp only [execOp, opv_den ht hx, opv_den ht hy, SV.den, BE.ev]
        revert hp
        unfold isSlice
        split
        · rename_i aa l c hv
          intro _
          simp only [hv, Sem.run_bind, eqGuard_plain (P := P) .eql xt x y (.slice _ _ _) (.slice _ _ _) w rfl, Result.andThen_ok, binOp, equal_nil hu, Sem.run_pure]
        · intro hp; cases hp
      · rename_i e sz z hs
        cases h
        have hu := ti_slice (hT _ _ hs) rfl
        have hp := hn _ rfl
        simp only [BE.ev] at hp
        simp only [execOp, opv_den ht hx, opv_den ht hy, SV.den, BE.ev]
        revert hp
        unfold isSlice
        split
        · rename_i aa l c hv
          intro _
          simp only [hv, Sem.run_bind, eqGuard_plain (P := P) .neq xt x y (.slice _ _ _) (.slice _ _ _) w rfl, Result.andThen_ok, binOp, equal_nil hu, Sem.run_pure]
        · intro hp; cases hp
      · cases h
    · cases h
  · -- not
    rename_i t x
    split at h
    · rename_i e hx
      cases h
      simp only [execOp, opv_den ht hx, SV.den, Op.unary, mknot_ev, Sem.run_bind, Sem.run_pure, Result.andThen_ok]
    · cases h
  · -- convert
    rename_i s d x
    split at h
    · rename_i k0 e sti k sz z hx hs hd
      cases h
      obtain ⟨i0, d0, hh⟩ := ti_is (hT _ _ hs)
      have hu := ti_int (hT _ _ hd) rfl
      simp only [execOp, opv_den ht hx, SV.den, convert, Sem.run_bind, run_ul hh.und, run_ul hu, Result.andThen_ok, mkconv_ev]
      cases d0 <;> simp [Conv.intToInt]
    · cases h
  · -- extract
    rename_i x i
    split at h
    · rename_i l hx
      cases hl : l[i]? with
      | none => rw [hl] at h; cases h
      | some u =>
        rw [hl] at h; cases h
        simp only [execOp, opv_den ht hx, SV.den, Instr.extract]
        simp [denL_get, hl]
    · cases h
  · -- makeFunc
    rename_i f p q
    split at h
    · rename_i p1 q1 hp hq
      cases h
      simp only [execOp, Instr.makeFunc, opvs_arr ht hp, opvs_arr ht hq, SV.den, Sem.run_bind, Sem.run_pure, Result.andThen_ok]
    · cases h
  · -- build
    rename_i t parts
    have hpp : ∀ ps, partsv tm parts.toList = some ps → (parts.map fun (i, x) => (i, a.eval x)).toList = denP ρ ps := by
      intro ps hps
      rw [Array.toList_map]
      exact partsv_den ht hps
    split at h
    · rename_i fs sz z ps hs hps
      cases hf : fillS (fun i => (fs[i]?).map fun p => (p.1, p.2.1)) z ps with
      | none => rw [hf] at h; cases h
      | some out =>
        rw [hf] at h; cases h
        have := build_run (ρ := ρ) (hT _ _ hs) rfl w _ (hpp _ hps) (.inl ⟨fs, rfl, hf⟩)
        simp only [execOp, Sem.run_bind, this, Result.andThen_ok, Sem.run_pure, SV.den]
    · rename_i n esz ag sz z ps hs hps
      cases hf : fillS (fun i => some (i * esz, esz)) z ps with
      | none => rw [hf] at h; cases h
      | some out =>
        rw [hf] at h; cases h
        have := build_run (ρ := ρ) (hT _ _ hs) rfl w _ (hpp _ hps) (.inr ⟨n, esz, ag, rfl, hf⟩)
        simp only [execOp, Sem.run_bind, this, Result.andThen_ok, Sem.run_pure, SV.den]
    · cases h
  · -- len
    rename_i args ats
    split at h
    · rename_i x t hargs hats
      have e1 : args = #[x] := Array.toList_inj.1 (by simpa using hargs)
      have e2 : ats = #[t] := Array.toList_inj.1 (by simpa using hats)
      subst e1 e2
      split at h
      · rename_i id n cap e sz z hx hs
        cases h
        have hu := ti_slice (hT _ _ hs) rfl
        simp [execOp, resolve, invoke, builtin, Builtin.len_, opv_den ht hx, SV.den, run_ul hu, goInt, IE.ev]
      · rename_i e sz z hx hs
        cases h
        have hu := ti_slice (hT _ _ hs) rfl
        simp [execOp, resolve, invoke, builtin, Builtin.len_, opv_den ht hx, SV.den, run_ul hu, goInt, IE.ev]
      · rename_i n e sz z hx hs
        cases h
        have hu := ti_slice (hT _ _ hs) rfl
        have hp := hn _ rfl
        simp only [BE.ev] at hp
        revert hp
        unfold isSlice
        split
        · rename_i aa l c hv
          intro _
          simp [execOp, resolve, invoke, builtin, Builtin.len_, opv_den ht hx, SV.den, run_ul hu, goInt, IE.ev, hv, lenOf]
        · intro hp; cases hp
      · cases h
    · cases h
  · cases h
end
end Rx

namespace Rx
open Go

abbrev KV := St → SV → Tree
abbrev KE := Exit → St → TM → Tree
/-- Who is called: a function, or a round. -/
inductive Cle where
  | f (g : FuncId)
  | y (id : Nat)
abbrev CallF := Cle → List SV → St → TM → KV → Tree

def St.assume (st : St) (c : BE) (b : Bool) : St := { st with pc := (c, b) :: st.pc }

def newBlk (st : St) (tm : TM) (cells : List SV) (t : TypeId) (mk : Nat → SV) (k : KV) : Tree :=
  if st.sc tm && scL st.cnt cells && allOne cells then
    .new st.hp.length (k { st with hp := st.hp ++ [{ cells, t }] } (mk st.hp.length))
  else .stuck "newBlk" 

/-- One of several places, by a number. -/
def brIdx (e : IE) (mk : Nat → SV) (k : KV) : Nat → Nat → St → Tree
  | 0, _, _ => .bot
  | m + 1, j, st => .br (.cmp .eql e (.c j)) (k (st.assume (.cmp .eql e (.c j)) true) (mk j)) (brIdx e mk k m (j + 1) (st.assume (.cmp .eql e (.c j)) false))

/-- A map's rows, one by one. -/
def lookCh (e : IE) (mk : SV → Bool → SV) (z : SV) (k : KV) (st : St) : List (IntKind × Int) → List SV → Tree
  | p :: ks, c :: cs =>
    match look st.pc (mkcmp .eql e (.c p.2)) with
    | some true => k st (mk c true)
    | some false => lookCh e mk z k st ks cs
    | none => .br (mkcmp .eql e (.c p.2)) (k (st.assume (mkcmp .eql e (.c p.2)) true) (mk c true)) (lookCh e mk z k (st.assume (mkcmp .eql e (.c p.2)) false) ks cs)
  | _, _ => k st (mk z false)

def rangeCells (z : List SV) (n : Nat) : List SV := (List.range n).map fun j => (z[j % z.length]?).getD .undef

def callArgs (tm : TM) (f : SV) (args : List Operand) : Option (Cle × List SV) :=
  match f, opvs tm args with
  | .fn (.func g) first cap, some xs => some (.f g, first ++ xs ++ cap)
  | .yv id, some xs => some (.y id, xs)
  | _, _ => none

/-- Operations that leave memory alone. -/
def quietOp (C : Ctx) (st : St) (tm : TM) (o : Oper) (k : KV) : Tree :=
  match pureOp C st.pc tm o with
  | some (v, none) => k st v
  | some (v, some c) =>
    match look st.pc c with
    | some true => k st v
    | some false => .bot
    | none => .need c (k (st.assume c true) v)
  | none =>
  match loadOp C st.hp tm o with
  | some (v, _, _, _) => k st v
  | none =>
  match o.op with
  | .pick c a b =>
    match opv tm c, opv tm a, opv tm b with
    | some (.bool e), some va, some vb => .br e (k (st.assume e true) va) (k (st.assume e false) vb)
    | _, _, _ => .stuck o.pos
  | .load t x =>
    match opv tm x, C.T t with
    | some (.optr n off), some { d := d, size := sz, zero := some z } =>
      let r := freshL st.ni st.nb st.nv z
      if st.sc tm && decide (n < st.nv) && decide (z.length = sz) && (d.agg || decide (sz = 1)) then
        .ld st.hp.length (.optr n off) r.2.1 r.1 (k { st with ni := r.2.2.1, nb := r.2.2.2.1, nv := r.2.2.2.2 } (if d.agg then .agg r.1 else r.1.headD .undef))
      else .stuck o.pos
    | _, _ => .stuck o.pos
  | .call { callee := .builtin .max, args, .. } =>
    match args.toList with
    | [x, y] =>
      match opv tm x, opv tm y with
      | some (.int k1 a), some (.int k2 b) =>
        if k1 = k2 then .br (mkcmp .lss a b) (k (st.assume (mkcmp .lss a b) true) (.int k1 b)) (k (st.assume (mkcmp .lss a b) false) (.int k1 a)) else .stuck o.pos
      | _, _ => .stuck o.pos
    | _ => .stuck o.pos
  | .call { callee := .builtin .min, args, .. } =>
    match args.toList with
    | [x, y] =>
      match opv tm x, opv tm y with
      | some (.int k1 a), some (.int k2 b) =>
        if k1 = k2 then .br (mkcmp .lss b a) (k (st.assume (mkcmp .lss b a) true) (.int k1 b)) (k (st.assume (mkcmp .lss b a) false) (.int k1 a)) else .stuck o.pos
      | _, _ => .stuck o.pos
    | _ => .stuck o.pos
  | .indexAddr t x ix =>
    match opv tm x, opv tm ix, C.T t with
    | some (.sl id len _), some (.int _ e), some { d := .slice et, size := _, zero := _ } =>
      match C.T et with
      | some { size := sz, .. } =>
        match e with
        | .c i => if 0 ≤ i ∧ i < len then k st (.ptr id (i.toNat * sz)) else .stuck o.pos
        | e => brIdx e (fun j => .ptr id (j * sz)) k len 0 st
      | none => .stuck o.pos
    | some (.ptr id off), some (.int _ e), some { d := .arr n sz _, .. } =>
        match e with
        | .c i => if 0 ≤ i ∧ i < n then k st (.ptr id (off + i.toNat * sz)) else .stuck o.pos
        | e => brIdx e (fun j => .ptr id (off + j * sz)) k n 0 st
    | some (.val n), some (.int _ e), some { d := .slice et, .. } =>
      match C.T et with
      | some { size := sz, .. } =>
        if st.sc tm && decide (n < st.nv) && e.sc st.cnt then
          .idx n e sz st.nv (k { st with nv := st.nv + 1 } (.optr st.nv 0))
        else .stuck o.pos
      | none => .stuck o.pos
    | _, _, _ => .stuck o.pos
  | .index t x ix =>
    match opv tm x, opv tm ix, C.T t with
    | some (.agg l), some (.int _ e), some { d := .arr n 1 false, .. } =>
      if l.length = n then
        match e with
        | .c i => if 0 ≤ i ∧ i < n then k st ((l[i.toNat]?).getD .undef) else .stuck o.pos
        | e => brIdx e (fun j => (l[j]?).getD .undef) k n 0 st
      else .stuck o.pos
    | _, _, _ => .stuck o.pos
  | _ => .stuck o.pos
def isQ : Op → Bool
  | .move _ | .assign _ | .pick .. | .nilCheck _ | .fieldAddr .. | .field .. | .binOp .. | .unOp .. | .convert .. | .extract .. | .makeFunc .. | .build .. | .load .. | .indexAddr .. | .index .. => true
  | .call { callee := .builtin .len, .. } => true
  | .call { callee := .builtin .max, .. } => true
  | .call { callee := .builtin .min, .. } => true
  | _ => false

def effOp (C : Ctx) (callF : CallF) (st : St) (tm : TM) (o : Oper) (k : KV) : Tree :=
  match o.op with
  | .alloc t =>
    match C.T t with
    | some { zero := some z, .. } => newBlk st tm z t (fun id => .ptr id 0) k
    | _ => .stuck o.pos
  | .box t x =>
    match opv tm x with
    | some v => newBlk st tm v.cells t (fun id => .ptr id 0) k
    | none => .stuck o.pos
  | .store t p x =>
    match opv tm p, opv tm x, C.T t with
    | some (.ptr id off), some v, some ti =>
      match st.hp[id]? with
      | some blk =>
        if blk.keys = none ∧ v.cells.length = ti.size ∧ off + ti.size ≤ blk.cells.length ∧ allOne v.cells = true then
          k { st with hp := st.hp.set id { cells := splice blk.cells off v.cells, t := blk.t }, log := (id, off, ti.size) :: st.log } .undef
        else .stuck o.pos
      | none => .stuck o.pos
    | some (.optr n off), some v, some ti =>
      if v.cells.length = ti.size ∧ allOne v.cells = true then .sto st.hp.length (.optr n off) v.cells (k st .undef)
      else .stuck o.pos
    | _, _, _ => .stuck o.pos
  | .makeSlice t l c =>
    match opv tm l, opv tm c with
    | some x, some y =>
      if st.sc tm then .sem (.mks t) [x, y] st.hp st.nv (k { st with nv := st.nv + 1 } (.val st.nv)) else .stuck o.pos
    | _, _ => .stuck o.pos
  | .slice t x lo hi mx =>
    match opv tm x, opvs tm (lo.toList ++ hi.toList ++ mx.toList) with
    | some x, some xs =>
      if st.sc tm then .sem (.slice t lo.isSome hi.isSome mx.isSome) (x :: xs) st.hp st.nv (k { st with nv := st.nv + 1 } (.val st.nv)) else .stuck o.pos
    | _, _ => .stuck o.pos
  | .makeMap _ none =>
    if st.sc tm then .new st.hp.length (k { st with hp := st.hp ++ [{ cells := [], t := 0, keys := some (.map []) }] } (.map st.hp.length))
    else .stuck o.pos
  | .insert t m x v =>
    match opv tm m, opv tm x, opv tm v, C.T t with
    | some (.map id), some (.int kk (.c n)), some v, some { d := .map kt _, .. } =>
      match st.hp[id]? with
      | some { cells := cs, t := tt, keys := some (.map ks) } =>
        if kt = kk ∧ cs.length = ks.length ∧ v.one = true ∧ (ks.all fun p => decide (p.1 = kk) && decide (p.2 ≠ n)) = true then
          k { st with hp := st.hp.set id { cells := cs ++ [v], t := tt, keys := some (.map (ks ++ [(kk, n)])) } } .undef
        else .stuck o.pos
      | _ => .stuck o.pos
    | _, _, _, _ => .stuck o.pos
  | .lookup t m x ok =>
    match opv tm m, opv tm x, C.T t with
    | some (.map id), some (.int kk e), some { d := .map kt et, .. } =>
      match st.hp[id]?, C.T et with
      | some { cells := cs, t := _, keys := some (.map ks) }, some { d := etd, zero := some [z], .. } =>
        if etd.agg = false ∧ kt = kk ∧ cs.length = ks.length ∧ (ks.all fun p => decide (p.1 = kk)) = true then
          lookCh e (fun v b => if ok then .tup [v, .bool (.c b)] else v) z k st ks cs
        else .stuck o.pos
      | _, _ => .stuck o.pos
    | _, _, _ => .stuck o.pos
  | .buildSlice t len parts =>
    match C.T t, partsv tm parts.toList with
    | some { d := .slice e, .. }, some ps =>
      match C.T e with
      | some { size := sz, zero := some z, .. } =>
        if sz ≠ 0 ∧ z.length = sz ∧ len * sz ≤ 1000 then
          match fillS (fun i => some (i * sz, sz)) (rangeCells z (len * sz)) ps with
          | some cells => newBlk st tm cells e (fun id => .sl id len len) k
          | none => .stuck o.pos
        else .stuck o.pos
      | _ => .stuck o.pos
    | _, _ => .stuck o.pos
  | .call { callee := .value f, args, .. } =>
    match opv tm f with
    | some fv =>
      match callArgs tm fv args.toList with
      | some (g, xs) => callF g xs st tm k
      | none => .stuck o.pos
    | none => .stuck o.pos
  | .call { callee := .builtin .append, args, argTypes } =>
    match opvs tm args.toList with
    | some [x, y] =>
      if st.sc tm then
        .sem (.append argTypes o.type) [x, y] st.hp st.nv (k { st with nv := st.nv + 1 } (.val st.nv))
      else .stuck o.pos
    | _ => .stuck o.pos
  | _ => .stuck o.pos

def stepOp (C : Ctx) (callF : CallF) (st : St) (tm : TM) (o : Oper) (k : KV) : Tree :=
  if isQ o.op then quietOp C st tm o k else effOp C callF st tm o k

/-- Is an operation to be carried out? -/
inductive Gd where
  | yes
  | no
  | ask (c : BE) (want : Bool)
  | lost
def guardOf (ops : Array Oper) (pc : List (BE × Bool)) (tm : TM) (o : Oper) : Gd :=
  match o.guard with
  | none => .yes
  | some (g, want) =>
    match (ops[g]?).bind (·.dst) with
    | none => .lost
    | some d =>
      match tm.get? d with
      | some (.bool c) =>
        match look pc c with
        | some b => if b = want then .yes else .no
        | none => .ask c want
      | some .undef => .no
      | _ => .lost

def runOps (C : Ctx) (callF : CallF) (ops : Array Oper) : List Oper → St → TM → (St → TM → Tree) → Tree
  | [], st, tm, k => k st tm
  | o :: rest, st, tm, k =>
    match guardOf ops st.pc tm o with
    | .yes => stepOp C callF st tm o fun st' v => runOps C callF ops rest st' (put tm o.dst v) k
    | .no => runOps C callF ops rest st (put tm o.dst .undef) k
    | .ask c want =>
      let t := stepOp C callF (st.assume c want) tm o (fun st' v => runOps C callF ops rest st' (put tm o.dst v) k)
      let t' := runOps C callF ops rest (st.assume c (!want)) (put tm o.dst .undef) k
      if want then .br c t t' else .br c t' t
    | .lost => .stuck o.pos

/-! ### a region of open order -/
/-- A read that must not be turned: which operation, where. -/
structure Rd where
  i : Nat
  id : Nat
  off : Nat
  n : Nat
  deriving Repr

/-- What may be taken first: nothing that hangs on memory, or (ahead of all effects) a read of known cells. -/
def takeOne (C : Ctx) (ops : Array Oper) (T : List Nat) (rd : Bool) (st : St) (fr : Nat → Bool) (tm : TM) : List Nat → Option (Nat × Oper × SV × Option Rd)
  | [] => none
  | i :: r =>
    match ops[i]? with
    | none => none
    | some o =>
      if !T.contains i && fr i then
        match guardOf ops st.pc tm o with
        | .yes =>
          match pureOp C st.pc tm o with
          | some (v, none) => some (i, o, v, none)
          | some (v, some c) => if look st.pc c = some true then some (i, o, v, none) else takeOne C ops T rd st fr tm r
          | none =>
            if rd then
              match loadOp C st.hp tm o with
              | some (v, id, off, n) => some (i, o, v, some ⟨i, id, off, n⟩)
              | none => takeOne C ops T rd st fr tm r
            else takeOne C ops T rd st fr tm r
        | .no => some (i, o, .undef, none)
        | _ => takeOne C ops T rd st fr tm r
      else takeOne C ops T rd st fr tm r

/-- All that may be taken first, ahead of all effects. -/
def phaseA (C : Ctx) (ops : Array Oper) (T : List Nat) (st : St) : Nat → Array Bool → TM → List Rd → Nat × Array Bool × TM × List Rd
  | 0, listed, tm, rds => (0, listed, tm, rds)
  | n + 1, listed, tm, rds =>
    match takeOne C ops T true st (Region.free .any ops listed) tm (Region.ready .any ops listed) with
    | some (i, o, v, rd) => phaseA C ops T st n (listed.setIfInBounds i true) (put tm o.dst v) (rd.toList ++ rds)
    | none => (n + 1, listed, tm, rds)

def rdKept (log : List (Nat × Nat × Nat)) (r : Rd) : Bool :=
  log.all fun l => l.1 != r.id || decide (l.2.1 + l.2.2 ≤ r.off) || decide (r.off + r.n ≤ l.2.1)
def rdsKept (log : List (Nat × Nat × Nat)) (rds : List Rd) : Bool := rds.all fun r => rdKept log r
/-- Of each operation, all that it waits for, as bits. -/
def bitsFrom (o : Oper) (acc : List Nat) : Nat := o.after.toList.foldl (fun m e => if Region.binds .any e then m ||| (1 <<< e.on) ||| acc.getD e.on 0 else m) 0
def bitsOf : List Oper → List Nat → List Nat
  | [], acc => acc
  | o :: r, acc => bitsOf r (acc ++ [bitsFrom o acc])
def isStore (o : Oper) : Bool := match o.op with | .store .. => true | _ => false
def isLoad (o : Oper) : Bool := match o.op with | .load .. => true | _ => false
/-- The stores, if each waits for all reads. -/
def lastOnes (ops : Array Oper) : List Nat :=
  let B := bitsOf ops.toList []
  let T := (List.range ops.size).filter fun d => ((ops[d]?).map isStore).getD false
  if T.all (fun d => (List.range ops.size).all fun i => !(((ops[i]?).map isLoad).getD false) || (B.getD d 0).testBit i) then T else []

/-- Each of several, as the next one. -/
def eachOf (f : Nat → Tree) : List Nat → Tree
  | [] => .stuck "eachOf"
  | [i] => f i
  | i :: r => .both (f i) (eachOf f r)
/-- Both ways of each guard that is open. -/
def guardsF (ops : Array Oper) (tm : TM) : List Nat → St → (St → Tree) → Tree
  | [], st, k => k st
  | i :: r, st, k =>
    match ops[i]? with
    | none => guardsF ops tm r st k
    | some o =>
      match guardOf ops st.pc tm o with
      | .ask c _ => .br c (guardsF ops tm r (st.assume c true) k) (guardsF ops tm r (st.assume c false) k)
      | _ => guardsF ops tm r st k
/-- A quiet one that does not hang on memory. -/
def takeQ (ops : Array Oper) (T : List Nat) (st : St) (fr : Nat → Bool) (tm : TM) : List Nat → Option (Nat × Oper)
  | [] => none
  | i :: r =>
    match ops[i]? with
    | none => none
    | some o =>
      if !T.contains i && fr i && isQ o.op && !isLoad o then
        match guardOf ops st.pc tm o with
        | .yes => some (i, o)
        | _ => takeQ ops T st fr tm r
      else takeQ ops T st fr tm r
def leftOf (ops : Array Oper) (listed : Array Bool) : List Nat := (List.range ops.size).filter fun i => !(listed.getD i true)
/-- Quiet operations, in the text's order. -/
def runRest (C : Ctx) (ops : Array Oper) : List Nat → Array Bool → St → TM → (St → TM → Tree) → Tree
  | [], listed, st, tm, k => if Region.ready .any ops listed = [] then k st tm else .stuck "runRest"
  | i :: rest, listed, st, tm, k =>
    match ops[i]? with
    | none => .stuck "runRest"
    | some o =>
    if (Region.ready .any ops listed).contains i && Region.free .any ops listed i then
      match guardOf ops st.pc tm o with
      | .yes => quietOp C st tm o fun st' v => runRest C ops rest (listed.setIfInBounds i true) st' (put tm o.dst v) k
      | .no => runRest C ops rest (listed.setIfInBounds i true) st (put tm o.dst .undef) k
      | .ask c want =>
        let t := quietOp C (st.assume c want) tm o (fun st' v => runRest C ops rest (listed.setIfInBounds i true) st' (put tm o.dst v) k)
        let t' := runRest C ops rest (listed.setIfInBounds i true) (st.assume c (!want)) (put tm o.dst .undef) k
        if want then .br c t t' else .br c t' t
      | .lost => .stuck o.pos
    else .stuck ("quiet: " ++ o.pos)

def phaseB (C : Ctx) (callF : CallF) (ops : Array Oper) (T : List Nat) (rds : List Rd) : Nat → Array Bool → St → TM → (St → TM → Tree) → Tree
  | 0, listed, st, tm, k => if Region.ready .any ops listed = [] then k st tm else .stuck "phaseB"
  | n + 1, listed, st, tm, k =>
    if Region.ready .any ops listed = [] then k st tm else
    match takeOne C ops T false st (Region.free .any ops listed) tm (Region.ready .any ops listed) with
    | some (i, o, v, _) => phaseB C callF ops T rds n (listed.setIfInBounds i true) st (put tm o.dst v) k
    | none =>
    guardsF ops tm (Region.ready .any ops listed) st fun st =>
    match takeOne C ops T false st (Region.free .any ops listed) tm (Region.ready .any ops listed) with
    | some (i, o, v, _) => phaseB C callF ops T rds n (listed.setIfInBounds i true) st (put tm o.dst v) k
    | none =>
    match takeQ ops T st (Region.free .any ops listed) tm (Region.ready .any ops listed) with
    | some (i, o) => quietOp C st tm o fun st' v => phaseB C callF ops T rds n (listed.setIfInBounds i true) st' (put tm o.dst v) k
    | none =>
      if (leftOf ops listed).all (fun i => ((ops[i]?).map fun o => isQ o.op).getD false) && decide ((leftOf ops listed).length ≤ n + 1) then
        runRest C ops (leftOf ops listed) listed st tm k
      else
      eachOf (fun i =>
        match ops[i]? with
        | none => .stuck "phaseB"
        | some o =>
          match guardOf ops st.pc tm o with
          | .yes => stepOp C callF st tm o fun st' v =>
              if T.contains i || rdsKept st'.log rds then phaseB C callF ops T rds n (listed.setIfInBounds i true) st' (put tm o.dst v) k else .stuck ("a read is turned: " ++ o.pos)
          | .no => phaseB C callF ops T rds n (listed.setIfInBounds i true) st (put tm o.dst .undef) k
          | .ask c want =>
            let t := stepOp C callF (st.assume c want) tm o (fun st' v =>
              if T.contains i || rdsKept st'.log rds then phaseB C callF ops T rds n (listed.setIfInBounds i true) st' (put tm o.dst v) k else .stuck ("a read is turned: " ++ o.pos))
            let t' := phaseB C callF ops T rds n (listed.setIfInBounds i true) (st.assume c (!want)) (put tm o.dst .undef) k
            if want then .br c t t' else .br c t' t
          | .lost => .stuck ("a guard: " ++ o.pos)) (Region.ready .any ops listed)

/-! ### the same, by bits: what the kernel reckons -/
/-- A number, reckoned. -/
def forceN {α : Type} (n : Nat) (k : Nat → α) : α := match n with
  | 0 => k 0
  | m + 1 => k (m + 1)
theorem forceN_eq {α : Type} (n : Nat) (k : Nat → α) : forceN n k = k n := by cases n <;> rfl
/-- A list, reckoned. -/
def forceL {α β : Type} : List α → (List α → β) → β
  | [], k => k []
  | x :: r, k => forceL r fun r => k (x :: r)
theorem forceL_eq {α β : Type} : ∀ (l : List α) (k : List α → β), forceL l k = k l
  | [], _ => rfl
  | x :: r, k => by rw [forceL, forceL_eq r]
def afterM (o : Oper) : Nat := o.after.toList.foldl (fun m e => if Region.binds .any e then m ||| (1 <<< e.on) else m) 0
def meets (ops : Array Oper) (i : Nat) (oi : Oper) (j : Nat) : Bool := !(j == i || match ops[j]? with
  | some oj => oj.after.any (fun e => Region.binds .any e && e.on == i) || oi.apart ops oj
  | none => true)
def confM (ops : Array Oper) (i : Nat) (oi : Oper) : Nat := (List.range ops.size).foldl (fun m j => if meets ops i oi j then m ||| (1 <<< j) else m) 0
/-- Of each operation: which it waits for, which it must not pass. -/
def tabsOf (ops : Array Oper) : List (Nat × Nat) := (List.range ops.size).map fun i => match ops[i]? with
  | some o => (afterM o, confM ops i o)
  | none => (0, 0)
def readyM (ops : Array Oper) (m : Nat) : List Nat := (List.range ops.size).filter fun i => !m.testBit i && match (tabsOf ops)[i]? with
  | some t => t.1 &&& m == t.1
  | none => false
def freeM (ops : Array Oper) (m : Nat) (i : Nat) : Bool := match (tabsOf ops)[i]? with
  | some t => t.2 &&& m == t.2
  | none => false
def leftM (ops : Array Oper) (m : Nat) : List Nat := (List.range ops.size).filter fun i => !m.testBit i
def phaseAM (C : Ctx) (ops : Array Oper) (T : List Nat) (st : St) : Nat → Nat → TM → List Rd → (Nat → Nat → TM → List Rd → Tree) → Tree
  | 0, m, tm, rds, k => k 0 m tm rds
  | n + 1, m, tm, rds, k =>
    match takeOne C ops T true st (freeM ops m) tm (readyM ops m) with
    | some (i, o, v, rd) => forceN (m ||| (1 <<< i)) fun m => phaseAM C ops T st n m (put tm o.dst v) (rd.toList ++ rds) k
    | none => k (n + 1) m tm rds
def runRestM (C : Ctx) (ops : Array Oper) : List Nat → Nat → St → TM → (St → TM → Tree) → Tree
  | [], m, st, tm, k => if readyM ops m = [] then k st tm else .stuck "runRest"
  | i :: rest, m, st, tm, k =>
    match ops[i]? with
    | none => .stuck "runRest"
    | some o =>
    if (readyM ops m).contains i && freeM ops m i then
      forceN (m ||| (1 <<< i)) fun m =>
      match guardOf ops st.pc tm o with
      | .yes => quietOp C st tm o fun st' v => runRestM C ops rest m st' (put tm o.dst v) k
      | .no => runRestM C ops rest m st (put tm o.dst .undef) k
      | .ask c want =>
        let t := quietOp C (st.assume c want) tm o (fun st' v => runRestM C ops rest m st' (put tm o.dst v) k)
        let t' := runRestM C ops rest m (st.assume c (!want)) (put tm o.dst .undef) k
        if want then .br c t t' else .br c t' t
      | .lost => .stuck o.pos
    else .stuck ("quiet: " ++ o.pos)
def phaseBM (C : Ctx) (callF : CallF) (ops : Array Oper) (T : List Nat) (rds : List Rd) : Nat → Nat → St → TM → (St → TM → Tree) → Tree
  | 0, m, st, tm, k => if readyM ops m = [] then k st tm else .stuck "phaseB"
  | n + 1, m, st, tm, k =>
    forceL (readyM ops m) fun R =>
    if R = [] then k st tm else
    match takeOne C ops T false st (freeM ops m) tm R with
    | some (i, o, v, _) => forceN (m ||| (1 <<< i)) fun m => phaseBM C callF ops T rds n m st (put tm o.dst v) k
    | none =>
    guardsF ops tm R st fun st =>
    match takeOne C ops T false st (freeM ops m) tm R with
    | some (i, o, v, _) => forceN (m ||| (1 <<< i)) fun m => phaseBM C callF ops T rds n m st (put tm o.dst v) k
    | none =>
    match takeQ ops T st (freeM ops m) tm R with
    | some (i, o) => forceN (m ||| (1 <<< i)) fun m => quietOp C st tm o fun st' v => phaseBM C callF ops T rds n m st' (put tm o.dst v) k
    | none =>
      if (leftM ops m).all (fun i => ((ops[i]?).map fun o => isQ o.op).getD false) && decide ((leftM ops m).length ≤ n + 1) then
        runRestM C ops (leftM ops m) m st tm k
      else
      eachOf (fun i =>
        match ops[i]? with
        | none => .stuck "phaseB"
        | some o =>
          forceN (m ||| (1 <<< i)) fun m =>
          match guardOf ops st.pc tm o with
          | .yes => stepOp C callF st tm o fun st' v =>
              if T.contains i || rdsKept st'.log rds then phaseBM C callF ops T rds n m st' (put tm o.dst v) k else .stuck ("a read is turned: " ++ o.pos)
          | .no => phaseBM C callF ops T rds n m st (put tm o.dst .undef) k
          | .ask c want =>
            let t := stepOp C callF (st.assume c want) tm o (fun st' v =>
              if T.contains i || rdsKept st'.log rds then phaseBM C callF ops T rds n m st' (put tm o.dst v) k else .stuck ("a read is turned: " ++ o.pos))
            let t' := phaseBM C callF ops T rds n m (st.assume c (!want)) (put tm o.dst .undef) k
            if want then .br c t t' else .br c t' t
          | .lost => .stuck ("a guard: " ++ o.pos)) R

def noDef (ops : Array Oper) : Bool := ops.all fun o => match o.op with | .defer _ => false | _ => true

def runDraw (C : Ctx) (callF : CallF) (ops : Array Oper) (st : St) (tm : TM) (k : St → TM → Tree) : Tree :=
  if Region.noSelect ops && noDef ops then
    if ops.all (fun o => isQ o.op) then runRestM C ops (List.range ops.size) 0 st tm k
    else
      let st0 := { st with log := [] }
      phaseAM C ops (lastOnes ops) st0 ops.size 0 tm [] fun n m tm rds =>
      phaseBM C callF ops (lastOnes ops) rds n m st0 tm fun st' tm' => k { st' with log := st'.log ++ st.log } tm'
  else .stuck "select"

/-! ### code -/
def resOne (C : Ctx) (st : St) (tm : TM) : ResultVar → Option SV
  | .tmp t => some (tm.get t)
  | .cell a t =>
    match tm.get? a, C.T t with
    | some (.ptr id off), some ti =>
      match st.hp[id]? with
      | some blk =>
        if blk.keys = none ∧ off + ti.size ≤ blk.cells.length then
          if ti.d.agg then some (.agg ((blk.cells.drop off).take ti.size))
          else if ti.size = 1 then blk.cells[off]? else none
        else none
      | none => none
    | _, _ => none
def resAll (C : Ctx) (st : St) (tm : TM) : List ResultVar → Option (List SV)
  | [] => some []
  | x :: r => match resOne C st tm x, resAll C st tm r with
    | some a, some b => some (a :: b)
    | _, _ => none
def resSV (C : Ctx) (fn : Func) (st : St) (tm : TM) : Option SV :=
  match resAll C st tm fn.results.toList with
  | some [v] => some v
  | some l => some (.tup l)
  | none => none

/-! ### ranges over functions -/
def setMany (tm : TM) : List (Tmp × SV) → TM
  | [] => tm
  | p :: r => setMany (tm.set p.1 p.2) r
def setKeys (hp : List Blk) (id : Nat) (k : Ks) : List Blk := hp.set id { cells := [], t := 0, keys := some k }
/-- Marks' blocks are shut. -/
def shut (hp : List Blk) : List Nat → List Blk
  | [] => hp
  | d :: r => shut (setKeys hp d (.dfr false)) r
def dfrAt (hp : List Blk) (d : Nat) : Bool :=
  match hp[d]? with
  | some { cells := [], t := _, keys := some (.dfr true) } => true
  | _ => false
def opens (hp : List Blk) : List Nat → Bool
  | [] => true
  | d :: r => dfrAt hp d && opens (setKeys hp d (.dfr false)) r
def lpAt (hp : List Blk) (id : Nat) : Option (LoopState × Option Jp) :=
  match hp[id]? with
  | some { cells := [], t := _, keys := some (.lp self s p) } => if self = id then some (s, p) else none
  | _ => none
def roundEnd : Exit → Option (LoopState × Option Jp × Bool)
  | .normal => some (.ready, none, true)
  | .ret => some (.done, some .ret, false)
  | .exit n => some (.done, some (.exit n), false)
  | .goto n => some (.done, some (.goto n), false)
  | _ => none
def jpK (k : KE) (st : St) (tm : TM) : Option Jp → Tree
  | none => k .normal st tm
  | some .ret => k .ret st tm
  | some (.exit n) => k (.exit n) st tm
  | some (.goto n) => k (.goto n) st tm

def doCall (C : Ctx) (inl : Code → St → TM → KE → Tree) : CallF := fun c args st tm k =>
  match c with
  | .y id =>
    match st.ri.find? (fun x => x.id == id), lpAt st.hp id with
    | some r, some (.ready, _) =>
      if args.length = r.ps.size ∧ st.sc tm = true then
        inl r.assign { st with stack := tm :: st.stack, df := [], rd := true } (setMany r.tm (r.ps.toList.zip args)) fun ex st1 tm1 =>
          match ex, lpAt st1.hp id with
          | .normal, some (.ready, p) =>
            inl r.body { st1 with hp := setKeys st1.hp id (.lp id .busy p) } tm1 fun ex st2 _ =>
              match roundEnd ex, lpAt st2.hp id with
              | some (s, p, b), some _ => k { st2 with hp := setKeys st2.hp id (.lp id s p), stack := st2.stack.tail, df := st.df, rd := st.rd } (.bool (.c b))
              | _, _ => .stuck "round: end"
          | _, _ => .stuck "round: assign"
      else .stuck "round: variables"
    | _, _ => .stuck "round"
  | .f f =>
  match C.F f with
  | none => .stuck "no function"
  | some fn =>
    match C.sig f with
    | some tmpl =>
      let r := freshSV st.ni st.nb st.nv tmpl
      if st.sc tm then
        .call st.hp f args r.2.1 r.1 (k { st with ni := r.2.2.1, nb := r.2.2.2.1, nv := r.2.2.2.2 } r.1)
      else .stuck "call: variables"
    | none =>
      match fn.body with
      | none => .stuck fn.name
      | some body =>
        if dfSc st.hp.length st.df then
        inl body { st with stack := tm :: st.stack, df := [], rd := false } (TM.start args fn.ntmps) fun ex st' tm' =>
          match ex with
          | .normal | .ret =>
            if opens st'.hp st'.df then
            match resSV C fn { st' with hp := shut st'.hp st'.df } tm' with
            | some v => k { st' with hp := shut st'.hp st'.df, stack := st'.stack.tail, df := st.df, rd := st.rd } v
            | none => .stuck ("results: " ++ fn.name)
            else .stuck ("marks: " ++ fn.name)
          | _ => .stuck ("exit: " ++ fn.name)
        else .stuck "call: marks" 

/-! ### loops: what a round may turn is a new variable -/
structure Ct where
  i : Nat
  b : Nat
  v : Nat
  g : Nat
structure Gen (α : Type) where
  x : α
  fv : List Fv
  ini : List SV
  c : Ct
mutual
def gen (c : Ct) : SV → Gen SV
  | .int k e => ⟨.int k (.v c.i), [.i c.i], [.int k e], { c with i := c.i + 1 }⟩
  | .bool e => ⟨.bool (.v c.b), [.b c.b], [.bool e], { c with b := c.b + 1 }⟩
  | .agg l => let r := genL c l; ⟨.agg r.x, r.fv, r.ini, r.c⟩
  | .undef => ⟨.gb c.g, [.g c.g], [.undef], { c with g := c.g + 1 }⟩
  | .tup l => ⟨.gb c.g, [.g c.g], [.tup l], { c with g := c.g + 1 }⟩
  | .gb n => ⟨.gb c.g, [.g c.g], [.gb n], { c with g := c.g + 1 }⟩
  | s => ⟨.val c.v, [.v c.v], [s], { c with v := c.v + 1 }⟩
def genL (c : Ct) : List SV → Gen (List SV)
  | [] => ⟨[], [], [], c⟩
  | x :: r =>
    let a := gen c x
    let b := genL a.c r
    ⟨a.x :: b.x, a.fv ++ b.fv, a.ini ++ b.ini, b.c⟩
end
/-- Those whose place is picked. -/
def genAt (p : Nat → Bool) (c : Ct) : Nat → List SV → Gen (List SV)
  | _, [] => ⟨[], [], [], c⟩
  | j, x :: r =>
    let a := if p j then gen c x else ⟨x, [], [], c⟩
    let b := genAt p a.c (j + 1) r
    ⟨a.x :: b.x, a.fv ++ b.fv, a.ini ++ b.ini, b.c⟩
def genHp (p : Nat → Nat → Bool) (c : Ct) : Nat → List Blk → Gen (List Blk)
  | _, [] => ⟨[], [], [], c⟩
  | j, x :: r =>
    let a := if x.keys.isNone then genAt (p j) c 0 x.cells else ⟨x.cells, [], [], c⟩
    let b := genHp p a.c (j + 1) r
    ⟨{ x with cells := a.x } :: b.x, a.fv ++ b.fv, a.ini ++ b.ini, b.c⟩
/-! What the new variables are, where a state is to fit another one. -/
/-- Is it a new variable? -/
def isNew (b : Cnt) : SV → Bool
  | .int _ (.v i) => decide (b.i ≤ i)
  | .bool (.v i) => decide (b.b ≤ i)
  | .val n => decide (b.v ≤ n)
  | .gb n => decide (b.g ≤ n)
  | _ => false
/-- May it become this? -/
def takes : SV → SV → Bool
  | .int k _, .int k' _ => decide (k = k')
  | .bool _, .bool _ => true
  | .val _, y => y.one
  | .gb _, _ => true
  | _, _ => false
mutual
def mt (b : Cnt) : SV → SV → Option (List SV)
  | .agg l, .agg l' => mtL b l l'
  | x, y => if isNew b x then (if takes x y then some [y] else none) else if x.eqb y && x.sc b then some [] else none
def mtL (b : Cnt) : List SV → List SV → Option (List SV)
  | [], [] => some []
  | x :: r, y :: s => match mt b x y, mtL b r s with
    | some p, some q => some (p ++ q)
    | _, _ => none
  | _, _ => none
end
def mtH (b : Cnt) : List Blk → List Blk → Option (List SV)
  | [], [] => some []
  | x :: r, y :: s => if x.t = y.t ∧ x.keys = y.keys then (match mtL b x.cells y.cells, mtH b r s with
    | some p, some q => some (p ++ q)
    | _, _ => none) else none
  | _, _ => none
def dstsO : List Oper → List Nat
  | [] => []
  | o :: r => match o.dst with
    | some d => d :: dstsO r
    | none => dstsO r
def dstsC : Code → List Nat
  | .region _ ops _ => dstsO ops.toList
  | .seq a b => dstsC a ++ dstsC b
  | .cond _ a b => dstsC a ++ dstsC b
  | .block _ a => dstsC a
  | .loop a => dstsC a
  | .scope a => dstsC a
  | _ => []

/-- Behind a scope's code: jumps to its labels. -/
def scopeK (ex : Code → St → TM → KE → Tree) (body : Code) : Nat → KE → KE
  | 0, k => fun e st tm => match e with
    | .goto _ => .stuck "goto"
    | e => k e st tm
  | m + 1, k => fun e st tm => match e with
    | .goto l => match findLabel body l with
      | some rest => ex rest st tm (scopeK ex body m k)
      | none => k (.goto l) st tm
    | e => k e st tm

def execC (C : Ctx) : Nat → Code → St → TM → KE → Tree
  | 0, _, _, _, _ => .stuck "fuel"
  | n + 1, c, st, tm, k =>
    match c with
    | .skip => k .normal st tm
    | .label _ => k .normal st tm
    | .region _ ops false => if noDef ops then runOps C (doCall C (execC C n)) ops ops.toList st tm (k .normal) else .stuck "defer"
    | .region _ ops true => runDraw C (doCall C (execC C n)) ops st tm (k .normal)
    | .seq a b => execC C n a st tm fun ex st' tm' =>
        match ex with
        | .normal => execC C n b st' tm' k
        | ex => k ex st' tm'
    | .cond c a b =>
      match opv tm c with
      | some (.bool e) =>
        match look st.pc e with
        | some true => execC C n a st tm k
        | some false => execC C n b st tm k
        | none => .br e (execC C n a (st.assume e true) tm k) (execC C n b (st.assume e false) tm k)
      | _ => .stuck "cond" 
    | .block id body => execC C n body st tm fun ex st' tm' =>
        match ex with
        | .exit id' => if id' = id then k .normal st' tm' else k (.exit id') st' tm'
        | ex => k ex st' tm'
    | .loop body =>
      let ms := dstsC body
      if C.un ms then execC C n body st tm fun ex st' tm' =>
        match ex with
        | .normal => execC C n (.loop body) st' tm' k
        | ex => k ex st' tm'
      else
        let H := C.lp ms
        let r1 := genAt (fun j => ms.contains j) ⟨st.ni, st.nb, st.nv, st.ng⟩ 0 tm.list
        let r2 := genHp (fun id off => H.contains (id, off)) r1.c 0 st.hp
        if st.sc tm then
          .loop (r1.fv ++ r2.fv) (r1.ini ++ r2.ini) st.hp.length
            (execC C n body { st with hp := r2.x, ni := r2.c.i, nb := r2.c.b, nv := r2.c.v, ng := r2.c.g, lv := st.lv + 1, log := H.map (fun p => (p.1, p.2, 1)) ++ st.log } (TM.ofL r1.x) fun ex st' tm' =>
              match ex with
              | .normal =>
                if st'.df = st.df then
                match mtL st.cnt r1.x tm'.list, mtH st.cnt r2.x (st'.hp.take st.hp.length) with
                | some x, some y => .cont st.lv st'.hp.length (x ++ y)
                | none, _ => .stuck ("loop: slots " ++ toString ms)
                | _, none => .stuck ("loop: cells " ++ toString ms ++ "|" ++ toString st'.log ++ "|" ++ toString st.hp.length)
                else .stuck "loop: marks" 
              | ex => k ex st' tm')
        else .stuck "loop: variables"
    | .exit id => k (.exit id) st tm
    | .goto l => k (.goto l) st tm
    | .ret => k .ret st tm
    | .scope body => execC C n body st tm (scopeK (execC C n) body n k)
    | .rangeFunc g ps assign body =>
      if st.rd then .stuck "range in a round" else
      match opv tm g with
      | some (.fn (.func f) first cap) =>
        match C.F f with
        | none => .stuck "no function"
        | some fn =>
          match fn.body with
          | none => .stuck fn.name
          | some bd =>
            if st.sc tm then
              .new st.hp.length (.newf (st.hp.length + 1)
                (execC C n bd { st with hp := st.hp ++ [{ cells := [], t := 0, keys := some (.dfr true) }, { cells := [], t := 0, keys := some (.lp (st.hp.length + 1) .ready none) }], stack := tm :: st.stack, df := [], rd := false, ri := ⟨st.hp.length + 1, tm, ps, assign, body⟩ :: st.ri }
                  (TM.start (first ++ [SV.yv (st.hp.length + 1)] ++ cap) fn.ntmps) fun ex st' tm' =>
                  match ex with
                  | .normal | .ret =>
                    if opens st'.hp st'.df then
                    match resSV C fn { st' with hp := shut st'.hp st'.df } tm', lpAt (shut st'.hp st'.df) (st.hp.length + 1) with
                    | some _, some (s, p) =>
                      if s = .busy then .stuck "range: busy" else
                      jpK k { st' with hp := setKeys (shut st'.hp st'.df) (st.hp.length + 1) (.lp (st.hp.length + 1) .exhausted p), stack := st'.stack.tail, df := st.hp.length :: st.df, rd := st.rd } tm p
                    | _, _ => .stuck "range: end"
                    else .stuck "range: marks"
                  | _ => .stuck "range: exit"))
            else .stuck "range: variables"
      | _ => .stuck "range: function"
    | _ => .stuck "code" 

/-- A function's run, from the start; of the first n blocks it tells what they hold. -/
def runF (C : Ctx) (n keep : Nat) (fn : Func) (st : St) (args : List SV) : Tree :=
  match fn.body with
  | none => .stuck "no body"
  | some body =>
    execC C n body st (TM.start args fn.ntmps) fun ex st' tm' =>
      match ex with
      | .normal | .ret =>
        if opens st'.hp st'.df then
        match resSV C fn { st' with hp := shut st'.hp st'.df } tm' with
        | some v => .ret st'.hp.length v ((shut st'.hp st'.df).take keep)
        | none => .stuck "results"
        else .stuck "marks" 
      | _ => .stuck "exit"

/-! ### what a tree says -/
/-- All functions are let in; in a round, or in none. -/
def Fw (r : Option Nat) : Fence := { fn := fun _ => True, depth := none, alive := false, round := r }

def cellsAt (w : World) (p : Value) (vs : List Value) : Prop :=
  ∃ a, p = .pointer (some a) ∧ ∀ j x, vs[j]? = some x → w.cell? (a.add j) = some x

def SOp.run : SOp → List Value → Sem Value
  | .append ats ty, vs => Builtin.append_ ats ty vs.toArray
  | .mks t, [l, c] => Instr.makeSlice t l c
  | .slice t lo hi mx, x :: r =>
    let l := if lo then r[0]? else none
    let r1 := if lo then r.drop 1 else r
    let h := if hi then r1[0]? else none
    let r2 := if hi then r1.drop 1 else r1
    let m := if mx then r2[0]? else none
    Instr.sliceAt t x l h m
  | _, _ => stuck "no such step"

/-- A loop that a tree is within: its invariant, its measure, its variables, the variables' values ahead of it, and the measure at this round's head. -/
structure Lp where
  I : Nat → Env → World → Prop
  fv : List Fv
  ρ : Env
  m : Nat

/-- K0, w0: the blocks that may be written of those at the start, and the world at the start; wl: the last world that was told. -/
def Tree.holds (P : Program) (K0 : List Nat) (w0 : World) (Post : Value → World → Prop) : Tree → List Lp → Env → World → Prop
  | .bot, _, _, _ => False
  | .stuck _, _, _, _ => False
  | .ret n v hp, _, ρ, wl => ∀ w, HeapOK ρ hp w → Fr K0 w0 w → Fr (ids ρ n) wl w → Post (v.den ρ) w
  | .br c t e, L, ρ, wl => (c.ev ρ = true → t.holds P K0 w0 Post L ρ wl) ∧ (c.ev ρ = false → e.holds P K0 w0 Post L ρ wl)
  | .need c t, L, ρ, wl => c.ev ρ = true ∧ t.holds P K0 w0 Post L ρ wl
  | .new id t, L, ρ, wl => ∀ b, wl.heap.size ≤ b → (∀ j, j < id → ρ.k j ≠ b) → t.holds P K0 w0 Post L (ρ.setK id b) wl
  | .call hp f args fv v t, L, ρ, wl => ∀ w, HeapOK ρ hp w → Fr K0 w0 w → Fr (ids ρ hp.length) wl w →
      Calls P f (denL ρ args).toArray w fun e w' => exF fv ρ fun ρ' => e = .returned (v.den ρ') ∧ Fr [] w w' ∧ t.holds P K0 w0 Post L ρ' w'
  | .idx s i sz n t, L, ρ, wl => ∃ a l c, ρ.v s = .slice (some a) l c ∧ 0 ≤ i.ev ρ ∧ i.ev ρ < l ∧ t.holds P K0 w0 Post L (ρ.setV n (.pointer (some (a.add ((i.ev ρ).toNat * sz)))) rfl) wl
  | .ld n p fv vs t, L, ρ, wl => ∀ w, Fr K0 w0 w → Fr (ids ρ n) wl w → exF fv ρ fun ρ' => cellsAt w (p.den ρ) (denL ρ' vs) ∧ t.holds P K0 w0 Post L ρ' wl
  | .sem s args hp n t, L, ρ, wl => ∀ w, HeapOK ρ hp w → Fr K0 w0 w → Fr (ids ρ hp.length) wl w →
      ∃ (v : Value) (hv : v.oneCell' = true) (w' : World) (K : List Nat), (s.run (denL ρ args)).run P w = .ok v w' ∧ Fr K w w' ∧ (∀ j, j ∈ K → (j ∈ K0 ∨ w0.heap.size ≤ j) ∧ j ∉ ids ρ hp.length) ∧ t.holds P K0 w0 Post L (ρ.setV n v hv) w'
  | .sto k p vs t, L, ρ, wl => ∀ w, Fr K0 w0 w → Fr (ids ρ k) wl w →
      ∃ (a : Addr) (w' : World) (K : List Nat), p.den ρ = .pointer (some a) ∧ (storeCells a (denL ρ vs) 0).run P w = .ok () w' ∧ Fr K w w' ∧ (∀ j, j ∈ K → (j ∈ K0 ∨ w0.heap.size ≤ j) ∧ j ∉ ids ρ k) ∧ t.holds P K0 w0 Post L ρ w'
  | .loop fv ini k t, L, ρ, wl => ∃ (I : Nat → Env → World → Prop),
      (∀ w, Fr K0 w0 w → Fr (ids ρ k) wl w → ∃ m, I m (assignL ρ ρ fv ini) w) ∧
      allF fv ρ fun ρ' => ∀ m w, Fr K0 w0 w → I m ρ' w → t.holds P K0 w0 Post (L ++ [⟨I, fv, ρ, m⟩]) ρ' w
  | .cont lv k vals, L, ρ, wl => match L[lv]? with
    | some l => ∀ w, Fr K0 w0 w → Fr (ids ρ k) wl w → ∃ m, m < l.m ∧ l.I m (assignL ρ l.ρ l.fv vals) w
    | none => False
  | .newf id t, L, ρ, wl => ∀ b l, wl.heap.size ≤ b → (∀ j, j < id → ρ.k j ≠ b) → t.holds P K0 w0 Post L ((ρ.setK id b).setF id l) wl
  | .both t e, L, ρ, wl => t.holds P K0 w0 Post L ρ wl ∧ e.holds P K0 w0 Post L ρ wl
end Rx

namespace Rx
open Go

/-- What is asked of a run's surroundings. -/
structure CtxOK (P : Program) (C : Ctx) : Prop where
  T : ∀ t ti, C.T t = some ti → tiOf P t = some ti
  E : ∀ t, C.eqT t = true → EqOK P t
  F : ∀ f fn, C.F f = some fn → P.funcs[f]? = some fn ∧ (fn.name == "runtime.NumGoroutine") = false
  M : P.follows .mixedOrders = true
  S : ∀ f fn t, C.F f = some fn → C.sig f = some t → ∃ c, fn.body = some c

def mark (ρ : Env) (id : Nat) : Deferred := { target := .collected (ρ.k id), args := #[] }
/-- What goes on of ranges over functions: the marks among the deferred calls, the records. -/
structure Rg (ρ : Env) (df : List Nat) (ri : List RI) (n : Nat) (ds D : List Deferred) : Prop where
  eq : ds = df.map (mark ρ) ++ D
  lt : ∀ id ∈ df, id < n
  ri : ∀ x ∈ ri, x.id < n ∧ (ρ.f x.id).tmps = (denL ρ x.tm).toArray ∧ (ρ.f x.id).params = x.ps ∧ (ρ.f x.id).assign = x.assign ∧ (ρ.f x.id).body = x.body
theorem Rg.mono {ρ : Env} {df : List Nat} {ri : List RI} {n m : Nat} {ds D : List Deferred} (h : Rg ρ df ri n ds D) (hm : n ≤ m) : Rg ρ df ri m ds D :=
  ⟨h.eq, fun id hi => Nat.lt_of_lt_of_le (h.lt id hi) hm, fun x hx => ⟨Nat.lt_of_lt_of_le (h.ri x hx).1 hm, (h.ri x hx).2⟩⟩
theorem riSc_mem {c : Cnt} : ∀ {l : List RI}, riSc c l = true → ∀ x ∈ l, x.tm.sc c = true ∧ x.id < c.k
  | [], _, x, h => by cases h
  | y :: r, hs, x, h => by
    simp only [riSc, Bool.and_eq_true, decide_eq_true_eq] at hs
    rcases List.mem_cons.1 h with rfl | h
    · exact hs.1
    · exact riSc_mem hs.2 x h
theorem marks_ag {ρ ρ' : Env} {n : Nat} (hg : ∀ id, id < n → ρ'.k id = ρ.k id) {df : List Nat} (h : ∀ id ∈ df, id < n) : df.map (mark ρ') = df.map (mark ρ) :=
  List.map_congr_left (fun id hi => by simp only [mark, hg id (h id hi)])
theorem Rg.ag {c : Cnt} {ρ ρ' : Env} {df : List Nat} {ri : List RI} {ds D : List Deferred} (h : Rg ρ df ri c.k ds D) (hg : Ag c ρ ρ') (hs : riSc c ri = true) : Rg ρ' df ri c.k ds D :=
  ⟨by rw [h.eq, marks_ag hg.k h.lt], h.lt, fun x hx => by
    have h1 := h.ri x hx
    rw [hg.f x.id h1.1, agL hg _ (TM.sc_l (riSc_mem hs x hx).1)]
    exact h1⟩
structure OK (K0 : List Nat) (w0 : World) (D : List Deferred) (ρ : Env) (st : St) (tm : TM) (L : List Lp) (wl w : World) (a : Act) : Prop where
  heap : HeapOK ρ st.hp w
  fr0 : Fr K0 w0 w
  fr : Fr (ids ρ st.hp.length) wl w
  new : ∀ id, id < st.hp.length → ρ.k id ∈ K0 ∨ w0.heap.size ≤ ρ.k id
  wl0 : w0.heap.size ≤ wl.heap.size
  pc : ∀ x ∈ st.pc, x.1.ev ρ = x.2
  tm : a.tmps = (denL ρ tm).toArray
  df : Rg ρ st.df st.ri st.hp.length a.defers D
  lv : L.length = st.lv

def inLog (log : List (Nat × Nat × Nat)) (id off : Nat) : Prop := ∃ l ∈ log, l.1 = id ∧ l.2.1 ≤ off ∧ off < l.2.1 + l.2.2

theorem Cnt.le_refl (c : Cnt) : c.le c := ⟨Nat.le_refl _, Nat.le_refl _, Nat.le_refl _, Nat.le_refl _, Nat.le_refl _⟩
theorem Cnt.le_trans {a b c : Cnt} (h : a.le b) (k : b.le c) : a.le c := ⟨Nat.le_trans h.i k.i, Nat.le_trans h.b k.b, Nat.le_trans h.v k.v, Nat.le_trans h.g k.g, Nat.le_trans h.k k.k⟩

structure Later (ρ : Env) (st : St) (L : List Lp) (w : World) (ρ' : Env) (st' : St) (L' : List Lp) (w' : World) : Prop where
  stk : st'.stack = st.stack
  den : ∀ f ∈ st.stack, denL ρ' f = denL ρ f
  kk : ∀ id, id < st.hp.length → ρ'.k id = ρ.k id
  len : st.hp.length ≤ st'.hp.length
  log : ∃ l, st'.log = l ++ st.log
  cel : ∀ id off, id < st.hp.length → ¬ inLog st'.log id off → w'.cell? ⟨ρ.k id, off, none⟩ = w.cell? ⟨ρ.k id, off, none⟩
  lp : ∃ m, L' = L ++ m
  ag : Ag st.cnt ρ ρ'
  cle : st.cnt.le st'.cnt
  rd : st'.rd = st.rd

theorem Later.refl (ρ : Env) (st : St) (L : List Lp) (w : World) : Later ρ st L w ρ st L w :=
  ⟨rfl, fun _ _ => rfl, fun _ _ => rfl, Nat.le_refl _, ⟨[], rfl⟩, fun _ _ _ _ => rfl, ⟨[], by simp⟩, Ag.refl _ _, Cnt.le_refl _, rfl⟩
theorem Later.trans {ρ1 ρ2 ρ3 : Env} {s1 s2 s3 : St} {L1 L2 L3 : List Lp} {w1 w2 w3 : World} (h : Later ρ1 s1 L1 w1 ρ2 s2 L2 w2) (k : Later ρ2 s2 L2 w2 ρ3 s3 L3 w3) : Later ρ1 s1 L1 w1 ρ3 s3 L3 w3 := by
  refine ⟨k.stk.trans h.stk, fun f hf => (k.den f (by rw [h.stk]; exact hf)).trans (h.den f hf), fun id hi => (k.kk id (Nat.lt_of_lt_of_le hi h.len)).trans (h.kk id hi), Nat.le_trans h.len k.len, ?_, fun id off hi hn => ?_, ?_, h.ag.trans (k.ag.mono h.cle), Cnt.le_trans h.cle k.cle, k.rd.trans h.rd⟩
  · obtain ⟨l1, e1⟩ := h.log
    obtain ⟨l2, e2⟩ := k.log
    exact ⟨l2 ++ l1, by rw [e2, e1, List.append_assoc]⟩
  · have h1 : ¬ inLog s2.log id off := fun ⟨l, hl, h2⟩ => hn ⟨l, by obtain ⟨l2, e2⟩ := k.log; rw [e2]; exact List.mem_append_right _ hl, h2⟩
    have := k.cel id off (Nat.lt_of_lt_of_le hi h.len) hn
    rw [h.kk id hi] at this
    rw [this, h.cel id off hi h1]
  · obtain ⟨m1, e1⟩ := h.lp
    obtain ⟨m2, e2⟩ := k.lp
    exact ⟨m1 ++ m2, by rw [e2, e1, List.append_assoc]⟩
/-- Tests that are known more do not matter. -/
theorem Later.of_assume {ρ ρ' : Env} {st st' : St} {L L' : List Lp} {w w' : World} {c : BE} {b : Bool} (h : Later ρ (st.assume c b) L w ρ' st' L' w') : Later ρ st L w ρ' st' L' w' := ⟨h.stk, h.den, h.kk, h.len, h.log, h.cel, h.lp, h.ag, h.cle, h.rd⟩

section
variable {P : Program} {K0 : List Nat} {w0 : World} {D : List Deferred} {r : Option Nat} {Post : Value → World → Prop} {C : Ctx}

theorem OK.assume {ρ : Env} {st : St} {tm : TM} {L : List Lp} {wl w : World} {a : Act} (h : OK K0 w0 D ρ st tm L wl w a) {c : BE} {b : Bool} (hc : c.ev ρ = b) : OK K0 w0 D ρ (st.assume c b) tm L wl w a :=
  ⟨h.heap, h.fr0, h.fr, h.new, h.wl0, fun x hx => by
    rcases List.mem_cons.1 hx with rfl | hx
    · exact hc
    · exact h.pc x hx, h.tm, h.df, h.lv⟩

/-! ### new variables -/
def Fv.above (c : Cnt) : Fv → Prop
  | .i n => c.i ≤ n
  | .b n => c.b ≤ n
  | .v n => c.v ≤ n
  | .g n => c.g ≤ n
theorem setI_ag {c : Cnt} {ρ : Env} {n : Nat} (h : c.i ≤ n) (x : Int) : Ag c ρ (ρ.setI n x) :=
  ⟨fun m hm => by simp only [Env.setI]; rw [if_neg (by omega)], fun _ _ => rfl, fun _ _ => rfl, fun _ _ => rfl, fun _ _ => rfl, fun _ _ => rfl⟩
theorem setB_ag {c : Cnt} {ρ : Env} {n : Nat} (h : c.b ≤ n) (x : Bool) : Ag c ρ (ρ.setB n x) :=
  ⟨fun _ _ => rfl, fun m hm => by simp only [Env.setB]; rw [if_neg (by omega)], fun _ _ => rfl, fun _ _ => rfl, fun _ _ => rfl, fun _ _ => rfl⟩
theorem setV_ag {c : Cnt} {ρ : Env} {n : Nat} (h : c.v ≤ n) (x : Value) (hx : x.oneCell' = true) : Ag c ρ (ρ.setV n x hx) :=
  ⟨fun _ _ => rfl, fun _ _ => rfl, fun m hm => by simp only [Env.setV]; rw [if_neg (by omega)], fun _ _ => rfl, fun _ _ => rfl, fun _ _ => rfl⟩
theorem setG_ag {c : Cnt} {ρ : Env} {n : Nat} (h : c.g ≤ n) (x : Value) : Ag c ρ (ρ.setG n x) :=
  ⟨fun _ _ => rfl, fun _ _ => rfl, fun _ _ => rfl, fun m hm => by simp only [Env.setG]; rw [if_neg (by omega)], fun _ _ => rfl, fun _ _ => rfl⟩
theorem setK_ag {c : Cnt} {ρ : Env} {n : Nat} (h : c.k ≤ n) (x : Nat) : Ag c ρ (ρ.setK n x) :=
  ⟨fun _ _ => rfl, fun _ _ => rfl, fun _ _ => rfl, fun _ _ => rfl, fun m hm => by simp only [Env.setK]; rw [if_neg (by omega)], fun _ _ => rfl⟩
theorem setF_ag {c : Cnt} {ρ : Env} {n : Nat} (h : c.k ≤ n) (x : Loop) : Ag c ρ (ρ.setF n x) :=
  ⟨fun _ _ => rfl, fun _ _ => rfl, fun _ _ => rfl, fun _ _ => rfl, fun _ _ => rfl, fun m hm => by simp only [Env.setF]; rw [if_neg (by omega)]⟩
theorem exF_some {c : Cnt} : ∀ {fv : List Fv} {ρ : Env} {p : Env → Prop}, exF fv ρ p → (∀ f ∈ fv, f.above c) → ∃ ρ', Ag c ρ ρ' ∧ p ρ'
  | [], ρ, p, h, _ => ⟨ρ, Ag.refl c ρ, h⟩
  | .i n :: r, ρ, p, h, hf => by
    obtain ⟨x, h⟩ := h
    obtain ⟨ρ', h1, h2⟩ := exF_some h (fun f hm => hf f (List.mem_cons_of_mem _ hm))
    exact ⟨ρ', (setI_ag (hf _ List.mem_cons_self) x).trans h1, h2⟩
  | .b n :: r, ρ, p, h, hf => by
    obtain ⟨x, h⟩ := h
    obtain ⟨ρ', h1, h2⟩ := exF_some h (fun f hm => hf f (List.mem_cons_of_mem _ hm))
    exact ⟨ρ', (setB_ag (hf _ List.mem_cons_self) x).trans h1, h2⟩
  | .v n :: r, ρ, p, h, hf => by
    obtain ⟨x, hx, h⟩ := h
    obtain ⟨ρ', h1, h2⟩ := exF_some h (fun f hm => hf f (List.mem_cons_of_mem _ hm))
    exact ⟨ρ', (setV_ag (hf _ List.mem_cons_self) x hx).trans h1, h2⟩
  | .g n :: r, ρ, p, h, hf => by
    obtain ⟨x, h⟩ := h
    obtain ⟨ρ', h1, h2⟩ := exF_some h (fun f hm => hf f (List.mem_cons_of_mem _ hm))
    exact ⟨ρ', (setG_ag (hf _ List.mem_cons_self) x).trans h1, h2⟩

mutual
theorem freshSV_ok (g k : Nat) : ∀ (s : SV) (ni nb nv : Nat), (∀ f ∈ (freshSV ni nb nv s).2.1, f.above ⟨ni, nb, nv, g, k⟩) ∧ ni ≤ (freshSV ni nb nv s).2.2.1 ∧ nb ≤ (freshSV ni nb nv s).2.2.2.1 ∧ nv ≤ (freshSV ni nb nv s).2.2.2.2
  | .int _ _, ni, nb, nv => by simp [freshSV, Fv.above]
  | .bool _, ni, nb, nv => by simp [freshSV, Fv.above]
  | .agg l, ni, nb, nv => by simp only [freshSV]; exact freshL_ok g k l ni nb nv
  | .tup l, ni, nb, nv => by simp only [freshSV]; exact freshL_ok g k l ni nb nv
  | .undef, ni, nb, nv => by simp [freshSV, Fv.above]
  | .ptr _ _, ni, nb, nv => by simp [freshSV, Fv.above]
  | .optr _ _, ni, nb, nv => by simp [freshSV, Fv.above]
  | .nilp, ni, nb, nv => by simp [freshSV, Fv.above]
  | .fn _ _ _, ni, nb, nv => by simp [freshSV, Fv.above]
  | .nilf, ni, nb, nv => by simp [freshSV, Fv.above]
  | .val _, ni, nb, nv => by simp [freshSV, Fv.above]
  | .sl _ _ _, ni, nb, nv => by simp [freshSV, Fv.above]
  | .nils, ni, nb, nv => by simp [freshSV, Fv.above]
  | .map _, ni, nb, nv => by simp [freshSV, Fv.above]
  | .nilm, ni, nb, nv => by simp [freshSV, Fv.above]
  | .gb _, ni, nb, nv => by simp [freshSV, Fv.above]
  | .yv _, ni, nb, nv => by simp [freshSV, Fv.above]
theorem freshL_ok (g k : Nat) : ∀ (l : List SV) (ni nb nv : Nat), (∀ f ∈ (freshL ni nb nv l).2.1, f.above ⟨ni, nb, nv, g, k⟩) ∧ ni ≤ (freshL ni nb nv l).2.2.1 ∧ nb ≤ (freshL ni nb nv l).2.2.2.1 ∧ nv ≤ (freshL ni nb nv l).2.2.2.2
  | [], ni, nb, nv => by simp [freshL]
  | x :: r, ni, nb, nv => by
    have h1 := freshSV_ok g k x ni nb nv
    have h2 := freshL_ok g k r (freshSV ni nb nv x).2.2.1 (freshSV ni nb nv x).2.2.2.1 (freshSV ni nb nv x).2.2.2.2
    simp only [freshL]
    refine ⟨fun f hf => ?_, by omega, by omega, by omega⟩
    rcases List.mem_append.1 hf with hf | hf
    · exact h1.1 f hf
    · have := h2.1 f hf
      cases f <;> simp only [Fv.above] at this ⊢ <;> omega
end
theorem freshL_len : ∀ (l : List SV) (ni nb nv : Nat), (freshL ni nb nv l).1.length = l.length
  | [], _, _, _ => rfl
  | x :: r, ni, nb, nv => by simp only [freshL, List.length_cons, freshL_len r]

theorem hpSc_get' {c : Cnt} : ∀ {hp : List Blk}, hpSc c hp = true → ∀ {id : Nat} {b : Blk}, hp[id]? = some b → b.sc c = true
  | [], _, id, b, h => by simp at h
  | x :: r, hs, id, b, h => by
    simp only [hpSc, Bool.and_eq_true] at hs
    cases id with
    | zero => simp at h; subst h; exact hs.1
    | succ id => exact hpSc_get' hs.2 (by simpa using h)
theorem hpSc_get {c : Cnt} {hp : List Blk} (hs : hpSc c hp = true) {id : Nat} {b : Blk} (h : hp[id]? = some b) : scL c b.cells = true := by
  have := hpSc_get' hs h
  simp only [Blk.sc, Bool.and_eq_true] at this
  exact this.1
theorem pcSc_mem {c : Cnt} : ∀ {l : List (BE × Bool)}, pcSc c l = true → ∀ x ∈ l, x.1.sc c = true
  | [], _, x, h => by cases h
  | y :: r, hs, x, h => by
    simp only [pcSc, Bool.and_eq_true] at hs
    rcases List.mem_cons.1 h with rfl | h
    · exact hs.1
    · exact pcSc_mem hs.2 x h
theorem stSc_mem {c : Cnt} : ∀ {l : List TM}, stSc c l = true → ∀ x ∈ l, x.sc c = true
  | [], _, x, h => by cases h
  | y :: r, hs, x, h => by
    simp only [stSc, Bool.and_eq_true] at hs
    rcases List.mem_cons.1 h with rfl | h
    · exact hs.1
    · exact stSc_mem hs.2 x h

theorem obj_ag {c : Cnt} {ρ ρ' : Env} (h : Ag c ρ ρ') {b : Blk} (hs : b.sc c = true) : b.obj ρ' = b.obj ρ := by
  unfold Blk.sc at hs
  rw [Bool.and_eq_true] at hs
  unfold Blk.obj
  rw [agL h _ hs.1]
  cases hk : b.keys with
  | none => rfl
  | some k =>
    rw [hk] at hs
    cases k with
    | map _ => rfl
    | dfr _ => rfl
    | lp self s p =>
      have := hs.2
      simp only [Ks.sc, decide_eq_true_eq] at this
      simp only [h.f self this]
theorem ids_ag {c : Cnt} {ρ ρ' : Env} (h : Ag c ρ ρ') {n : Nat} (hn : n ≤ c.k) : ids ρ' n = ids ρ n := by
  unfold ids
  exact List.map_congr_left (fun j hj => h.k j (by have := List.mem_range.1 hj; omega))
theorem HeapOK.ag {c : Cnt} {ρ ρ' : Env} (h : Ag c ρ ρ') {hp : List Blk} (hs : hpSc c hp = true) (hk : hp.length ≤ c.k) {w : World} (ho : HeapOK ρ hp w) : HeapOK ρ' hp w := by
  refine ⟨fun id blk hb => ?_, fun i j hi hj he => ?_⟩
  · have hlt : id < hp.length := (List.getElem?_eq_some_iff.1 hb).1
    rw [h.k id (by omega), obj_ag h (hpSc_get' hs hb)]
    exact ho.1 id blk hb
  · rw [h.k i (by omega), h.k j (by omega)] at he
    exact ho.2 i j hi hj he

/-- New variables do not matter. -/
theorem OK.ag {ρ ρ' : Env} {st st' : St} {tm : TM} {L : List Lp} {wl w : World} {a : Act} (h : OK K0 w0 D ρ st tm L wl w a) (hs : st.sc tm = true) (hg : Ag st.cnt ρ ρ')
    (e1 : st'.hp = st.hp) (e2 : st'.pc = st.pc) (e3 : st'.lv = st.lv) (e4 : st'.df = st.df := by rfl) (e5 : st'.ri = st.ri := by rfl) : OK K0 w0 D ρ' st' tm L wl w a := by
  simp only [St.sc, Bool.and_eq_true] at hs
  have hi := ids_ag (n := st.hp.length) hg (Nat.le_refl _)
  refine ⟨by rw [e1]; exact h.heap.ag hg hs.1.1.1 (Nat.le_refl _), h.fr0, by rw [e1, hi]; exact h.fr, fun id hid => ?_, h.wl0, fun x hx => ?_, by rw [agL hg _ (TM.sc_l hs.2)]; exact h.tm, by rw [e4, e5, e1]; exact h.df.ag hg hs.1.2.1.2, by rw [e3]; exact h.lv⟩
  · rw [e1] at hid
    rw [hg.k id hid]
    exact h.new id hid
  · rw [e2] at hx
    rw [BE.ag hg _ (pcSc_mem hs.1.1.2 x hx)]
    exact h.pc x hx
theorem Later.of_ag {ρ ρ' : Env} {st st' : St} {tm : TM} {L L' : List Lp} {w w' : World} (hs : st.sc tm = true) (hg : Ag st.cnt ρ ρ')
    (e1 : st.cnt.le st'.cnt) (e2 : st'.stack = st.stack) (e3 : st'.log = st.log) (hw : ∀ id off, id < st.hp.length → w'.cell? ⟨ρ.k id, off, none⟩ = w.cell? ⟨ρ.k id, off, none⟩) (hL : ∃ m, L' = L ++ m) (e4 : st'.rd = st.rd := by rfl) : Later ρ st L w ρ' st' L' w' := by
  simp only [St.sc, Bool.and_eq_true] at hs
  exact ⟨e2, fun f hf => agL hg _ (TM.sc_l (stSc_mem hs.1.2.1.1 f hf)), fun id hi => hg.k id hi, e1.k, ⟨[], by rw [e3]; rfl⟩, fun id off hi _ => hw id off hi, hL, hg, e1, e4⟩

/-! ### reads of cells that are known -/
theorem cell_known {ρ : Env} {hp : List Blk} {w : World} (h : HeapOK ρ hp w) {id : Nat} {blk : Blk} (hb : hp[id]? = some blk) (hk : blk.keys = none) (off : Nat) :
    w.cell? ⟨ρ.k id, off, none⟩ = (denL ρ blk.cells)[off]? := by
  have := h.1 id blk hb
  simp only [World.cell?, this, Blk.obj, hk]
  simp

theorem load_cells {ρ : Env} {ti : TI} {t : TypeId} (hti : tiOf P t = some ti) {w : World} {b off : Nat} {cs : List SV}
    (hc : ∀ j, j < ti.size → w.cell? ⟨b, off + j, none⟩ = (denL ρ cs)[off + j]?) (hl : off + ti.size ≤ cs.length) {v : SV}
    (hv : (if ti.d.agg then some (SV.agg ((cs.drop off).take ti.size)) else if ti.size = 1 then cs[off]? else none) = some v) :
    (loadVar t ⟨b, off, none⟩).run P w = .ok (v.den ρ) w := by
  obtain ⟨i, d, hh⟩ := ti_is hti
  cases ha : ti.d.agg
  · rw [ha] at hv
    simp only [Bool.false_eq_true, if_false] at hv
    split at hv
    · rename_i h1
      have := hc 0 (by omega)
      rw [denL_get, Nat.add_zero, hv] at this
      simp only [loadVar, Sem.run_bind, run_ia hh.und, hh.agg, ha, Result.andThen_ok, Bool.false_eq_true, if_false]
      simp [this]
    · cases hv
  · rw [ha] at hv
    simp only [if_true, Option.some.injEq] at hv
    subst hv
    have hlen : (denL ρ ((cs.drop off).take ti.size)).length = ti.size := by
      rw [denL_len, List.length_take, List.length_drop]; omega
    have hr := run_loadCells_list (P := P) w ⟨b, off, none⟩ (denL ρ ((cs.drop off).take ti.size)) (fun j v hj => by
      have hj' : j < ti.size := by
        have := (List.getElem?_eq_some_iff.1 hj).1
        rw [hlen] at this; exact this
      rw [Addr.add_mid, hc j hj', ← hj, denL_take, denL_drop, List.getElem?_take, if_pos hj', List.getElem?_drop])
    rw [hlen] at hr
    simp only [loadVar, Sem.run_bind, run_ia hh.und, hh.agg, ha, Result.andThen_ok, if_true, run_sz hh.info, ← hh.size, hr, Sem.run_pure, SV.den]

theorem load_sound (hC : CtxOK P C) {ρ : Env} {hp : List Blk} {tm : TM} {a : Act} (ht : a.tmps = (denL ρ tm).toArray) {o : Oper} {v : SV} {id off n : Nat} (h : loadOp C hp tm o = some (v, id, off, n)) {w : World}
    {blk : Blk} (hb : hp[id]? = some blk) (hc : ∀ j, j < n → w.cell? ⟨ρ.k id, off + j, none⟩ = (denL ρ blk.cells)[off + j]?) :
    (execOp a.eval o).run P w = .ok (.value (v.den ρ)) w := by
  obtain ⟨dst, op, ty, pos, after, guard⟩ := o
  unfold loadOp at h
  simp only at h
  split at h
  · rename_i t x
    split at h
    · rename_i id' off' ti hx hti
      split at h
      · rename_i blk' hb'
        split at h
        · rename_i hcond
          have key : ∀ u : SV, (if ti.d.agg then some (SV.agg ((blk'.cells.drop off').take ti.size)) else if ti.size = 1 then blk'.cells[off']? else none) = some u → id' = id → off' = off → ti.size = n → u = v → (execOp a.eval { dst, op := .load t x, type := ty, pos, after, guard }).run P w = .ok (.value (v.den ρ)) w := by
            intro u hu e1 e2 e3 e4
            subst e1 e2 e3 e4
            rw [hb] at hb'
            cases hb'
            have := load_cells (P := P) (hC.T _ _ hti) hc hcond.2 hu
            simp only [execOp, opv_den ht hx, SV.den, Instr.loadAt, Instr.sureAddr, Sem.run_bind, Sem.run_pure, Result.andThen_ok, this]
          split at h
          · rename_i hag
            cases h
            exact key _ (by rw [if_pos hag]) rfl rfl rfl rfl
          · rename_i hag
            split at h
            · rename_i h1
              cases hg : blk'.cells[off']? with
              | none => rw [hg] at h; cases h
              | some u =>
                rw [hg] at h
                cases h
                exact key _ (by rw [if_neg hag, if_pos h1, hg]) rfl rfl h1 rfl
            · cases h
        · cases h
      · cases h
    · cases h
  · cases h
theorem loadOp_blk {hp : List Blk} {tm : TM} {o : Oper} {v : SV} {id off n : Nat} (h : loadOp C hp tm o = some (v, id, off, n)) : ∃ blk, hp[id]? = some blk ∧ blk.keys = none := by
  unfold loadOp at h
  split at h
  · rename_i t x
    split at h
    · rename_i id' off' ti hx hti
      split at h
      · rename_i blk hb
        split at h
        · rename_i hc
          split at h
          · cases h; exact ⟨blk, hb, hc.1⟩
          · split at h
            · cases hg : blk.cells[off']? with
              | none => rw [hg] at h; cases h
              | some u => rw [hg] at h; cases h; exact ⟨blk, hb, hc.1⟩
            · cases h
        · cases h
      · cases h
    · cases h
  · cases h
end
end Rx

namespace Rx
open Go
section
variable {P : Program} {K0 : List Nat} {w0 : World} {D : List Deferred} {r : Option Nat} {Post : Value → World → Prop} {C : Ctx}

/-- What a quiet operation comes to. -/
def QRes (P : Program) (K0 : List Nat) (w0 : World) (D : List Deferred) (Post : Value → World → Prop) (o : Oper) (k : KV) (tm : TM) (a : Act) (ρ : Env) (st : St) (L : List Lp) (wl w : World) : Prop :=
  ∃ ρ' st' v, (∀ w', (isLoad o = true → w' = w) → (execOp a.eval o).run P w' = .ok (.value (SV.den ρ' v)) w') ∧ OK K0 w0 D ρ' st' tm L wl w a ∧ Later ρ st L w ρ' st' L w ∧ (k st' v).holds P K0 w0 Post L ρ' wl

theorem QRes.of_assume {o : Oper} {k : KV} {tm : TM} {a : Act} {ρ : Env} {st : St} {L : List Lp} {wl w : World} {c : BE} {b : Bool} (h : QRes P K0 w0 D Post o k tm a ρ (st.assume c b) L wl w) : QRes P K0 w0 D Post o k tm a ρ st L wl w := by
  obtain ⟨ρ', st', v, h1, h2, h3, h4⟩ := h
  exact ⟨ρ', st', v, h1, h2, h3.of_assume, h4⟩

theorem brIdx_sound {o : Oper} {k : KV} {tm : TM} {a : Act} {ρ : Env} {L : List Lp} {wl w : World} {e : IE} {mk : Nat → SV} (B : Nat)
    (hrun : ∀ w' j, j < B → e.ev ρ = (j : Int) → (execOp a.eval o).run P w' = .ok (.value ((mk j).den ρ)) w') :
    ∀ (m j : Nat) (st : St), j + m = B → OK K0 w0 D ρ st tm L wl w a → (brIdx e mk k m j st).holds P K0 w0 Post L ρ wl → QRes P K0 w0 D Post o k tm a ρ st L wl w
  | 0, _, _, _, _, h => h.elim
  | m + 1, j, st, hB, hok, h => by
    simp only [brIdx, Tree.holds] at h
    cases hc : (BE.cmp .eql e (.c (j : Int))).ev ρ
    · exact (brIdx_sound B hrun m (j + 1) (st.assume _ false) (by omega) (hok.assume hc) (h.2 hc)).of_assume
    · have he : e.ev ρ = (j : Int) := by simpa [BE.ev, icmp, IE.ev] using hc
      exact ⟨ρ, st.assume _ true, mk j, fun w' _ => hrun w' j (by omega) he, hok.assume hc, (Later.refl _ _ _ _).of_assume, h.1 hc⟩

theorem addr_add_zero (a : Addr) : a.add 0 = a := by simp [Addr.add]

theorem denL_shape {ρ : Env} : ∀ {l : List SV} {n : Nat}, l.length = n → (denL ρ l).length = n
  | _, _, h => by rw [denL_len, h]

theorem loadOp_isLoad {hp : List Blk} {tm : TM} {o : Oper} {q : SV × Nat × Nat × Nat} (h : loadOp C hp tm o = some q) : isLoad o = true := by
  unfold loadOp at h
  unfold isLoad
  split at h
  · rename_i e; first | rfl | rw [e]
  · cases h

theorem quiet_sound (hC : CtxOK P C) {o : Oper} {k : KV} {tm : TM} {a : Act} {ρ : Env} {st : St} {L : List Lp} {wl w : World} (hok : OK K0 w0 D ρ st tm L wl w a)
    (h : (quietOp C st tm o k).holds P K0 w0 Post L ρ wl) : QRes P K0 w0 D Post o k tm a ρ st L wl w := by
  unfold quietOp at h
  split at h
  · rename_i v hp
    exact ⟨ρ, st, v, fun w' _ => pure_sound hC.T hC.E hok.pc hok.tm hp (fun c hc => by cases hc) w', hok, Later.refl _ _ _ _, h⟩
  · rename_i v c hp
    split at h
    · rename_i hl
      exact ⟨ρ, st, v, fun w' _ => pure_sound hC.T hC.E hok.pc hok.tm hp (fun c' hc => by cases hc; exact look_ev hok.pc hl) w', hok, Later.refl _ _ _ _, h⟩
    · exact h.elim
    · simp only [Tree.holds] at h
      exact ⟨ρ, st.assume c true, v, fun w' _ => pure_sound hC.T hC.E hok.pc hok.tm hp (fun c' hc => by cases hc; exact h.1) w', hok.assume h.1, (Later.refl _ _ _ _).of_assume, h.2⟩
  · rename_i hpn
    split at h
    · rename_i v id off n hl
      obtain ⟨blk, hb, hk⟩ := loadOp_blk hl
      exact ⟨ρ, st, v, fun w' hw => by obtain rfl := hw (loadOp_isLoad hl); exact load_sound hC hok.tm hl hb (fun j _ => cell_known hok.heap hb hk _), hok, Later.refl _ _ _ _, h⟩
    · rename_i hln
      clear hpn hln
      obtain ⟨dst, op, ty, pos, after, guard⟩ := o
      simp only at h
      split at h
      · -- pick
        rename_i c x y
        split at h
        · rename_i e va vb hc hx hy
          simp only [Tree.holds] at h
          cases he : e.ev ρ
          · exact ⟨ρ, st.assume e false, vb, fun w' _ => by simp only [execOp, opv_den hok.tm hc, SV.den, he, asBool, Sem.run_bind, Sem.run_pure, Result.andThen_ok, Bool.false_eq_true, if_false, opv_den hok.tm hy], hok.assume he, (Later.refl _ _ _ _).of_assume, h.2 he⟩
          · exact ⟨ρ, st.assume e true, va, fun w' _ => by simp only [execOp, opv_den hok.tm hc, SV.den, he, asBool, Sem.run_bind, Sem.run_pure, Result.andThen_ok, if_true, opv_den hok.tm hx], hok.assume he, (Later.refl _ _ _ _).of_assume, h.1 he⟩
        · exact h.elim
      · -- load through a pointer that is not known
        rename_i t x
        split at h
        · rename_i n off d sz z hx hti
          split at h
          · rename_i hcond
            simp only [Bool.and_eq_true, decide_eq_true_eq, Bool.or_eq_true] at hcond
            simp only [Tree.holds] at h
            have hfr := freshL_ok st.ng st.hp.length z st.ni st.nb st.nv
            obtain ⟨ρ', hag, hcell, ht⟩ := exF_some (c := st.cnt) (h w hok.fr0 hok.fr) hfr.1
            have hok' := hok.ag (st' := { st with ni := (freshL st.ni st.nb st.nv z).2.2.1, nb := (freshL st.ni st.nb st.nv z).2.2.2.1, nv := (freshL st.ni st.nb st.nv z).2.2.2.2 }) hcond.1.1.1 hag rfl rfl rfl
            refine ⟨ρ', _, _, ?_, hok', Later.of_ag hcond.1.1.1 hag ⟨hfr.2.1, hfr.2.2.1, hfr.2.2.2, Nat.le_refl _, Nat.le_refl _⟩ rfl rfl (fun _ _ _ => rfl) ⟨[], by simp⟩, ht⟩
            intro w' hw
            obtain rfl := hw rfl
            obtain ⟨i, dd, hh⟩ := ti_is (hC.T _ _ hti)
            obtain ⟨ad, hp, hcs⟩ := hcell
            have hsz := hh.size
            simp only at hsz
            have hlen : (denL ρ' (freshL st.ni st.nb st.nv z).1).length = sz := denL_shape (by rw [freshL_len]; exact hcond.1.2)
            have hd := hh.agg
            simp only at hd
            have hev : a.eval x = .pointer (some ad) := by rw [opv_den hok.tm hx, hp]
            cases hda : d.agg
            · -- one cell
              rw [hda] at hd
              have hz1 : ∃ u, z = [u] := by
                have h1 : z.length = 1 := by
                  rcases hcond.2 with h2 | h2
                  · rw [hda] at h2; cases h2
                  · omega
                match z, h1 with
                | [u], _ => exact ⟨u, rfl⟩
              obtain ⟨u, rfl⟩ := hz1
              have h0 := hcs 0 ((freshL st.ni st.nb st.nv [u]).1.headD .undef |>.den ρ') (by simp [freshL, denL])
              rw [addr_add_zero] at h0
              simp only [execOp, hev, Instr.loadAt, Instr.sureAddr, loadVar, Sem.run_bind, Sem.run_pure, Result.andThen_ok, run_ia hh.und, hd, Bool.false_eq_true, if_false]
              simp [h0]
            · rw [hda] at hd
              have hr := run_loadCells_list (P := P) w' ad _ hcs
              rw [hlen, hsz] at hr
              simp only [execOp, hev, Instr.loadAt, Instr.sureAddr, loadVar, Sem.run_bind, Sem.run_pure, Result.andThen_ok, run_ia hh.und, hd, if_true, run_sz hh.info, hr, SV.den]
          · exact h.elim
        · exact h.elim
      · -- max
        rename_i args ats
        split at h
        · rename_i x y hargs
          have e1 : args = #[x, y] := Array.toList_inj.1 (by simpa using hargs)
          subst e1
          split at h
          · rename_i k1 e k2 f hx hy
            split at h
            · simp only [Tree.holds, mkcmp_ev] at h
              have hev : ∀ b, icmp .lss (e.ev ρ) (f.ev ρ) = b → (mkcmp .lss e f).ev ρ = b := fun b hb => by rw [mkcmp_ev]; exact hb
              cases he : icmp .lss (e.ev ρ) (f.ev ρ)
              · exact ⟨ρ, st.assume _ false, .int k1 e, fun w' _ => by
                  have hh : ¬ (e.ev ρ < f.ev ρ) := by simpa [icmp] using he
                  simp [execOp, resolve, invoke, builtin, Builtin.max_, Builtin.max2, opv_den hok.tm hx, opv_den hok.tm hy, SV.den, hh], hok.assume (hev _ he), (Later.refl _ _ _ _).of_assume, h.2 he⟩
              · exact ⟨ρ, st.assume _ true, .int k1 f, fun w' _ => by
                  have hh : e.ev ρ < f.ev ρ := by simpa [icmp] using he
                  simp [execOp, resolve, invoke, builtin, Builtin.max_, Builtin.max2, opv_den hok.tm hx, opv_den hok.tm hy, SV.den, hh], hok.assume (hev _ he), (Later.refl _ _ _ _).of_assume, h.1 he⟩
            · exact h.elim
          · exact h.elim
        · exact h.elim
      · -- min
        rename_i args ats
        split at h
        · rename_i x y hargs
          have e1 : args = #[x, y] := Array.toList_inj.1 (by simpa using hargs)
          subst e1
          split at h
          · rename_i k1 e k2 f hx hy
            split at h
            · simp only [Tree.holds, mkcmp_ev] at h
              have hev : ∀ b, icmp .lss (f.ev ρ) (e.ev ρ) = b → (mkcmp .lss f e).ev ρ = b := fun b hb => by rw [mkcmp_ev]; exact hb
              cases he : icmp .lss (f.ev ρ) (e.ev ρ)
              · exact ⟨ρ, st.assume _ false, .int k1 e, fun w' _ => by
                  have hh : ¬ (f.ev ρ < e.ev ρ) := by simpa [icmp] using he
                  simp [execOp, resolve, invoke, builtin, Builtin.min_, Builtin.min2, opv_den hok.tm hx, opv_den hok.tm hy, SV.den, hh], hok.assume (hev _ he), (Later.refl _ _ _ _).of_assume, h.2 he⟩
              · exact ⟨ρ, st.assume _ true, .int k1 f, fun w' _ => by
                  have hh : f.ev ρ < e.ev ρ := by simpa [icmp] using he
                  simp [execOp, resolve, invoke, builtin, Builtin.min_, Builtin.min2, opv_den hok.tm hx, opv_den hok.tm hy, SV.den, hh], hok.assume (hev _ he), (Later.refl _ _ _ _).of_assume, h.1 he⟩
            · exact h.elim
          · exact h.elim
        · exact h.elim
      · -- an address by an index
        rename_i t x ix
        split at h
        · rename_i id len cap kk e et sz z hx hi hti
          have hu := ti_slice (hC.T _ _ hti) rfl
          split at h
          · rename_i td esz ez hte
            obtain ⟨i2, d2, hh2⟩ := ti_is (hC.T _ _ hte)
            have hs2 := hh2.size
            simp only at hs2
            have hrun : ∀ (w' : World) (j : Nat), j < len → e.ev ρ = (j : Int) → (execOp a.eval { dst, op := .indexAddr t x ix, type := ty, pos, after, guard }).run P w' = .ok (.value ((SV.ptr id (j * esz)).den ρ)) w' := by
              intro w' j hj he
              simp only [execOp, opv_den hok.tm hx, opv_den hok.tm hi, SV.den, he, Instr.indexAt, asIntOf, Sem.run_bind, Sem.run_pure, Result.andThen_ok, run_ul hu]
              simp [hj, run_sz hh2.info, ← hs2, Addr.add_mid]
            split at h
            · rename_i n
              split at h
              · rename_i hn
                exact ⟨ρ, st, _, fun w' _ => hrun w' n.toNat (by omega) (by simp only [IE.ev]; omega), hok, Later.refl _ _ _ _, h⟩
              · exact h.elim
            · exact brIdx_sound len hrun len 0 st (by omega) hok h
          · exact h.elim
        · rename_i id off kk e n esz ag sz z hx hi hti
          obtain ⟨et, i2, d2, hu, hie, hue, hsz, hag⟩ := ti_arr (hC.T _ _ hti) rfl
          have hrun : ∀ (w' : World) (j : Nat), j < n → e.ev ρ = (j : Int) → (execOp a.eval { dst, op := .indexAddr t x ix, type := ty, pos, after, guard }).run P w' = .ok (.value ((SV.ptr id (off + j * esz)).den ρ)) w' := by
            intro w' j hj he
            simp only [execOp, opv_den hok.tm hx, opv_den hok.tm hi, SV.den, he, Instr.indexAt, asIntOf, Instr.sureAddr, Sem.run_bind, Sem.run_pure, Result.andThen_ok, run_ul hu]
            simp [hj, run_sz hie, hsz, Addr.add_mid]
          split at h
          · rename_i m
            split at h
            · rename_i hn
              exact ⟨ρ, st, _, fun w' _ => hrun w' m.toNat (by omega) (by simp only [IE.ev]; omega), hok, Later.refl _ _ _ _, h⟩
            · exact h.elim
          · exact brIdx_sound n hrun n 0 st (by omega) hok h
        · rename_i n kk e et sz z hx hi hti
          have hu := ti_slice (hC.T _ _ hti) rfl
          split at h
          · rename_i td esz ez hte
            obtain ⟨i2, d2, hh2⟩ := ti_is (hC.T _ _ hte)
            have hs2 := hh2.size
            simp only at hs2
            split at h
            · rename_i hcond
              simp only [Bool.and_eq_true, decide_eq_true_eq] at hcond
              simp only [Tree.holds] at h
              obtain ⟨ad, l, c, hv, h0, h1, ht⟩ := h
              have hag : Ag st.cnt ρ (ρ.setV st.nv (.pointer (some (ad.add ((e.ev ρ).toNat * esz)))) rfl) := setV_ag (Nat.le_refl _) _ _
              have hok' := hok.ag (st' := { st with nv := st.nv + 1 }) hcond.1.1 hag rfl rfl rfl
              refine ⟨_, _, _, ?_, hok', Later.of_ag hcond.1.1 hag ⟨Nat.le_refl _, Nat.le_refl _, Nat.le_succ _, Nat.le_refl _, Nat.le_refl _⟩ rfl rfl (fun _ _ _ => rfl) ⟨[], by simp⟩, ht⟩
              intro w' _
              have hlt : e.ev ρ < (l : Int) := h1
              simp only [execOp, opv_den hok.tm hx, opv_den hok.tm hi, SV.den, hv, Instr.indexAt, asIntOf, Sem.run_bind, Sem.run_pure, Result.andThen_ok, run_ul hu]
              simp [h0, hlt, run_sz hh2.info, ← hs2, Env.setV, shiftPtr, addr_add_zero]
            · exact h.elim
          · exact h.elim
        · exact h.elim
      · -- a row's element
        rename_i t x ix
        split at h
        · rename_i l kk e n sz z hx hi hti
          obtain ⟨et, i2, d2, hu, hie, hue, hsz, hag⟩ := ti_arr (hC.T _ _ hti) rfl
          split at h
          · rename_i hl
            have hrun : ∀ (w' : World) (j : Nat), j < n → e.ev ρ = (j : Int) → (execOp a.eval { dst, op := .index t x ix, type := ty, pos, after, guard }).run P w' = .ok (.value (((l[j]?).getD SV.undef).den ρ)) w' := by
              intro w' j hj he
              have hj2 : j < l.length := by omega
              simp only [execOp, opv_den hok.tm hx, opv_den hok.tm hi, SV.den, he, Instr.index, asIntOf, Sem.run_bind, Sem.run_pure, Result.andThen_ok, run_ul hu]
              simp [hj, run_sz hie, hsz, part, run_ia hue, ← hag, denL_get, hj2]
            split at h
            · rename_i m
              split at h
              · rename_i hn
                exact ⟨ρ, st, _, fun w' _ => hrun w' m.toNat (by omega) (by simp only [IE.ev]; omega), hok, Later.refl _ _ _ _, h⟩
              · exact h.elim
            · exact brIdx_sound n hrun n 0 st (by omega) hok h
          · exact h.elim
        · exact h.elim
      · exact h.elim
end
end Rx

namespace Rx
open Go
section
variable {P : Program} {K0 : List Nat} {w0 : World} {D : List Deferred} {r : Option Nat} {Post : Value → World → Prop} {C : Ctx}

abbrev OpW (P : Program) (r : Option Nat) (o : Oper) (a : Act) (w : World) (K : Act → World → Prop) (Q : Exit → Act → World → Prop) : Prop := o.wpIn (Fw r) 0 P a w K Q
theorem opW_run {o : Oper} {a : Act} {w : World} {K : Act → World → Prop} {Q : Exit → Act → World → Prop} {res : Result Next} (hd : ∀ c, o.op ≠ .defer c) (h : (execOp a.eval o).run P w = res)
    (k : o.uponIn (Fw r) 0 P a K Q res) : OpW P r o a w K Q := ⟨fun _ _ => trivial, by rw [Oper.semAt_eq _ _ _ hd, h]; exact k⟩
theorem callsW {n : Nat} {f : FuncId} {args : Array Value} {w : World} {R : Ending → World → Prop} (h : Calls P f args w R) : CallsIn (Fw r) n P f args w R :=
  (callsIn_wide.2 h : CallsIn Fence.wide n P f args w R)

theorem HeapOK.lt {ρ : Env} {hp : List Blk} {w : World} (h : HeapOK ρ hp w) {id : Nat} (hi : id < hp.length) : ρ.k id < w.heap.size := by
  have := h.1 id hp[id] (List.getElem?_eq_getElem hi)
  exact (Array.getElem?_eq_some_iff.1 this).1

/-- A world that leaves the known blocks as they are. -/
theorem HeapOK.keep {ρ : Env} {hp : List Blk} {w w' : World} (h : HeapOK ρ hp w) {K : List Nat} (hf : Fr K w w') (hK : ∀ j, j ∈ K → j ∉ ids ρ hp.length) : HeapOK ρ hp w' := by
  refine ⟨fun id blk hb => ?_, h.2⟩
  have hi := (List.getElem?_eq_some_iff.1 hb).1
  rw [hf.block _ (h.lt hi) (fun hk => hK _ hk (mem_ids.2 ⟨id, hi, rfl⟩))]
  exact h.1 id blk hb

theorem heap_push (w : World) (o : Obj) (j : Nat) (h : j < w.heap.size) : (w.alloc o).heap[j]? = w.heap[j]? := by
  show (w.heap.push o)[j]? = _
  rw [Array.getElem?_push, if_neg (by omega)]
theorem heap_push_new (w : World) (o : Obj) : (w.alloc o).heap[w.heap.size]? = some o := by
  show (w.heap.push o)[w.heap.size]? = _
  simp
theorem Fr.alloc (K : List Nat) (w : World) (o : Obj) : Fr K w (w.alloc o) := ⟨by simp, fun j hj _ => heap_push w o j hj, rfl, rfl, rfl⟩

/-- A new block that is known. -/
theorem alloc_gen {ρ ρ' : Env} {st : St} {tm : TM} {L : List Lp} {wl w : World} {a : Act} (hok : OK K0 w0 D ρ st tm L wl w a) (hs : st.sc tm = true) (blk : Blk) (hag : Ag st.cnt ρ ρ') (hkn : ρ'.k st.hp.length = w.heap.size) :
    OK K0 w0 D ρ' { st with hp := st.hp ++ [blk] } tm L wl (w.alloc (blk.obj ρ')) a ∧
    Later ρ st L w ρ' { st with hp := st.hp ++ [blk] } L (w.alloc (blk.obj ρ')) := by
  have hs0 := hs
  simp only [St.sc, Bool.and_eq_true] at hs
  have hko : ∀ i, i < st.hp.length → ρ'.k i = ρ.k i := fun i hi => hag.k i hi
  refine ⟨⟨⟨fun id b hb => ?_, fun i j hi hj he => ?_⟩, hok.fr0.trans (Fr.alloc _ _ _), ?_, fun id hid => ?_, hok.wl0, fun x hx => ?_, by rw [agL hag _ (TM.sc_l hs.2)]; exact hok.tm, (hok.df.ag hag hs.1.2.1.2).mono (by simp [St.cnt]), hok.lv⟩, ?_⟩
  · rcases Nat.lt_or_ge id st.hp.length with hi | hi
    · rw [List.getElem?_append_left hi] at hb
      rw [hko id hi, heap_push _ _ _ (hok.heap.lt hi), obj_ag hag (hpSc_get' hs.1.1.1 hb)]
      exact hok.heap.1 id b hb
    · have hlt := (List.getElem?_eq_some_iff.1 hb).1
      simp at hlt
      have : id = st.hp.length := by omega
      subst this
      simp at hb
      subst hb
      rw [hkn, heap_push_new]
  · simp only [List.length_append, List.length_singleton] at hi hj
    rcases Nat.lt_or_ge i st.hp.length with h1 | h1 <;> rcases Nat.lt_or_ge j st.hp.length with h2 | h2
    · rw [hko i h1, hko j h2] at he
      exact hok.heap.2 i j h1 h2 he
    · have : j = st.hp.length := by omega
      subst this
      rw [hko i h1, hkn] at he
      have := hok.heap.lt h1
      omega
    · have : i = st.hp.length := by omega
      subst this
      rw [hko j h2, hkn] at he
      have := hok.heap.lt h2
      omega
    · omega
  · refine (hok.fr.trans (Fr.alloc _ _ _)).mono (fun j hj _ => ?_)
    obtain ⟨i, hi, rfl⟩ := mem_ids.1 hj
    exact mem_ids.2 ⟨i, by simp; omega, hko i hi⟩
  · simp only [List.length_append, List.length_singleton] at hid
    rcases Nat.lt_or_ge id st.hp.length with h1 | h1
    · rw [hko id h1]; exact hok.new id h1
    · have : id = st.hp.length := by omega
      subst this
      rw [hkn]
      exact .inr hok.fr0.size
  · rw [BE.ag hag _ (pcSc_mem hs.1.1.2 x hx)]
    exact hok.pc x hx
  · refine Later.of_ag hs0 hag ⟨Nat.le_refl _, Nat.le_refl _, Nat.le_refl _, Nat.le_refl _, by simp [St.cnt]⟩ rfl rfl (fun id off hi => ?_) ⟨[], by simp⟩
    exact World.cell?_of_block (w := w) (a := ⟨ρ.k id, off, none⟩) (heap_push w _ _ (hok.heap.lt hi))

theorem blk_sc {c : Cnt} {b : Blk} (hc : scL c b.cells = true) (hk : ∀ self s p, b.keys ≠ some (.lp self s p)) : b.sc c = true := by
  unfold Blk.sc
  rw [hc, Bool.true_and]
  cases h : b.keys with
  | none => rfl
  | some k =>
    cases k with
    | map _ => rfl
    | dfr _ => rfl
    | lp self s p => exact absurd h (hk self s p)
theorem alloc_ok {ρ : Env} {st : St} {tm : TM} {L : List Lp} {wl w : World} {a : Act} (hok : OK K0 w0 D ρ st tm L wl w a) (hs : st.sc tm = true) (blk : Blk) (hc : scL st.cnt blk.cells = true)
    (hk : ∀ self s p, blk.keys ≠ some (.lp self s p) := by intros; nofun) :
    OK K0 w0 D (ρ.setK st.hp.length w.heap.size) { st with hp := st.hp ++ [blk] } tm L wl (w.alloc (blk.obj ρ)) a ∧
    Later ρ st L w (ρ.setK st.hp.length w.heap.size) { st with hp := st.hp ++ [blk] } L (w.alloc (blk.obj ρ)) := by
  have hag : Ag st.cnt ρ (ρ.setK st.hp.length w.heap.size) := setK_ag (Nat.le_refl _) _
  have := alloc_gen hok hs blk hag (by simp [Env.setK])
  rw [obj_ag hag (blk_sc hc hk)] at this
  exact this

/-- What is asked where somebody is called. -/
def Cle.does (P : Program) (ρ : Env) (args : Array Value) (w : World) (R : Value → World → Prop) : Cle → Prop
  | .f g => (callFunc g args).run P w = .ok (.enter g args) w ∧ Calls P g args w fun e w' => ∃ v, e = .returned v ∧ R v w'
  | .y id => ∃ (fn : FuncId) (tmps : Array Value) (assign body : Code), (Instr.yield (ρ.k id) args).run P w = .ok (.round (ρ.k id) fn tmps assign body) w ∧
      ∀ r, RoundIn (Fw r) 0 P (ρ.k id) fn tmps assign body w fun e w' => ∃ v, e = .returned v ∧ R v w'
/-- A call's word: by its answer. -/
def CallOK (P : Program) (K0 : List Nat) (w0 : World) (Post : Value → World → Prop) (callF : CallF) : Prop :=
  ∀ (D : List Deferred) (c : Cle) (args : List SV) (st : St) (tm : TM) (k : KV) (ρ : Env) (L : List Lp) (wl w : World) (a : Act) (R : Value → World → Prop),
    (callF c args st tm k).holds P K0 w0 Post L ρ wl → OK K0 w0 D ρ st tm L wl w a →
    (∀ ρ' st' v L' wl' w', OK K0 w0 D ρ' st' tm L' wl' w' a → Later ρ st L w ρ' st' L' w' → (k st' v).holds P K0 w0 Post L' ρ' wl' → R (v.den ρ') w') →
    c.does P ρ (denL ρ args).toArray w R

theorem newBlk_sound {o : Oper} {tm : TM} {a : Act} {ρ : Env} {st : St} {L : List Lp} {wl w : World} (hok : OK K0 w0 D ρ st tm L wl w a) {cells : List SV} {t : TypeId} {mk : Nat → SV} {k : KV}
    {K : Act → World → Prop} {Q : Exit → Act → World → Prop}
    (h : (newBlk st tm cells t mk k).holds P K0 w0 Post L ρ wl)
    (hd : ∀ c, o.op ≠ .defer c) (hrun : allOne cells = true → (execOp a.eval o).run P w = .ok (.value ((mk st.hp.length).den (ρ.setK st.hp.length w.heap.size))) (w.alloc (.cells (denL ρ cells).toArray t)))
    (hk : ∀ ρ' st' v L' wl' w', OK K0 w0 D ρ' st' tm L' wl' w' a → Later ρ st L w ρ' st' L' w' → (k st' v).holds P K0 w0 Post L' ρ' wl' → K (a.put o.dst (v.den ρ')) w') : OpW P r o a w K Q := by
  unfold newBlk at h
  split at h
  · rename_i hc
    simp only [Bool.and_eq_true] at hc
    simp only [Tree.holds] at h
    obtain ⟨hok', hla⟩ := alloc_ok hok hc.1.1 { cells, t } hc.1.2
    have h2 := h w.heap.size hok.fr.size (fun j hj he => by have := hok.heap.lt hj; omega)
    have := hk _ _ _ _ _ _ hok' hla h2
    exact opW_run hd (hrun hc.2) this
  · exact h.elim

theorem rangeCells_len (z : List SV) (n : Nat) : (rangeCells z n).length = n := by simp [rangeCells]
theorem rangeCells_den (ρ : Env) (z : List SV) (zc : Array Value) (hz : zc = (denL ρ z).toArray) (n : Nat) (hn : n = 0 ∨ 0 < z.length) :
    (Array.range n).map (fun j => zc[j % zc.size]!) = (denL ρ (rangeCells z n)).toArray := by
  subst hz
  apply Array.toList_inj.1
  have e : (denL ρ (rangeCells z n)).toArray.toList = (List.range n).map fun j => (((z[j % z.length]?).getD SV.undef).den ρ) := by
    simp [rangeCells, denL_map]
  rw [e, Array.toList_map, Array.toList_range]
  apply List.map_congr_left
  intro j hj
  have hj := List.mem_range.1 hj
  have hpos : 0 < z.length := by omega
  have hm : j % z.length < z.length := Nat.mod_lt _ hpos
  simp [denL_map, hm]

theorem world_setRow_other (w : World) (g : Nat) (cs : Array Value) (j : Nat) (h : j ≠ g) : (w.setRow g cs).heap[j]? = w.heap[j]? := by
  simp only [World.setRow, Array.getElem?_modify]
  rw [if_neg (by omega)]
theorem world_setRow_same (w : World) (g : Nat) (cs cur : Array Value) (t : TypeId) (fz : Nat × Nat) (h : w.heap[g]? = some (.cells cur t fz)) : (w.setRow g cs).heap[g]? = some (.cells cs t fz) := by
  simp only [World.setRow, Array.getElem?_modify, if_true, h, Option.map_some]

/-- A store into cells that are known. -/
theorem store_ok {ρ : Env} {st : St} {tm : TM} {L : List Lp} {wl w : World} {a : Act} (hok : OK K0 w0 D ρ st tm L wl w a) {id : Nat} {blk : Blk} (hb : st.hp[id]? = some blk) (hkeys : blk.keys = none) {off : Nat} {vs : List SV}
    (hl : off + vs.length ≤ blk.cells.length) (n : Nat) (hn : n = vs.length) :
    OK K0 w0 D ρ { st with hp := st.hp.set id { cells := splice blk.cells off vs, t := blk.t }, log := (id, off, n) :: st.log } tm L wl
      (w.setRow (ρ.k id) ((denL ρ blk.cells).take off ++ denL ρ vs ++ (denL ρ blk.cells).drop (off + (denL ρ vs).length)).toArray) a ∧
    Later ρ st L w ρ { st with hp := st.hp.set id { cells := splice blk.cells off vs, t := blk.t }, log := (id, off, n) :: st.log } L
      (w.setRow (ρ.k id) ((denL ρ blk.cells).take off ++ denL ρ vs ++ (denL ρ blk.cells).drop (off + (denL ρ vs).length)).toArray) := by
  subst hn
  have hid := (List.getElem?_eq_some_iff.1 hb).1
  have hg := hok.heap.1 id blk hb
  simp only [Blk.obj, hkeys] at hg
  generalize hcs : ((denL ρ blk.cells).take off ++ denL ρ vs ++ (denL ρ blk.cells).drop (off + (denL ρ vs).length)).toArray = cs
  have hfr : Fr [ρ.k id] w (w.setRow (ρ.k id) cs) := ⟨by simp, fun j _ hj => world_setRow_other w _ _ _ (by simpa using hj), rfl, rfl, rfl⟩
  refine ⟨⟨⟨fun i b hbi => ?_, fun i j hi hj he => hok.heap.2 i j (by simpa using hi) (by simpa using hj) he⟩, ?_, ?_, fun i hi => hok.new i (by simpa using hi), hok.wl0, hok.pc, hok.tm, hok.df.mono (by simp), hok.lv⟩, ?_⟩
  · by_cases hii : i = id
    · subst hii
      simp [hid] at hbi
      subst hbi
      rw [world_setRow_same w _ cs _ _ _ hg]
      simp only [Blk.obj, denL_splice, hcs]
    · have hbi' : st.hp[i]? = some b := by simpa [List.getElem?_set, Ne.symm hii] using hbi
      have hi := (List.getElem?_eq_some_iff.1 hbi').1
      rw [world_setRow_other w _ _ _ (fun e => hii (hok.heap.2 i id hi hid e))]
      exact hok.heap.1 i b hbi'
  · exact hok.fr0.then hfr (fun j hj => by
      have : j = ρ.k id := by simpa using hj
      subst this
      exact hok.new id hid)
  · refine hok.fr.then (hfr.mono (K' := [ρ.k id]) (fun j hj _ => hj)) (fun j hj => ?_) |>.mono (fun j hj _ => by simpa using hj)
    have : j = ρ.k id := by simpa using hj
    subst this
    exact .inl (mem_ids.2 ⟨id, hid, rfl⟩)
  · refine ⟨rfl, fun _ _ => rfl, fun _ _ => rfl, by simp, ⟨[_], rfl⟩, fun i o hi hn => ?_, ⟨[], by simp⟩, Ag.refl _ _, ⟨Nat.le_refl _, Nat.le_refl _, Nat.le_refl _, Nat.le_refl _, by simp [St.cnt]⟩, rfl⟩
    by_cases hii : i = id
    · subst hii
      have hno : ¬ (off ≤ o ∧ o < off + vs.length) := fun hh => hn ⟨_, List.mem_cons_self, rfl, hh.1, hh.2⟩
      have h1 := world_setRow_same w (ρ.k i) cs _ _ _ hg
      simp only [World.cell?, h1, hg]
      rw [← hcs]
      simp only [List.getElem?_toArray, denL_len, Option.isSome_none, Bool.false_eq_true, if_false]
      rcases Nat.lt_or_ge o off with ho | ho
      · rw [List.append_assoc, List.getElem?_append_left (by rw [List.length_take, denL_len]; omega), List.getElem?_take, if_pos ho]
      · rw [List.getElem?_append_right (by rw [List.length_append, List.length_take, denL_len, denL_len]; omega), List.getElem?_drop]
        congr 1
        rw [List.length_append, List.length_take, denL_len, denL_len]
        omega
    · exact World.cell?_of_block (w := w) (a := ⟨ρ.k i, o, none⟩) (world_setRow_other w _ _ _ (fun e => hii (hok.heap.2 i id hi hid e)))
end
end Rx
