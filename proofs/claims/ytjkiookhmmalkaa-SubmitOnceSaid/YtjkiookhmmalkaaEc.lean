/-
  Functions over data out of trees. No conditions.
-/
import Derived.Test.YtjkiookhmmalkaaEb
import Derived.Deep.DeepAppendWide
import Derived.Laws.OwnMore
namespace Rx
open Go

/-! ### data: what values are, memory and all -/
inductive Dat where
  | int (k : IntKind) (n : Int)
  | bool (b : Bool)
  | sl (rows : List (List Dat))
  deriving Inhabited

/-- A value in a world is a datum; its blocks are S's. -/
inductive Rep (w : World) (S : Nat → Prop) : Value → Dat → Prop
  | int (k : IntKind) (n : Int) : Rep w S (.int k n) (.int k n)
  | bool (b : Bool) : Rep w S (.bool b) (.bool b)
  | nil : Rep w S (.slice none 0 0) (.sl [])
  | sl (a : Addr) (cap : Nat) (rows : List (List Dat)) (sz : Nat) (u : Nat → Nat → Value) (hcap : rows.length ≤ cap)
      (hS : rows ≠ [] → S a.block)
      (hrow : ∀ (i : Nat) (row : List Dat), rows[i]? = some row → row.length = sz)
      (hcell : ∀ (i : Nat) (row : List Dat) (j : Nat) (d : Dat), rows[i]? = some row → row[j]? = some d → w.cell? (a.add (i * sz + j)) = some (u i j))
      (hrep : ∀ (i : Nat) (row : List Dat) (j : Nat) (d : Dat), rows[i]? = some row → row[j]? = some d → Rep w S (u i j) d) :
      Rep w S (.slice (some a) rows.length cap) (.sl rows)

/-! ### variables that stand for data -/
inductive VD where
  | no
  | ro (fr : Bool) (rows : List (List Dat))
  | own (e : TypeId) (sz : Nat) (fr : Bool) (rows : List (List Dat))
  | ptr (s i sz : Nat)
def VD.rows : VD → Option (List (List Dat))
  | .ro _ r => some r
  | .own _ _ _ r => some r
  | _ => none
def VD.dat : VD → Option (Bool × Dat)
  | .ro f r => some (f, .sl r)
  | .own _ _ f r => some (f, .sl r)
  | _ => none
def VD.fr : VD → Bool
  | .ro f _ => f
  | .own _ _ f _ => f
  | _ => false
def VD.noPtr : VD → VD
  | .ptr .. => .no
  | d => d
def VD.isPtr : VD → Bool
  | .ptr .. => true
  | _ => false
def VD.isOwn : VD → Bool
  | .own .. => true
  | _ => false
structure AE where
  i : Nat → Int
  b : Nat → Bool
  v : Nat → VD
  nv : Nat
def AE.setI (A : AE) (n : Nat) (x : Int) : AE := { A with i := fun m => if m = n then x else A.i m }
def AE.setB (A : AE) (n : Nat) (x : Bool) : AE := { A with b := fun m => if m = n then x else A.b m }
/-- A new variable. -/
def AE.setV (A : AE) (n : Nat) (x : VD) : AE := { A with v := fun m => if m = n then x else A.v m, nv := n + 1 }
/-- A variable that is there. -/
def AE.updV (A : AE) (n : Nat) (x : VD) : AE := { A with v := fun m => if m = n then x else A.v m }
/-- Nobody's own any more. -/
def AE.weak (A : AE) (n : Nat) : AE :=
  match A.v n with
  | .own _ _ fr rows => A.updV n (.ro fr rows)
  | _ => A
def AE.len (A : AE) (n : Nat) : Int := match (A.v n).rows with
  | some r => r.length
  | none => 0

def IE.aev (A : AE) : IE → Int
  | .c n => n
  | .v i => A.i i
  | .sl n => A.len n
  | .bin o k x y => ibin o k (x.aev A) (y.aev A)
  | .conv k x => k.wrap (x.aev A)
def IE.ok (A : AE) : IE → Bool
  | .c _ => true
  | .v _ => true
  | .sl n => (A.v n).rows.isSome
  | .bin _ _ x y => x.ok A && y.ok A
  | .conv _ x => x.ok A
def BE.aev (A : AE) : BE → Bool
  | .c b => b
  | .v i => A.b i
  | .cmp o x y => icmp o (x.aev A) (y.aev A)
  | .not x => !(x.aev A)
  | .beq x y => x.aev A == y.aev A
  | .nil _ => false
  | .slc _ => true
  | .isp _ => true
  | .and x y => x.aev A && y.aev A
def BE.ok (A : AE) : BE → Bool
  | .c _ => true
  | .v _ => true
  | .cmp _ x y => x.ok A && y.ok A
  | .not x => x.ok A
  | .beq x y => x.ok A && y.ok A
  | .nil _ => false
  | .slc n => (A.v n).rows.isSome
  | .isp n => (A.v n).isPtr
  | .and x y => x.ok A && y.ok A

/-- Cells cut into rows. -/
def cut (sz : Nat) : Nat → List Dat → List (List Dat)
  | 0, _ => []
  | n + 1, l => l.take sz :: cut sz n (l.drop sz)

def mapO (f : SV → Option (Bool × Dat)) : List SV → Option (Bool × List Dat)
  | [] => some (true, [])
  | x :: r => match f x, mapO f r with
    | some a, some b => some (a.1 && b.1, a.2 :: b.2)
    | _, _ => none
/-- What a value is, if it is no row of a known block; is all of it new? -/
def aleaf (A : AE) : SV → Option (Bool × Dat)
  | .int k e => if e.ok A then some (true, .int k (e.aev A)) else none
  | .bool e => if e.ok A then some (true, .bool (e.aev A)) else none
  | .nils => some (true, .sl [])
  | .val n => (A.v n).dat
  | _ => none
/-- What a value is: m: how deep rows in known blocks may lie. -/
def aden (hp : List Blk) (A : AE) : Nat → SV → Option (Bool × Dat)
  | 0, s => aleaf A s
  | m + 1, .sl id len cap =>
    match hp[id]? with
    | some { cells := cs, t := _, keys := none } =>
      if len ≤ cap ∧ (len = 0 ∨ cap * (cs.length / cap) = cs.length) then
        if len = 0 then some (true, .sl []) else
        match mapO (aden hp A m) cs with
        | some ds => some (ds.1, .sl (cut (cs.length / cap) len ds.2))
        | none => none
      else none
    | _ => none
  | _ + 1, s => aleaf A s
def adenL (hp : List Blk) (A : AE) (m : Nat) (l : List SV) : Option (Bool × List Dat) := mapO (aden hp A m) l

/-- The variables that stand in a value. -/
def usesA (hp : List Blk) : Nat → SV → List Nat
  | _, .val n => [n]
  | m + 1, .sl id _ _ =>
    match hp[id]? with
    | some b => b.cells.flatMap (usesA hp m)
    | _ => []
  | _, _ => []

/-! ### shapes of arguments and results -/
inductive Shp where
  | leaf
  | agg (n : Nat)
  deriving DecidableEq, Repr
inductive RS where
  | one (s : Shp)
  | tup (l : List Shp)
  deriving DecidableEq, Repr
def SV.shp : SV → Shp
  | .agg l => .agg l.length
  | _ => .leaf
def SV.rshp : SV → RS
  | .tup l => .tup (l.map SV.shp)
  | s => .one s.shp
def SV.leaves : SV → List SV
  | .agg l => l
  | s => [s]
def leavesL : List SV → List SV
  | [] => []
  | x :: r => x.leaves ++ leavesL r
def SV.rleaves : SV → List SV
  | .tup l => leavesL l
  | s => s.leaves
def Shp.of : Shp → Value → Option (List Value)
  | .leaf, v => some [v]
  | .agg n, .agg cs => if cs.size = n then some cs.toList else none
  | _, _ => none
def shpsOf : List Shp → List Value → Option (List Value)
  | [], [] => some []
  | s :: r, v :: vs => match s.of v, shpsOf r vs with
    | some a, some b => some (a ++ b)
    | _, _ => none
  | _, _ => none
def RS.of : RS → Value → Option (List Value)
  | .one s, v => s.of v
  | .tup l, .tuple vs => shpsOf l vs.toList
  | _, _ => none

/-- One's own, of which type, or not; all of it new? -/
inductive Bn where
  | no
  | ro (fr : Bool)
  | own (e : TypeId) (sz : Nat) (fr : Bool)
  deriving DecidableEq, Repr
def Bn.vd : Bn → List (List Dat) → VD
  | .no, _ => .no
  | .ro fr, r => .ro fr r
  | .own e sz fr, r => .own e sz fr r

/-- What a function does to data. -/
structure Sg where
  args : List Shp
  res : RS
  /-- which of the result's leaves are the caller's own then -/
  os : List Bn
  fn : List Dat → Option (List Dat)

inductive Out where
  | ret (ds : List Dat)
  | cont (lv : Nat) (vs : List Dat)

/-! ### words of functions over data -/
section
variable {α : Type}
def Dat.flat : Dat → Bool
  | .sl _ => false
  | _ => true
def flatL : List Dat → Bool
  | [] => true
  | d :: r => d.flat && flatL r
/-- The first one is a number. -/
def fI (k : IntKind) (ds : List Dat) (c : Int → List Dat → Option α) : Option α :=
  match ds with
  | .int k' x :: r => if k' = k then c x r else none
  | _ => none
def fJ (ds : List Dat) (c : Int → List Dat → Option α) : Option α :=
  match ds with
  | .int _ x :: r => c x r
  | _ => none
def fB (ds : List Dat) (c : Bool → List Dat → Option α) : Option α :=
  match ds with
  | .bool x :: r => c x r
  | _ => none
def fV (ds : List Dat) (c : List (List Dat) → List Dat → Option α) : Option α :=
  match ds with
  | .sl x :: r => c x r
  | _ => none
/-- A row's cells from one on. -/
def ldK (rows : List (List Dat)) (i sz off : Nat) (c : List Dat → Option α) : Option α :=
  match rows[i]? with
  | some row => if row.length = sz then c (row.drop off) else none
  | none => none
def ixK (rows : List (List Dat)) (i : Int) (c : Option α) : Option α := if 0 ≤ i ∧ i < rows.length then c else none
def apK (fl : Bool) (sz : Nat) (rows news : List (List Dat)) (c : List (List Dat) → Option α) : Option α :=
  if (∀ r ∈ news, r.length = sz ∧ (fl = true → flatL r = true)) ∧ rows.length + news.length ≤ 1000000 then c (rows ++ news) else none
def mkK (n : Int) (z : List Dat) (c : List (List Dat) → Option α) : Option α :=
  if 0 ≤ n ∧ n ≤ 1000000 then c (List.replicate n.toNat z) else none
def slK (sz : Nat) (rows : List (List Dat)) (a b : Int) (c : List (List Dat) → Option α) : Option α :=
  if 0 ≤ a ∧ a ≤ b ∧ b ≤ rows.length ∧ ∀ r ∈ rows, r.length = sz then c ((rows.drop a.toNat).take (b - a).toNat) else none
def stK (rows : List (List Dat)) (i sz off : Nat) (ds : List Dat) (c : List (List Dat) → Option α) : Option α :=
  match rows[i]? with
  | some row => if off + ds.length ≤ sz then c (rows.set i (row.take off ++ ds ++ row.drop (off + ds.length))) else none
  | none => none
/-- The same, whichever it is. -/
noncomputable def agree (a b : Option α) : Option α := open Classical in if a = b then a else none
noncomputable def nilK (rows : List (List Dat)) (a b : Option α) : Option α := open Classical in if rows = [] then agree a b else b
end

inductive RunsN (lv : Nat) (body : List Dat → Option Out) : Nat → List Dat → Out → Prop
  | stop {s : List Dat} {o : Out} : body s = some o → (∀ vs, o ≠ .cont lv vs) → RunsN lv body 0 s o
  | next {s vs : List Dat} {o : Out} {m : Nat} : body s = some (.cont lv vs) → RunsN lv body m vs o → RunsN lv body (m + 1) s o
noncomputable def loopE (lv : Nat) (body : List Dat → Option Out) (s : List Dat) : Option Out :=
  open Classical in if h : ∃ o, ∃ m, RunsN lv body m s o then some (Classical.choose h) else none
theorem loopE_some {lv : Nat} {body : List Dat → Option Out} {s : List Dat} {o : Out} (h : loopE lv body s = some o) : ∃ m, RunsN lv body m s o := by
  unfold loopE at h
  split at h
  · rename_i hh
    cases h
    exact Classical.choose_spec hh
  · cases h
theorem RunsN.det {lv : Nat} {body : List Dat → Option Out} {s : List Dat} {o o' : Out} {m m' : Nat} (h : RunsN lv body m s o) (h' : RunsN lv body m' s o') : o = o' := by
  induction h generalizing m' with
  | stop h1 h2 =>
    cases h' with
    | stop h3 _ => rw [h1] at h3; cases h3; rfl
    | next h3 _ => rw [h1] at h3; cases h3; exact absurd rfl (h2 _)
  | next h1 _ ih =>
    cases h' with
    | stop h3 h4 => rw [h1] at h3; cases h3; exact absurd rfl (h4 _)
    | next h3 h4 => rw [h1] at h3; cases h3; exact ih h4
theorem loopE_of {lv : Nat} {body : List Dat → Option Out} {s : List Dat} {o : Out} {m : Nat} (h : RunsN lv body m s o) : loopE lv body s = some o := by
  unfold loopE
  have hh : ∃ o, ∃ m, RunsN lv body m s o := ⟨o, m, h⟩
  rw [dif_pos hh]
  obtain ⟨m', h'⟩ := Classical.choose_spec hh
  rw [h'.det h]
theorem loopE_ret {lv : Nat} {body : List Dat → Option Out} {s : List Dat} {r : List Dat} (h : body s = some (.ret r)) : loopE lv body s = some (.ret r) :=
  loopE_of (.stop h (fun _ h => by cases h))
theorem loopE_out {lv lv' : Nat} {body : List Dat → Option Out} {s : List Dat} {vs : List Dat} (h : body s = some (.cont lv' vs)) (hne : lv' ≠ lv) : loopE lv body s = some (.cont lv' vs) :=
  loopE_of (.stop h (fun _ h => by cases h; exact hne rfl))
theorem loopE_next {lv : Nat} {body : List Dat → Option Out} {s vs : List Dat} (h : body s = some (.cont lv vs)) : loopE lv body s = loopE lv body vs := by
  by_cases hh : ∃ o, ∃ m, RunsN lv body m vs o
  · obtain ⟨o, m, h1⟩ := hh
    rw [loopE_of h1, loopE_of (.next h h1)]
  · have h2 : ¬ ∃ o, ∃ m, RunsN lv body m s o := by
      rintro ⟨o, m, h1⟩
      cases h1 with
      | stop h3 h4 => rw [h] at h3; cases h3; exact h4 _ rfl
      | next h3 h4 => rw [h] at h3; cases h3; exact hh ⟨_, _, h4⟩
    unfold loopE
    rw [dif_neg hh, dif_neg h2]

/-! ### new variables get what they are -/
def fvOf : SV → List Fv
  | .int _ (.v n) => [.i n]
  | .bool (.v n) => [.b n]
  | .val n => [.v n]
  | _ => []
def fvOfL : List SV → List Fv
  | [] => []
  | x :: r => fvOf x ++ fvOfL r
/-- One leaf. -/
def bind1 {α : Type} (A : AE) (b : Bn) (s : SV) (ds : List Dat) (c : AE → List Dat → Option α) : Option α :=
  match s with
  | .int k (.v n) => fI k ds fun x ds => c (A.setI n x) ds
  | .bool (.v n) => fB ds fun x ds => c (A.setB n x) ds
  | .val n => if A.nv ≤ n then fV ds fun x ds => c (A.setV n (b.vd x)) ds else none
  | _ => none
/-- Of leaves, in order. -/
def bindK {α : Type} (A : AE) : List Bn → List SV → List Dat → (AE → Option α) → Option α
  | b :: bs, x :: r, ds, c => bind1 A b x ds fun A ds => bindK A bs r ds c
  | [], [], _, c => c A
  | _, _, _, _ => none
/-- The same, as a value. -/
def bindE (A : AE) : List Bn → List SV → List Dat → Option AE
  | b :: bs, x :: r, ds => (bind1 A b x ds fun A ds => some (A, ds)).bind fun p => bindE p.1 bs r p.2
  | [], [], _ => some A
  | _, _, _ => none
theorem bind1_eq {α : Type} (A : AE) (b : Bn) (s : SV) (ds : List Dat) (c : AE → List Dat → Option α) : bind1 A b s ds c = (bind1 A b s ds fun A ds => some (A, ds)).bind fun p => c p.1 p.2 := by
  unfold bind1
  split
  · cases ds with
    | nil => rfl
    | cons d ds =>
      cases d <;> try rfl
      simp only [fI]
      split <;> rfl
  · cases ds with
    | nil => rfl
    | cons d ds => cases d <;> rfl
  · split
    · cases ds with
      | nil => rfl
      | cons d ds => cases d <;> rfl
    · rfl
  · rfl
theorem bindK_eq {α : Type} : ∀ (bs : List Bn) (l : List SV) (A : AE) (ds : List Dat) (c : AE → Option α), bindK A bs l ds c = (bindE A bs l ds).bind c
  | [], [], A, ds, c => rfl
  | [], _ :: _, _, _, _ => rfl
  | _ :: _, [], _, _, _ => rfl
  | b :: bs, x :: r, A, ds, c => by
    simp only [bindK, bindE]
    rw [bind1_eq, Option.bind_assoc]
    congr 1
    funext p
    exact bindK_eq bs r p.1 p.2 c

/-! ### loops: what is carried from round to round -/
/-- Of a loop: its variables, what they are, which of one's own it changes. -/
structure LSh where
  fv : List Fv
  bs : List Bn
  ow : List (Nat × Bn)
  deriving DecidableEq, Repr
def LSh.owi (l : LSh) : List Nat := l.ow.map (·.1)
/-- Those that go into what is not one's own. -/
def prepA (A : AE) : List Fv → List Bn → List SV → AE
  | .v _ :: r, .ro _ :: bs, .val m :: s => prepA (A.weak m) r bs s
  | .v _ :: r, _ :: bs, _ :: s => prepA A r bs s
  | .v _ :: _, _, _ => A
  | _ :: r, bs, _ :: s => prepA A r bs s
  | _, _, _ => A
def ownsOf : List Fv → List Bn → List SV → List Nat
  | .v _ :: r, .own .. :: bs, .val m :: s => m :: ownsOf r bs s
  | .v _ :: r, _ :: bs, _ :: s => ownsOf r bs s
  | .v _ :: _, _, _ => []
  | _ :: r, bs, _ :: s => ownsOf r bs s
  | _, _, _ => []
def val1 (A : AE) (b : Bn) (s : SV) : Option (List Dat) :=
  match b, s with
  | .no, s => if s.one then some [] else none
  | .ro fr, .val m => match A.v m with
    | .ro fr' rows => if !fr || fr' then some [.sl rows] else none
    | _ => none
  | .own e sz fr, .val m => match A.v m with
    | .own e' sz' fr' rows => if e = e' ∧ sz = sz' ∧ (!fr || fr') then some [.sl rows] else none
    | _ => none
  | .ro _, .nils => some [.sl []]
  | .own .., .nils => some [.sl []]
  | _, _ => none
def fvVals (A : AE) : List Fv → List Bn → List SV → Option (List Dat)
  | [], [], [] => some []
  | .i _ :: r, bs, .int k e :: s => if e.ok A then (fvVals A r bs s).map fun l => .int k (e.aev A) :: l else none
  | .b _ :: r, bs, .bool e :: s => if e.ok A then (fvVals A r bs s).map fun l => .bool (e.aev A) :: l else none
  | .v _ :: r, b :: bs, x :: s => (val1 A b x).bind fun a => (fvVals A r bs s).map fun l => a ++ l
  | .g _ :: r, bs, _ :: s => fvVals A r bs s
  | _, _, _ => none
def owVals (A : AE) : List (Nat × Bn) → Option (List Dat)
  | [] => some []
  | p :: r => match p.2, A.v p.1 with
    | .own e sz fr, .own e' sz' fr' rows => if e = e' ∧ sz = sz' ∧ (!fr || fr') then (owVals A r).map fun l => .sl rows :: l else none
    | _, _ => none
/-- What a loop carries. -/
def carry (A : AE) (l : LSh) (vals : List SV) : Option (List Dat) :=
  match owVals (prepA A l.fv l.bs vals) l.ow, fvVals (prepA A l.fv l.bs vals) l.fv l.bs vals with
  | some a, some b => if (ownsOf l.fv l.bs vals ++ l.owi).Nodup then some (a ++ b) else none
  | _, _ => none
def bindOw {α : Type} (A : AE) : List (Nat × Bn) → List Dat → (AE → List Dat → Option α) → Option α
  | [], ds, c => c A ds
  | p :: r, ds, c => fV ds fun x ds => bindOw (A.updV p.1 (p.2.vd x)) r ds c
def bindFv {α : Type} (A : AE) : List Fv → List Bn → List Dat → (AE → Option α) → Option α
  | [], _, _, c => c A
  | .i n :: r, bs, ds, c => fJ ds fun x ds => bindFv (A.setI n x) r bs ds c
  | .b n :: r, bs, ds, c => fB ds fun x ds => bindFv (A.setB n x) r bs ds c
  | .v n :: r, b :: bs, ds, c => if A.nv ≤ n then (match b with
    | .no => bindFv (A.setV n .no) r bs ds c
    | b => fV ds fun x ds => bindFv (A.setV n (b.vd x)) r bs ds c) else none
  | .v _ :: _, [], _, _ => none
  | .g _ :: r, bs, ds, c => bindFv A r bs ds c
/-- Of one's own ones just these are kept. -/
def AE.keep (A : AE) : AE := { A with v := fun n => if (A.v n).isOwn then .no else A.v n }
/-- A round's head. -/
def bindLp {α : Type} (A : AE) (l : LSh) (ds : List Dat) (c : AE → Option α) : Option α := bindOw A l.ow ds fun A ds => bindFv A l.fv l.bs ds c
def owE (A : AE) : List (Nat × Bn) → List Dat → Option (AE × List Dat)
  | [], ds => some (A, ds)
  | p :: r, ds => match ds with
    | .sl x :: ds => owE (A.updV p.1 (p.2.vd x)) r ds
    | _ => none
def fvE (A : AE) : List Fv → List Bn → List Dat → Option AE
  | [], _, _ => some A
  | .i n :: r, bs, ds => match ds with
    | .int _ x :: ds => fvE (A.setI n x) r bs ds
    | _ => none
  | .b n :: r, bs, ds => match ds with
    | .bool x :: ds => fvE (A.setB n x) r bs ds
    | _ => none
  | .v n :: r, b :: bs, ds => if A.nv ≤ n then (match b with
    | .no => fvE (A.setV n .no) r bs ds
    | b => match ds with
      | .sl x :: ds => fvE (A.setV n (b.vd x)) r bs ds
      | _ => none) else none
  | .v _ :: _, [], _ => none
  | .g _ :: r, bs, ds => fvE A r bs ds
def lpE (A : AE) (l : LSh) (ds : List Dat) : Option AE := (owE A l.ow ds).bind fun p => fvE p.1 l.fv l.bs p.2
theorem bindOw_eq {α : Type} : ∀ (l : List (Nat × Bn)) (A : AE) (ds : List Dat) (c : AE → List Dat → Option α), bindOw A l ds c = (owE A l ds).bind fun p => c p.1 p.2
  | [], _, _, _ => rfl
  | p :: r, A, ds, c => by
    simp only [bindOw, owE, fV]
    cases ds with
    | nil => rfl
    | cons d ds =>
      cases d <;> try rfl
      exact bindOw_eq r _ _ _
theorem bindFv_eq {α : Type} : ∀ (fv : List Fv) (bs : List Bn) (A : AE) (ds : List Dat) (c : AE → Option α), bindFv A fv bs ds c = (fvE A fv bs ds).bind c
  | [], _, _, _, _ => rfl
  | .i n :: r, bs, A, ds, c => by
    simp only [bindFv, fvE, fJ]
    cases ds with
    | nil => rfl
    | cons d ds =>
      cases d <;> try rfl
      exact bindFv_eq r _ _ _ _
  | .b n :: r, bs, A, ds, c => by
    simp only [bindFv, fvE, fB]
    cases ds with
    | nil => rfl
    | cons d ds =>
      cases d <;> try rfl
      exact bindFv_eq r _ _ _ _
  | .v n :: r, [], A, ds, c => rfl
  | .v n :: r, b :: bs, A, ds, c => by
    simp only [bindFv, fvE]
    split
    · cases b with
      | no => exact bindFv_eq r _ _ _ _
      | ro fr =>
        simp only [fV]
        cases ds with
        | nil => rfl
        | cons d ds =>
          cases d <;> try rfl
          exact bindFv_eq r _ _ _ _
      | own e sz fr =>
        simp only [fV]
        cases ds with
        | nil => rfl
        | cons d ds =>
          cases d <;> try rfl
          exact bindFv_eq r _ _ _ _
    · rfl
  | .g _ :: r, bs, A, ds, c => by
    simp only [bindFv, fvE]
    exact bindFv_eq r _ _ _ _
theorem bindLp_eq {α : Type} (A : AE) (l : LSh) (ds : List Dat) (c : AE → Option α) : bindLp A l ds c = (lpE A l ds).bind c := by
  unfold bindLp lpE
  rw [bindOw_eq, Option.bind_assoc]
  congr 1
  funext p
  exact bindFv_eq _ _ _ _ _

/-! ### what a tree comes to -/
/-- What is asked of slices' types: the elements' type, their cells, their zero. -/
abbrev GT := TypeId → Option (TypeId × Nat × List Dat)

def AE.drop (A : AE) : Option Nat → AE
  | some m => A.updV m .no
  | none => A
/-- Those that are laid into cells are nobody's own any more. -/
def weakL (A : AE) : List SV → AE
  | [] => A
  | .val m :: r => weakL (A.weak m) r
  | _ :: r => weakL A r
/-- One's own rows, to be appended to: whose variable they are, of which type, and what is there. -/
def ownSV (A : AE) (hp : List Blk) : SV → Option (Option Nat × Option (TypeId × Nat) × Bool × List (List Dat))
  | .nils => some (none, none, true, [])
  | .sl id 0 0 => match hp[id]? with
    | some { cells := [], t := _, keys := none } => some (none, none, true, [])
    | _ => none
  | .val m => match A.v m with
    | .own e sz fr rows => some (some m, some (e, sz), fr, rows)
    | _ => none
  | _ => none
/-- What is appended; what of one's own is laid into cells is nobody's own any more. -/
def srcSV (A : AE) (hp : List Blk) : SV → Option (AE × Bool × List (List Dat))
  | .nils => some (A, true, [])
  | .val m => (A.v m).rows.map fun r => (A, (A.v m).fr, r)
  | .sl id len cap =>
    match hp[id]? with
    | some { cells := cs, t := _, keys := none } =>
      if len ≤ cap ∧ (len = 0 ∨ cap * (cs.length / cap) = cs.length) then
        if len = 0 then some (A, true, []) else
        match adenL [] (weakL A cs) 0 cs with
        | some ds => some (weakL A cs, ds.1, cut (cs.length / cap) len ds.2)
        | none => none
      else none
    | _ => none
  | _ => none
def boundI (lo hi : Bool) (bs : List SV) (A : AE) (n : Nat) : Option (Int × Int) :=
  match lo, hi, bs with
  | false, false, [] => some (0, n)
  | true, false, [.int _ a] => if a.ok A then some (a.aev A, n) else none
  | false, true, [.int _ b] => if b.ok A then some (0, b.aev A) else none
  | true, true, [.int _ a, .int _ b] => if a.ok A && b.ok A then some (a.aev A, b.aev A) else none
  | _, _, _ => none

/-- Which leaves come back as the caller's own: their variables. -/
def retOwn (A : AE) : List Bn → List SV → Option (List Nat)
  | [], [] => some []
  | .own e sz _ :: bs, x :: r => match x with
    | .nils => retOwn A bs r
    | .val m => match A.v m with
      | .own e' sz' _ _ => if e = e' ∧ sz = sz' then (retOwn A bs r).map fun l => m :: l else none
      | _ => none
    | _ => none
  | _ :: bs, _ :: r => retOwn A bs r
  | _, _ => none
def retUse (hp : List Blk) : List Bn → List SV → List Nat
  | .own .. :: bs, _ :: r => retUse hp bs r
  | _ :: bs, x :: r => usesA hp 4 x ++ retUse hp bs r
  | _, _ => []

noncomputable def Tree.eval (G : GT) (K : FuncId → Option Sg) (H : List Fv → Nat → LSh) (os : List Bn) : Tree → Nat → List LSh → AE → Option Out
  | .bot, _, _, _ => none
  | .stuck _, _, _, _ => none
  | .ret n v hp, k, _, A =>
    if n = k ∧ hp.length = k then
      match adenL hp A 4 v.rleaves, retOwn A os v.rleaves with
      | some ds, some ow => if ds.1 = true ∧ (ow ++ []).Nodup ∧ (∀ m ∈ retUse hp os v.rleaves, m ∉ ow) then some (.ret ds.2) else none
      | _, _ => none
    else none
  | .br c t e, k, L, A =>
    match c with
    | .nil n => match (A.v n).rows with
      | some rows => nilK rows (t.eval G K H os k L A) (e.eval G K H os k L A)
      | none => none
    | .not (.nil n) => match (A.v n).rows with
      | some rows => nilK rows (e.eval G K H os k L A) (t.eval G K H os k L A)
      | none => none
    | c => if c.ok A then cond (c.aev A) (t.eval G K H os k L A) (e.eval G K H os k L A) else none
  | .need c t, k, L, A => if c.ok A then cond (c.aev A) (t.eval G K H os k L A) none else none
  | .new id t, k, L, A => if id = k then t.eval G K H os (k + 1) L A else none
  | .newf id t, k, L, A => if id = k then t.eval G K H os (k + 1) L A else none
  | .call hp f args fv v t, k, L, A =>
    match K f with
    | some s =>
      if hp.length = k ∧ fv = fvOfL v.rleaves ∧ fv.Nodup ∧ args.map SV.shp = s.args ∧ v.rshp = s.res then
        match adenL hp A 4 (leavesL args) with
        | some ds => (s.fn ds.2).bind fun rs => bindK A s.os v.rleaves rs fun A => t.eval G K H os k L A
        | none => none
      else none
    | none => none
  | .idx s i sz n t, k, L, A =>
    if i.ok A ∧ A.nv ≤ n then
      match (A.v s).rows with
      | some rows => ixK rows (i.aev A) (t.eval G K H os k L (A.setV n (.ptr s (i.aev A).toNat sz)))
      | none => none
    else none
  | .ld n p fv vs t, k, L, A =>
    if n ≤ k ∧ fv = fvOfL vs ∧ fv.Nodup then
      match p with
      | .optr m off => match A.v m with
        | .ptr s i sz => match (A.v s).rows with
          | some rows => ldK rows i sz off fun ds => bindK A (vs.map fun _ => .ro (A.v s).fr) vs ds fun A => t.eval G K H os k L A
          | none => none
        | _ => none
      | _ => none
    else none
  | .sem op args hp n t, k, L, A =>
    if hp.length = k ∧ A.nv ≤ n then
      match op, args with
      | .append ats _, [x, y] =>
        match ats.toList with
        | [ty, ty'] => match G ty with
          | some g => match srcSV A hp y with
            | some src => match ownSV src.1 hp x with
              | some ow => if ty = ty' ∧ (ow.2.1 = none ∨ ow.2.1 = some (g.1, g.2.1)) then
                  apK (flatL g.2.2) g.2.1 ow.2.2.2 src.2.2 fun r => t.eval G K H os k L ((src.1.drop ow.1).setV n (.own g.1 g.2.1 (ow.2.2.1 && (src.2.1 || flatL g.2.2)) r))
                else none
              | none => none
            | none => none
          | none => none
        | _ => none
      | .mks ty, [.int _ l, .int _ c] =>
        match G ty with
        | some g => if l.ok A ∧ c = l then mkK (l.aev A) g.2.2 fun r => t.eval G K H os k L (A.setV n (.own g.1 g.2.1 true r)) else none
        | none => none
      | .slice ty lo hi false, .val m :: bs =>
        match G ty, (A.v m).rows with
        | some g, some rows => match boundI lo hi bs A rows.length with
          | some ab => slK g.2.1 rows ab.1 ab.2 fun r => t.eval G K H os k L ((A.weak m).setV n (.ro (A.v m).fr r))
          | none => none
        | _, _ => none
      | _, _ => none
    else none
  | .sto k' p vs t, k, L, A =>
    if k' ≤ k then
      match p with
      | .optr m off => match A.v m with
        | .ptr s i sz => match adenL [] (weakL A vs) 0 vs, (weakL A vs).v s with
          | some ds, .own e sz' fr rows => if sz = sz' then stK rows i sz off ds.2 fun r => t.eval G K H os k L ((weakL A vs).updV s (.own e sz (fr && ds.1) r)) else none
          | _, _ => none
        | _ => none
      | _ => none
    else none
  | .loop fv ini n t, k, L, A =>
    if n ≤ k ∧ fv = (H fv k).fv then
      match carry A (H fv k) ini with
      | some vs => loopE L.length (fun ds => bindLp (prepA A fv (H fv k).bs ini).keep (H fv k) ds fun A => t.eval G K H os k (L ++ [H fv k]) A) vs
      | none => none
    else none
  | .cont lv n vals, k, L, A =>
    if n ≤ k then
      match L[lv]? with
      | some l => (carry A l vals).map fun vs => .cont lv vs
      | none => none
    else none
  | .both t e, k, L, A => agree (t.eval G K H os k L A) (e.eval G K H os k L A)
end Rx

namespace Rx
open Go

theorem add_block (a : Addr) (n : Nat) : (a.add n).block = a.block := by unfold Addr.add; split <;> rfl
theorem add_plain (b off n : Nat) : (⟨b, off, none⟩ : Addr).add n = ⟨b, off + n, none⟩ := by simp [Addr.add]

/-! ### a datum in another world -/
theorem Rep.move {w w' : World} {S S' : Nat → Prop} {v : Value} {d : Dat} (h : Rep w S v d) (hh : ∀ b, S b → w'.heap[b]? = w.heap[b]?) (hS' : ∀ b, S b → S' b) : Rep w' S' v d := by
  induction h with
  | int k n => exact .int k n
  | bool b => exact .bool b
  | nil => exact .nil
  | sl a cap rows sz u hcap hS hrow hcell hrep ih =>
    refine .sl a cap rows sz u hcap (fun hne => hS' _ (hS hne)) hrow (fun i row j d h1 h2 => ?_) ih
    have hne : rows ≠ [] := by intro e; subst e; simp at h1
    rw [World.cell?_of_block (w := w) (a := a.add (i * sz + j)) (by rw [add_block]; exact hh _ (hS hne))]
    exact hcell i row j d h1 h2
theorem Rep.mono {w : World} {S S' : Nat → Prop} {v : Value} {d : Dat} (h : Rep w S v d) (hS' : ∀ b, S b → S' b) : Rep w S' v d := h.move (fun _ _ => rfl) hS'
theorem Rep.one {w : World} {S : Nat → Prop} {v : Value} {d : Dat} (h : Rep w S v d) : v.oneCell' = true := by
  cases h <;> rfl
/-- What a slice's datum says of the value. -/
theorem Rep.slice {w : World} {S : Nat → Prop} {v : Value} {rows : List (List Dat)} (h : Rep w S v (.sl rows)) : ∃ a cap, v = .slice a rows.length cap ∧ isSlice v = true ∧ lenOf v = rows.length ∧ (isNil v = true → rows = []) := by
  cases h with
  | nil => exact ⟨none, 0, rfl, rfl, rfl, fun _ => rfl⟩
  | sl a cap _ sz u => exact ⟨some a, cap, rfl, rfl, rfl, fun h => by cases h⟩

/-! ### one's own rows -/
def ownBlk : Value → Option Nat
  | .slice (some a) _ cap => if cap = 0 then none else some a.block
  | _ => none
structure CellsRep (w : World) (S : Nat → Prop) (sz : Nat) (xs : List Value) (rows : List (List Dat)) : Prop where
  len : ∀ (i : Nat) (row : List Dat), rows[i]? = some row → row.length = sz
  cell : ∀ (i : Nat) (row : List Dat) (j : Nat) (d : Dat), rows[i]? = some row → row[j]? = some d → ∃ u, xs[i * sz + j]? = some u ∧ Rep w S u d
def OwnRep (w : World) (B : Nat) (S : Nat → Prop) (e : TypeId) (sz : Nat) (v : Value) (rows : List (List Dat)) : Prop :=
  (v = .slice none 0 0 ∧ rows = []) ∨ (∃ a, v = .slice (some a) 0 0 ∧ rows = []) ∨
  (∃ g cap xs, v = .slice (some ⟨g, 0, none⟩) rows.length cap ∧ 0 < cap ∧ w.ownsRow B e sz v rows.length xs ∧ CellsRep w S sz xs rows)

theorem CellsRep.move {w w' : World} {S S' : Nat → Prop} {sz : Nat} {xs : List Value} {rows : List (List Dat)} (h : CellsRep w S sz xs rows) (hh : ∀ b, S b → w'.heap[b]? = w.heap[b]?) (hS : ∀ b, S b → S' b) : CellsRep w' S' sz xs rows :=
  ⟨h.len, fun i row j d h1 h2 => let ⟨u, h3, h4⟩ := h.cell i row j d h1 h2; ⟨u, h3, h4.move hh hS⟩⟩
theorem OwnRep.move {w w' : World} {B : Nat} {S S' : Nat → Prop} {e : TypeId} {sz : Nat} {v : Value} {rows : List (List Dat)} (h : OwnRep w B S e sz v rows) (hh : ∀ b, S b → w'.heap[b]? = w.heap[b]?) (hS : ∀ b, S b → S' b)
    (ho : ∀ b, ownBlk v = some b → w'.heap[b]? = w.heap[b]?) : OwnRep w' B S' e sz v rows := by
  rcases h with h | h | ⟨g, cap, xs, rfl, hc, h1, h2⟩
  · exact .inl h
  · exact .inr (.inl h)
  · refine .inr (.inr ⟨g, cap, xs, rfl, hc, ⟨h1.1, ?_⟩, h2.move hh hS⟩)
    rcases h1.2 with ⟨h3, _⟩ | ⟨g', cap', cur, h3, h4, h5, h6⟩
    · cases h3
    · cases h3
      exact .inr ⟨g, cap, cur, rfl, h4, by rw [ho g (by simp [ownBlk]; omega)]; exact h5, h6⟩
theorem OwnRep.low {w : World} {B B' : Nat} {S : Nat → Prop} {e : TypeId} {sz : Nat} {v : Value} {rows : List (List Dat)} (h : OwnRep w B S e sz v rows) (hB : B' ≤ B) : OwnRep w B' S e sz v rows := by
  rcases h with h | h | ⟨g, cap, xs, rfl, hc, h1, h2⟩
  · exact .inl h
  · exact .inr (.inl h)
  · refine .inr (.inr ⟨g, cap, xs, rfl, hc, ⟨h1.1, ?_⟩, h2⟩)
    rcases h1.2 with ⟨h3, _⟩ | ⟨g', cap', cur, h3, h4, h5⟩
    · cases h3
    · exact .inr ⟨g', cap', cur, h3, Nat.le_trans hB h4, h5⟩
theorem OwnRep.slice {w : World} {B : Nat} {S : Nat → Prop} {e : TypeId} {sz : Nat} {v : Value} {rows : List (List Dat)} (h : OwnRep w B S e sz v rows) : v.oneCell' = true ∧ isSlice v = true ∧ lenOf v = rows.length ∧ (isNil v = true → rows = []) := by
  rcases h with ⟨rfl, rfl⟩ | ⟨a, rfl, rfl⟩ | ⟨g, cap, xs, rfl, hc, h1, h2⟩
  · exact ⟨rfl, rfl, rfl, fun _ => rfl⟩
  · exact ⟨rfl, rfl, rfl, fun _ => rfl⟩
  · exact ⟨rfl, rfl, rfl, fun h => by cases h⟩
theorem OwnRep.lt {w : World} {B : Nat} {S : Nat → Prop} {e : TypeId} {sz : Nat} {v : Value} {rows : List (List Dat)} (h : OwnRep w B S e sz v rows) {b : Nat} (hb : ownBlk v = some b) : B ≤ b ∧ b < w.heap.size := by
  rcases h with ⟨rfl, rfl⟩ | ⟨a, rfl, rfl⟩ | ⟨g, cap, xs, rfl, hc, h1, h2⟩
  · simp [ownBlk] at hb
  · simp [ownBlk] at hb
  · simp [ownBlk] at hb
    obtain ⟨_, rfl⟩ := hb
    exact h1.lt g rfl
/-- One's own as anybody's. -/
theorem OwnRep.rep {w : World} {B : Nat} {S S' : Nat → Prop} {e : TypeId} {sz : Nat} {v : Value} {rows : List (List Dat)} (h : OwnRep w B S e sz v rows) (hS : ∀ b, S b → S' b) (ho : ∀ b, ownBlk v = some b → S' b) : Rep w S' v (.sl rows) := by
  rcases h with ⟨rfl, rfl⟩ | ⟨a, rfl, rfl⟩ | ⟨g, cap, xs, rfl, hc, h1, h2⟩
  · exact .nil
  · exact .sl a 0 [] 0 (fun _ _ => default) (Nat.le_refl _) (fun h => (h rfl).elim) (fun i row h => by simp at h) (fun i row j d h => by simp at h) (fun i row j d h => by simp at h)
  · have hb : ownBlk (.slice (some ⟨g, 0, none⟩) rows.length cap) = some g := by simp [ownBlk]; omega
    have hcap : rows.length ≤ cap := by
      rcases h1.2 with ⟨h3, _⟩ | ⟨g', cap', cur, h3, h4, h5, h6, _⟩
      · cases h3
      · cases h3; exact h6
    have hcl := h1.cells (g := g) rfl
    refine .sl ⟨g, 0, none⟩ cap rows sz (fun i j => (xs[i * sz + j]?).getD default) hcap (fun _ => ho g hb) h2.len (fun i row j d h3 h4 => ?_) (fun i row j d h3 h4 => ?_)
    · obtain ⟨u, h5, h6⟩ := h2.cell i row j d h3 h4
      rw [hcl _ _ h5, h5]; rfl
    · obtain ⟨u, h5, h6⟩ := h2.cell i row j d h3 h4
      rw [h5]
      exact h6.mono hS

/-! ### what holds between the variables, the data, the world -/
def Sf (B : Nat) (F : Nat → Prop) (fr : Bool) : Nat → Prop := fun b => F b ∧ (fr = true → B ≤ b)
theorem Sf.f {B : Nat} {F : Nat → Prop} {fr : Bool} {b : Nat} (h : Sf B F fr b) : F b := h.1
theorem Sf.mono {B : Nat} {F F' : Nat → Prop} {fr fr' : Bool} (hF : ∀ b, F b → F' b) (hf : fr' = true → fr = true) : ∀ b, Sf B F fr b → Sf B F' fr' b := fun b h => ⟨hF b h.1, fun e => h.2 (hf e)⟩
structure InvF (B k : Nat) (F : Nat → Prop) (ρ : Env) (A : AE) (w : World) : Prop where
  ei : A.i = ρ.i
  eb : A.b = ρ.b
  top : ∀ n, A.nv ≤ n → A.v n = .no
  out : ∀ b, F b → b < w.heap.size ∧ b ∉ ids ρ k ∧ ∀ n, (A.v n).isOwn = true → ownBlk (ρ.v n) ≠ some b
  ro : ∀ n fr rows, A.v n = .ro fr rows → Rep w (Sf B F fr) (ρ.v n) (.sl rows)
  own : ∀ n e sz fr rows, A.v n = .own e sz fr rows → OwnRep w B (Sf B F fr) e sz (ρ.v n) rows ∧ ∀ b, ownBlk (ρ.v n) = some b → b ∉ ids ρ k
  ptr : ∀ n s i sz, A.v n = .ptr s i sz → s < A.nv ∧ ∃ a len cap, ρ.v s = .slice (some a) len cap ∧ ρ.v n = .pointer (some (a.add (i * sz)))
  inj : ∀ n m b, (A.v n).isOwn = true → (A.v m).isOwn = true → ownBlk (ρ.v n) = some b → ownBlk (ρ.v m) = some b → n = m
  idw : ∀ id, id < k → B ≤ ρ.k id
  size : B ≤ w.heap.size

section
variable {B k : Nat} {F : Nat → Prop} {ρ : Env} {A : AE} {w : World}

theorem isOwn_own {x : VD} (h : x.isOwn = true) : ∃ e sz fr rows, x = .own e sz fr rows := by
  cases x <;> simp [VD.isOwn] at h
  exact ⟨_, _, _, _, rfl⟩

/-- Just the known blocks may have changed. -/
theorem InvF.world (h : InvF B k F ρ A w) {w' : World} {n : Nat} (hn : n ≤ k) (hf : Fr (ids ρ n) w w') : InvF B k F ρ A w' := by
  have hsub : ∀ b, b ∉ ids ρ k → b ∉ ids ρ n := fun b hb hb' => hb (by
    obtain ⟨i, hi, rfl⟩ := mem_ids.1 hb'
    exact mem_ids.2 ⟨i, by omega, rfl⟩)
  have hF : ∀ b, F b → w'.heap[b]? = w.heap[b]? := fun b hb => hf.block b (h.out b hb).1 (hsub b (h.out b hb).2.1)
  refine ⟨h.ei, h.eb, h.top, fun b hb => ⟨Nat.lt_of_lt_of_le (h.out b hb).1 hf.size, (h.out b hb).2⟩, fun n fr rows hv => (h.ro n fr rows hv).move (fun b hb => hF b hb.1) (fun _ h => h), fun n e sz fr rows hv => ?_, h.ptr, h.inj, h.idw, Nat.le_trans h.size hf.size⟩
  obtain ⟨h1, h2⟩ := h.own n e sz fr rows hv
  exact ⟨h1.move (fun b hb => hF b hb.1) (fun _ h => h) (fun b hb => hf.block b (h1.lt hb).2 (hsub b (h2 b hb))), h2⟩
/-- Blocks of data are as they were. -/
theorem InvF.other (h : InvF B k F ρ A w) {w' : World} (hs : w.heap.size ≤ w'.heap.size) (hF : ∀ b, F b → w'.heap[b]? = w.heap[b]?) (ho : ∀ n b, (A.v n).isOwn = true → ownBlk (ρ.v n) = some b → w'.heap[b]? = w.heap[b]?) : InvF B k F ρ A w' :=
  ⟨h.ei, h.eb, h.top, fun b hb => ⟨Nat.lt_of_lt_of_le (h.out b hb).1 hs, (h.out b hb).2⟩, fun n fr rows hv => (h.ro n fr rows hv).move (fun b hb => hF b hb.1) (fun _ h => h),
   fun n e sz fr rows hv => ⟨(h.own n e sz fr rows hv).1.move (fun b hb => hF b hb.1) (fun _ h => h) (fun b hb => ho n b (by rw [hv]; rfl) hb), (h.own n e sz fr rows hv).2⟩, h.ptr, h.inj, h.idw, Nat.le_trans h.size hs⟩

theorem InvF.rows (h : InvF B k F ρ A w) {n : Nat} {rows : List (List Dat)} (hr : (A.v n).rows = some rows) : isSlice (ρ.v n) = true ∧ lenOf (ρ.v n) = rows.length ∧ (isNil (ρ.v n) = true → rows = []) := by
  cases hv : A.v n with
  | no => rw [hv] at hr; cases hr
  | ptr s i sz => rw [hv] at hr; cases hr
  | ro fr rows' =>
    rw [hv] at hr
    cases hr
    obtain ⟨_, _, _, h2, h3, h4⟩ := (h.ro n fr _ hv).slice
    exact ⟨h2, h3, h4⟩
  | own e sz fr rows' =>
    rw [hv] at hr
    cases hr
    exact (h.own n e sz fr _ hv).1.slice.2

theorem IE.aev_ev (h : InvF B k F ρ A w) : ∀ (e : IE), e.ok A = true → e.aev A = e.ev ρ
  | .c _, _ => rfl
  | .v i, _ => by simp only [IE.aev, IE.ev, h.ei]
  | .sl n, hk => by
    simp only [IE.ok, Option.isSome_iff_exists] at hk
    obtain ⟨rows, hr⟩ := hk
    simp only [IE.aev, IE.ev, AE.len, hr, (h.rows hr).2.1]
  | .bin o kk x y, hk => by
    simp only [IE.ok, Bool.and_eq_true] at hk
    simp only [IE.aev, IE.ev, IE.aev_ev h x hk.1, IE.aev_ev h y hk.2]
  | .conv kk x, hk => by
    simp only [IE.ok] at hk
    simp only [IE.aev, IE.ev, IE.aev_ev h x hk]
theorem BE.aev_ev (h : InvF B k F ρ A w) : ∀ (e : BE), e.ok A = true → e.aev A = e.ev ρ
  | .c _, _ => rfl
  | .v i, _ => by simp only [BE.aev, BE.ev, h.eb]
  | .cmp _ x y, hk => by
    simp only [BE.ok, Bool.and_eq_true] at hk
    simp only [BE.aev, BE.ev, IE.aev_ev h x hk.1, IE.aev_ev h y hk.2]
  | .not x, hk => by
    simp only [BE.ok] at hk
    simp only [BE.aev, BE.ev, BE.aev_ev h x hk]
  | .beq x y, hk => by
    simp only [BE.ok, Bool.and_eq_true] at hk
    simp only [BE.aev, BE.ev, BE.aev_ev h x hk.1, BE.aev_ev h y hk.2]
  | .nil n, hk => by simp [BE.ok] at hk
  | .slc n, hk => by
    simp only [BE.ok, Option.isSome_iff_exists] at hk
    obtain ⟨rows, hr⟩ := hk
    simp only [BE.aev, BE.ev, (h.rows hr).1]
  | .isp n, hk => by
    simp only [BE.ok] at hk
    simp only [BE.aev, BE.ev]
    cases hv : A.v n <;> rw [hv] at hk <;> simp [VD.isPtr] at hk
    obtain ⟨_, a, len, cap, _, h2⟩ := h.ptr n _ _ _ hv
    rw [h2]
    rfl
  | .and x y, hk => by
    simp only [BE.ok, Bool.and_eq_true] at hk
    simp only [BE.aev, BE.ev, BE.aev_ev h x hk.1, BE.aev_ev h y hk.2]

/-! ### what a value is -/
/-- Blocks that a value may lie in: those of F, known ones, those of one's own in U. -/
def Sx (B k : Nat) (F : Nat → Prop) (ρ : Env) (A : AE) (w : World) (U : List Nat) (fr : Bool) : Nat → Prop :=
  fun b => Sf B F fr b ∨ (B ≤ b ∧ b < w.heap.size ∧ (b ∈ ids ρ k ∨ ∃ m ∈ U, (A.v m).isOwn = true ∧ ownBlk (ρ.v m) = some b))
theorem Sx.lt (h : InvF B k F ρ A w) {U : List Nat} {fr : Bool} {b : Nat} (hb : Sx B k F ρ A w U fr b) : b < w.heap.size := by
  rcases hb with hb | hb
  · exact (h.out b hb.1).1
  · exact hb.2.1
theorem Sx.mono {U U' : List Nat} {fr fr' : Bool} (hU : ∀ m ∈ U, m ∈ U') (hf : fr' = true → fr = true) {b : Nat} (hb : Sx B k F ρ A w U fr b) : Sx B k F ρ A w U' fr' b := by
  rcases hb with hb | ⟨h1, h2, h3⟩
  · exact .inl (Sf.mono (fun _ h => h) hf b hb)
  · refine .inr ⟨h1, h2, ?_⟩
    rcases h3 with h3 | ⟨m, h3, h4⟩
    · exact .inl h3
    · exact .inr ⟨m, hU m h3, h4⟩

theorem dat_rep (h : InvF B k F ρ A w) {n : Nat} {fr : Bool} {d : Dat} (hd : (A.v n).dat = some (fr, d)) : Rep w (Sx B k F ρ A w [n] fr) (ρ.v n) d := by
  cases hv : A.v n with
  | no => rw [hv] at hd; cases hd
  | ptr s i sz => rw [hv] at hd; cases hd
  | ro fr' rows' =>
    rw [hv] at hd
    cases hd
    exact (h.ro n fr _ hv).mono (fun b hb => .inl hb)
  | own e sz fr' rows' =>
    rw [hv] at hd
    cases hd
    have h1 := (h.own n e sz fr _ hv).1
    exact h1.rep (fun b hb => .inl hb) (fun b hb => .inr ⟨(h1.lt hb).1, (h1.lt hb).2, .inr ⟨n, by simp, by rw [hv]; rfl, hb⟩⟩)
theorem aleaf_rep (h : InvF B k F ρ A w) {s : SV} {fr : Bool} {d : Dat} (hd : aleaf A s = some (fr, d)) : Rep w (Sx B k F ρ A w (usesA [] 0 s) fr) (s.den ρ) d := by
  cases s <;> simp only [aleaf] at hd <;> try (cases hd; done)
  · rename_i kk e
    split at hd
    · rename_i hok
      cases hd
      simp only [SV.den, ← IE.aev_ev h e hok]
      exact .int _ _
    · cases hd
  · rename_i e
    split at hd
    · rename_i hok
      cases hd
      simp only [SV.den, ← BE.aev_ev h e hok]
      exact .bool _
    · cases hd
  · exact dat_rep h hd
  · cases hd
    exact .nil
theorem cut_get : ∀ {sz n : Nat} {l : List Dat} {i : Nat} {row : List Dat}, (cut sz n l)[i]? = some row → row = (l.drop (i * sz)).take sz ∧ i < n
  | sz, 0, l, i, row, h => by simp [cut] at h
  | sz, n + 1, l, 0, row, h => by simp [cut] at h; exact ⟨by simp [h], by omega⟩
  | sz, n + 1, l, i + 1, row, h => by
    simp only [cut, List.getElem?_cons_succ] at h
    obtain ⟨h1, h2⟩ := cut_get h
    refine ⟨?_, by omega⟩
    rw [h1, List.drop_drop]
    congr 2
    rw [Nat.add_mul]; omega
theorem cut_len : ∀ (sz n : Nat) (l : List Dat), (cut sz n l).length = n
  | _, 0, _ => rfl
  | sz, n + 1, l => by simp [cut, cut_len sz n]
theorem mapO_rep {f : SV → Option (Bool × Dat)} {us : SV → List Nat} {Q : List Nat → Bool → Value → Dat → Prop} (hf : ∀ s fr d, f s = some (fr, d) → Q (us s) fr (s.den ρ) d)
    (hQ : ∀ U U' fr fr' v d, (∀ m ∈ U, m ∈ U') → (fr' = true → fr = true) → Q U fr v d → Q U' fr' v d) : ∀ {l : List SV} {fr : Bool} {ds : List Dat}, mapO f l = some (fr, ds) →
    ds.length = l.length ∧ ∀ (j : Nat) s d, l[j]? = some s → ds[j]? = some d → Q (l.flatMap us) fr (s.den ρ) d
  | [], fr, ds, hd => by
    simp only [mapO, Option.some.injEq] at hd
    cases hd
    exact ⟨rfl, fun j s d h => by simp at h⟩
  | x :: r, fr, ds, hd => by
    simp only [mapO] at hd
    split at hd
    · rename_i a b ha hb
      obtain ⟨fa, da⟩ := a
      obtain ⟨fb, db⟩ := b
      cases hd
      have h1 := hf x fa da ha
      have h2 := mapO_rep hf hQ hb
      refine ⟨by simp [h2.1], fun j s d hs hdj => ?_⟩
      cases j with
      | zero =>
        simp at hs hdj
        subst hs hdj
        exact hQ _ _ _ _ _ _ (fun m hm => by simp [hm]) (by simp; intro h _; exact h) h1
      | succ j => exact hQ _ _ _ _ _ _ (fun m hm => by simp only [List.flatMap_cons, List.mem_append]; exact .inr hm) (by simp) (h2.2 j s d (by simpa using hs) (by simpa using hdj))
    · cases hd
theorem Sx_Q (U U' : List Nat) (fr fr' : Bool) (v : Value) (d : Dat) (hU : ∀ m ∈ U, m ∈ U') (hf : fr' = true → fr = true) (h : Rep w (Sx B k F ρ A w U fr) v d) : Rep w (Sx B k F ρ A w U' fr') v d :=
  h.mono (fun _ hb => Sx.mono hU hf hb)
theorem aden_rep (h : InvF B k F ρ A w) {hp : List Blk} (ho : HeapOK ρ hp w) (hk : hp.length ≤ k) : ∀ (m : Nat) (s : SV) (fr : Bool) (d : Dat), aden hp A m s = some (fr, d) → Rep w (Sx B k F ρ A w (usesA hp m s) fr) (s.den ρ) d
  | 0, s, fr, d, hd => by
    have := aleaf_rep h hd
    cases s <;> exact this
  | m + 1, s, fr, d, hd => by
    cases s
    case sl id len cap =>
      simp only [aden] at hd
      split at hd
      · rename_i cs t hb
        split at hd
        · rename_i hc
          have hid := (List.getElem?_eq_some_iff.1 hb).1
          split at hd
          · rename_i hl0
            cases hd
            subst hl0
            exact .sl ⟨ρ.k id, 0, none⟩ cap [] 0 (fun _ _ => default) (by simp) (fun h => (h rfl).elim) (fun i row h => by simp at h) (fun i row j d h => by simp at h) (fun i row j d h => by simp at h)
          · rename_i hl0
            split at hd
            · rename_i ds hds
              obtain ⟨fd, ds⟩ := ds
              cases hd
              have hcap : cap * (cs.length / cap) = cs.length := hc.2.resolve_left hl0
              have hds' := mapO_rep (Q := fun U fr v d => Rep w (Sx B k F ρ A w U fr) v d) (fun s fr d hd => aden_rep h ho hk m s fr d hd) Sx_Q hds
              have hidw : B ≤ ρ.k id ∧ ρ.k id < w.heap.size := ⟨h.idw id (by omega), ho.lt hid⟩
              have hsz : ∀ i, i < len → i * (cs.length / cap) + cs.length / cap ≤ cs.length := by
                intro i hi
                have h1 : (i + 1) * (cs.length / cap) ≤ cap * (cs.length / cap) := Nat.mul_le_mul_right _ (by omega)
                rw [hcap] at h1
                rw [Nat.add_mul] at h1
                omega
              have hg := ho.1 id _ hb
              simp only [Blk.obj] at hg
              have hrow : ∀ (i : Nat) (row : List Dat), (cut (cs.length / cap) len ds)[i]? = some row → row.length = cs.length / cap := by
                intro i row h1
                obtain ⟨rfl, hi⟩ := cut_get h1
                rw [List.length_take, List.length_drop, hds'.1]
                have := hsz i hi
                omega
              have hus : usesA hp (m + 1) (.sl id len cap) = cs.flatMap (usesA hp m) := by simp [usesA, hb]
              rw [hus]
              have hget : ∀ (i : Nat) (row : List Dat) (j : Nat) (d : Dat), (cut (cs.length / cap) len ds)[i]? = some row → row[j]? = some d → ∃ s, cs[i * (cs.length / cap) + j]? = some s ∧ Rep w (Sx B k F ρ A w (cs.flatMap (usesA hp m)) fd) (s.den ρ) d := by
                intro i row j d h1 h2
                have h3 := hrow i row h1
                obtain ⟨rfl, hi⟩ := cut_get h1
                have hj : j < cs.length / cap := by
                  have := (List.getElem?_eq_some_iff.1 h2).1
                  omega
                rw [List.getElem?_take, if_pos hj, List.getElem?_drop] at h2
                have hlt := (List.getElem?_eq_some_iff.1 h2).1
                rw [hds'.1] at hlt
                exact ⟨_, List.getElem?_eq_getElem hlt, hds'.2 _ _ _ (List.getElem?_eq_getElem hlt) h2⟩
              have := Rep.sl (w := w) (S := Sx B k F ρ A w (cs.flatMap (usesA hp m)) fd) ⟨ρ.k id, 0, none⟩ cap (cut (cs.length / cap) len ds) (cs.length / cap) (fun i j => ((denL ρ cs)[i * (cs.length / cap) + j]?).getD default)
                (by rw [cut_len]; exact hc.1) (fun _ => .inr ⟨hidw.1, hidw.2, .inl (mem_ids.2 ⟨id, by omega, rfl⟩)⟩) hrow
                (fun i row j d h1 h2 => by
                  obtain ⟨s, h3, _⟩ := hget i row j d h1 h2
                  simp only [add_plain, Nat.zero_add, World.cell?, hg]
                  simp [denL_get, h3])
                (fun i row j d h1 h2 => by
                  obtain ⟨s, h3, h4⟩ := hget i row j d h1 h2
                  simp only [denL_get, h3, Option.map_some, Option.getD_some]
                  exact h4)
              rw [cut_len] at this
              exact this
            · cases hd
        · cases hd
      · cases hd
    all_goals (have := aleaf_rep h hd; exact this)
theorem adenL_rep (h : InvF B k F ρ A w) {hp : List Blk} (ho : HeapOK ρ hp w) (hk : hp.length ≤ k) (m : Nat) (l : List SV) {fr : Bool} {ds : List Dat} (hd : adenL hp A m l = some (fr, ds)) :
    ds.length = l.length ∧ ∀ (j : Nat) s d, l[j]? = some s → ds[j]? = some d → Rep w (Sx B k F ρ A w (l.flatMap (usesA hp m)) fr) (s.den ρ) d :=
  mapO_rep (Q := fun U fr v d => Rep w (Sx B k F ρ A w U fr) v d) (fun s fr d hd => aden_rep h ho hk m s fr d hd) Sx_Q hd
theorem mapO_each {f : SV → Option (Bool × Dat)} : ∀ {l : List SV} {fr : Bool} {ds : List Dat}, mapO f l = some (fr, ds) → ds.length = l.length ∧ ∀ (j : Nat) s, l[j]? = some s → ∃ fr' d, f s = some (fr', d) ∧ ds[j]? = some d ∧ (fr = true → fr' = true)
  | [], fr, ds, hd => by
    simp only [mapO, Option.some.injEq] at hd
    cases hd
    exact ⟨rfl, fun j s h => by simp at h⟩
  | x :: r, fr, ds, hd => by
    simp only [mapO] at hd
    split at hd
    · rename_i a b ha hb
      obtain ⟨fa, da⟩ := a
      obtain ⟨fb, db⟩ := b
      cases hd
      obtain ⟨h1, h2⟩ := mapO_each hb
      refine ⟨by simp [h1], fun j s hs => ?_⟩
      cases j with
      | zero =>
        simp at hs
        subst hs
        exact ⟨fa, da, ha, rfl, by simp; intro h _; exact h⟩
      | succ j =>
        obtain ⟨fr', d, h3, h4, h5⟩ := h2 j s (by simpa using hs)
        exact ⟨fr', d, h3, by simpa using h4, by simp; intro _ h; exact h5 h⟩
    · cases hd

/-! ### arguments, results -/
/-- Leaves of a result: S: the blocks that are not one's own. -/
def ownsIn : List Bn → List Value → List Nat
  | .own .. :: bs, u :: us => (ownBlk u).toList ++ ownsIn bs us
  | _ :: bs, _ :: us => ownsIn bs us
  | _, _ => []
def LeafOK (w : World) (N : Nat) (S : Nat → Prop) : List Bn → List Value → List Dat → Prop
  | [], [], [] => True
  | .own e sz _ :: bs, u :: us, d :: ds => (∃ rows, d = .sl rows ∧ OwnRep w N S e sz u rows) ∧ (∀ b, ownBlk u = some b → ¬ S b ∧ b ∉ ownsIn bs us) ∧ LeafOK w N S bs us ds
  | _ :: bs, u :: us, d :: ds => Rep w S u d ∧ LeafOK w N S bs us ds
  | _, _, _ => False
def Bn.ok : Bn → Bool
  | .no => false
  | .ro fr => fr
  | .own _ _ fr => fr
def ResOK (w : World) (N : Nat) (s : Sg) (v : Value) (ds : List Dat) : Prop :=
  ∃ us, s.res.of v = some us ∧ ∃ S : Nat → Prop, (∀ b, S b → N ≤ b ∧ b < w.heap.size) ∧ LeafOK w N S s.os us ds

/-- A function does this to data; what comes back is new, and nothing that was there is changed. -/
def FnOK (P : Program) (f : FuncId) (s : Sg) : Prop :=
  (∀ b ∈ s.os, b.ok = true) ∧ ∀ (w : World) (args us : List Value) (ds rs : List Dat), shpsOf s.args args = some us → us.length = ds.length → (∀ (j : Nat) u d, us[j]? = some u → ds[j]? = some d → Rep w (fun b => b < w.heap.size) u d) → s.fn ds = some rs →
    Calls P f args.toArray w fun e w' => ∃ v, e = .returned v ∧ Fr [] w w' ∧ ResOK w' w.heap.size s v rs
end
end Rx

namespace Rx
open Go
section
variable {B k : Nat} {F : Nat → Prop} {ρ : Env} {A : AE} {w : World}

theorem InvF.setI (h : InvF B k F ρ A w) (n : Nat) (x : Int) : InvF B k F (ρ.setI n x) (A.setI n x) w :=
  ⟨by simp only [AE.setI, Env.setI, h.ei], h.eb, h.top, h.out, h.ro, h.own, h.ptr, h.inj, h.idw, h.size⟩
theorem InvF.setB (h : InvF B k F ρ A w) (n : Nat) (x : Bool) : InvF B k F (ρ.setB n x) (A.setB n x) w :=
  ⟨h.ei, by simp only [AE.setB, Env.setB, h.eb], h.top, h.out, h.ro, h.own, h.ptr, h.inj, h.idw, h.size⟩
theorem InvF.setG (h : InvF B k F ρ A w) (n : Nat) (x : Value) : InvF B k F (ρ.setG n x) A w :=
  ⟨h.ei, h.eb, h.top, h.out, h.ro, h.own, h.ptr, h.inj, h.idw, h.size⟩

/-- Fewer, or others, as F says. -/
theorem InvF.more {F' : Nat → Prop} (h : InvF B k F ρ A w) (hF : ∀ b, F b → F' b) (hout : ∀ b, F' b → b < w.heap.size ∧ b ∉ ids ρ k ∧ ∀ n, (A.v n).isOwn = true → ownBlk (ρ.v n) ≠ some b) : InvF B k F' ρ A w :=
  ⟨h.ei, h.eb, h.top, hout, fun n fr rows hv => (h.ro n fr rows hv).mono (Sf.mono hF (fun h => h)), fun n e sz fr rows hv => ⟨(h.own n e sz fr rows hv).1.move (fun _ _ => rfl) (Sf.mono hF (fun h => h)) (fun _ _ => rfl), (h.own n e sz fr rows hv).2⟩, h.ptr, h.inj, h.idw, h.size⟩

theorem setV_ne {ρ : Env} {n m : Nat} {x : Value} {hx : x.oneCell' = true} (h : m ≠ n) : (ρ.setV n x hx).v m = ρ.v m := by simp [Env.setV, h]
theorem setV_eq {ρ : Env} {n : Nat} {x : Value} {hx : x.oneCell' = true} : (ρ.setV n x hx).v n = x := by simp [Env.setV]
theorem AE.setV_ne {A : AE} {n m : Nat} {x : VD} (h : m ≠ n) : (A.setV n x).v m = A.v m := by simp [AE.setV, h]
theorem AE.setV_eq {A : AE} {n : Nat} {x : VD} : (A.setV n x).v n = x := by simp [AE.setV]

/-- A new variable that is nobody's own. -/
theorem InvF.setV (h : InvF B k F ρ A w) {n : Nat} (hn : A.nv ≤ n) {x : Value} (hx : x.oneCell' = true) {d : VD} (hd : d.isOwn = false)
    (hr : ∀ fr rows, d = .ro fr rows → Rep w (Sf B F fr) x (.sl rows))
    (hp : ∀ s i sz, d = .ptr s i sz → s < A.nv ∧ ∃ a len cap, ρ.v s = .slice (some a) len cap ∧ x = .pointer (some (a.add (i * sz)))) : InvF B k F (ρ.setV n x hx) (A.setV n d) w := by
  have hv : ∀ m, m ≠ n → (A.setV n d).v m = A.v m := fun m hm => AE.setV_ne hm
  have hl : ∀ m, (A.setV n d).v m ≠ .no → m = n ∨ (m ≠ n ∧ m < A.nv) := fun m hm => by
    by_cases he : m = n
    · exact .inl he
    · rw [hv m he] at hm
      rcases Nat.lt_or_ge m A.nv with h1 | h1
      · exact .inr ⟨he, h1⟩
      · exact absurd (h.top m h1) hm
  have hown : ∀ m, ((A.setV n d).v m).isOwn = true → m ≠ n ∧ (A.v m).isOwn = true := fun m hm => by
    by_cases he : m = n
    · subst he
      rw [AE.setV_eq, hd] at hm
      cases hm
    · rw [hv m he] at hm
      exact ⟨he, hm⟩
  refine ⟨h.ei, h.eb, fun m hm => ?_, fun b hb => ⟨(h.out b hb).1, (h.out b hb).2.1, fun m hm => ?_⟩, fun m fr rows hm => ?_, fun m e sz fr rows hm => ?_, fun m s i sz hm => ?_, fun m m' b h1 h2 h3 h4 => ?_, h.idw, h.size⟩
  · have h1 : n + 1 ≤ m := hm
    rw [hv m (by omega)]
    exact h.top m (by omega)
  · obtain ⟨h1, h2⟩ := hown m hm
    rw [Rx.setV_ne h1]
    exact (h.out b hb).2.2 m h2
  · by_cases he : m = n
    · subst he
      rw [AE.setV_eq] at hm
      rw [setV_eq]
      exact hr _ _ hm
    · rw [hv m he] at hm
      rw [Rx.setV_ne he]
      exact h.ro m _ _ hm
  · obtain ⟨h1, h2⟩ := hown m (by rw [hm]; rfl)
    rw [hv m h1] at hm
    rw [Rx.setV_ne h1]
    exact h.own m _ _ _ _ hm
  · by_cases he : m = n
    · subst he
      rw [AE.setV_eq] at hm
      obtain ⟨h1, a, len, cap, h2, h3⟩ := hp _ _ _ hm
      refine ⟨Nat.lt_of_lt_of_le h1 (Nat.le_trans hn (Nat.le_succ _)), a, len, cap, ?_, ?_⟩
      · rw [Rx.setV_ne (by omega)]; exact h2
      · rw [setV_eq]; exact h3
    · rw [hv m he] at hm
      obtain ⟨h1, a, len, cap, h2, h3⟩ := h.ptr m _ _ _ hm
      have : m < A.nv := by
        rcases Nat.lt_or_ge m A.nv with h4 | h4
        · exact h4
        · rw [h.top m h4] at hm; cases hm
      refine ⟨Nat.lt_of_lt_of_le h1 (Nat.le_trans hn (Nat.le_succ _)), a, len, cap, ?_, ?_⟩
      · rw [Rx.setV_ne (by omega)]; exact h2
      · rw [Rx.setV_ne he]; exact h3
  · obtain ⟨e1, e2⟩ := hown m h1
    obtain ⟨e3, e4⟩ := hown m' h2
    rw [Rx.setV_ne e1] at h3
    rw [Rx.setV_ne e3] at h4
    exact h.inj m m' b e2 e4 h3 h4

/-- A new variable of one's own. -/
theorem InvF.setOwn (h : InvF B k F ρ A w) {n : Nat} (hn : A.nv ≤ n) {x : Value} (hx : x.oneCell' = true) {e : TypeId} {sz : Nat} {fr : Bool} {rows : List (List Dat)} (hr : OwnRep w B (Sf B F fr) e sz x rows)
    (ho : ∀ b, ownBlk x = some b → b ∉ ids ρ k ∧ ¬ F b ∧ ∀ m, (A.v m).isOwn = true → ownBlk (ρ.v m) ≠ some b) : InvF B k F (ρ.setV n x hx) (A.setV n (.own e sz fr rows)) w := by
  have hv : ∀ m, m ≠ n → (A.setV n (.own e sz fr rows)).v m = A.v m := fun m hm => AE.setV_ne hm
  have hlt : ∀ m, A.v m ≠ .no → m < A.nv := fun m hm => by
    rcases Nat.lt_or_ge m A.nv with h4 | h4
    · exact h4
    · exact absurd (h.top m h4) hm
  refine ⟨h.ei, h.eb, fun m hm => ?_, fun b hb => ⟨(h.out b hb).1, (h.out b hb).2.1, fun m hm => ?_⟩, fun m fr rows hm => ?_, fun m e sz fr rows hm => ?_, fun m s i sz hm => ?_, fun m m' b h1 h2 h3 h4 => ?_, h.idw, h.size⟩
  · have h1 : n + 1 ≤ m := hm
    rw [hv m (by omega)]
    exact h.top m (by omega)
  · by_cases he : m = n
    · subst he
      rw [setV_eq]
      exact fun h1 => (ho b h1).2.1 hb
    · rw [hv m he] at hm
      rw [Rx.setV_ne he]
      exact (h.out b hb).2.2 m hm
  · have he : m ≠ n := by rintro rfl; rw [AE.setV_eq] at hm; cases hm
    rw [hv m he] at hm
    rw [Rx.setV_ne he]
    exact h.ro m _ _ hm
  · by_cases he : m = n
    · subst he
      rw [AE.setV_eq] at hm
      cases hm
      rw [setV_eq]
      exact ⟨hr, fun b hb => (ho b hb).1⟩
    · rw [hv m he] at hm
      rw [Rx.setV_ne he]
      exact h.own m _ _ _ _ hm
  · have he : m ≠ n := by rintro rfl; rw [AE.setV_eq] at hm; cases hm
    rw [hv m he] at hm
    obtain ⟨h1, a, len, cap, h2, h3⟩ := h.ptr m _ _ _ hm
    refine ⟨Nat.lt_of_lt_of_le h1 (Nat.le_trans hn (Nat.le_succ _)), a, len, cap, ?_, ?_⟩
    · rw [Rx.setV_ne (by omega)]; exact h2
    · rw [Rx.setV_ne he]; exact h3
  · by_cases e1 : m = n <;> by_cases e2 : m' = n
    · rw [e1, e2]
    · subst e1
      rw [setV_eq] at h3
      rw [hv m' e2] at h2
      rw [Rx.setV_ne e2] at h4
      exact absurd h4 ((ho b h3).2.2 m' h2)
    · subst e2
      rw [setV_eq] at h4
      rw [hv m e1] at h1
      rw [Rx.setV_ne e1] at h3
      exact absurd h3 ((ho b h4).2.2 m h1)
    · rw [hv m e1] at h1
      rw [hv m' e2] at h2
      rw [Rx.setV_ne e1] at h3
      rw [Rx.setV_ne e2] at h4
      exact h.inj m m' b h1 h2 h3 h4

theorem updV_ne {A : AE} {n m : Nat} {x : VD} (h : m ≠ n) : (A.updV n x).v m = A.v m := by simp [AE.updV, h]
theorem updV_eq {A : AE} {n : Nat} {x : VD} : (A.updV n x).v n = x := by simp [AE.updV]

/-- It is no more there. -/
theorem InvF.drop (h : InvF B k F ρ A w) (n : Nat) : InvF B k F ρ (A.updV n .no) w := by
  have hv : ∀ m, (A.updV n .no).v m ≠ .no → (A.updV n .no).v m = A.v m := fun m hm => by
    by_cases he : m = n
    · subst he; rw [updV_eq] at hm; exact absurd rfl hm
    · exact updV_ne he
  refine ⟨h.ei, h.eb, fun m hm => ?_, fun b hb => ⟨(h.out b hb).1, (h.out b hb).2.1, fun m hm => ?_⟩, fun m fr rows hm => ?_, fun m e sz fr rows hm => ?_, fun m s i sz hm => ?_, fun m m' b h1 h2 h3 h4 => ?_, h.idw, h.size⟩
  · by_cases he : m = n
    · subst he; exact updV_eq
    · rw [updV_ne he]; exact h.top m hm
  · rw [hv m (by intro e; rw [e] at hm; cases hm)] at hm
    exact (h.out b hb).2.2 m hm
  · rw [hv m (by rw [hm]; simp)] at hm
    exact h.ro m _ _ hm
  · rw [hv m (by rw [hm]; simp)] at hm
    exact h.own m _ _ _ _ hm
  · rw [hv m (by rw [hm]; simp)] at hm
    exact h.ptr m _ _ _ hm
  · rw [hv m (by intro e; rw [e] at h1; cases h1)] at h1
    rw [hv m' (by intro e; rw [e] at h2; cases h2)] at h2
    exact h.inj m m' b h1 h2 h3 h4

/-- Nobody's own any more. -/
theorem InvF.weak (h : InvF B k F ρ A w) (n : Nat) : ∃ F', (∀ b, F b → F' b) ∧ InvF B k F' ρ (A.weak n) w := by
  unfold AE.weak
  cases hv : A.v n with
  | no => exact ⟨F, fun _ h => h, h⟩
  | ptr s i sz => exact ⟨F, fun _ h => h, h⟩
  | ro fr rows => exact ⟨F, fun _ h => h, h⟩
  | own e sz fr rows =>
    obtain ⟨h1, h2⟩ := h.own n e sz fr rows hv
    have hn : n < A.nv := by
      rcases Nat.lt_or_ge n A.nv with h4 | h4
      · exact h4
      · rw [h.top n h4] at hv; cases hv
    have hs : ∀ m, m ≠ n → (A.updV n (.ro fr rows)).v m = A.v m := fun m hm => updV_ne hm
    refine ⟨fun b => F b ∨ ownBlk (ρ.v n) = some b, fun _ h => .inl h, ⟨h.ei, h.eb, fun m hm => ?_, fun b hb => ?_, fun m fr' rows' hm => ?_, fun m e sz fr' rows hm => ?_, fun m s i sz hm => ?_, fun m m' b h3 h4 h5 h6 => ?_, h.idw, h.size⟩⟩
    · have hm' : A.nv ≤ m := hm
      rw [hs m (by omega)]; exact h.top m hm'
    · have hother : ∀ m, ((A.updV n (.ro fr rows)).v m).isOwn = true → m ≠ n ∧ (A.v m).isOwn = true := fun m hm => by
        by_cases he : m = n
        · subst he; rw [updV_eq] at hm; cases hm
        · rw [hs m he] at hm; exact ⟨he, hm⟩
      rcases hb with hb | hb
      · exact ⟨(h.out b hb).1, (h.out b hb).2.1, fun m hm => (h.out b hb).2.2 m (hother m hm).2⟩
      · exact ⟨(h1.lt hb).2, h2 b hb, fun m hm he => (hother m hm).1 (h.inj m n b (hother m hm).2 (by rw [hv]; rfl) he hb)⟩
    · by_cases he : m = n
      · subst he
        rw [updV_eq] at hm
        cases hm
        exact h1.rep (Sf.mono (fun _ h => .inl h) (fun h => h)) (fun b hb => ⟨.inr hb, fun _ => (h1.lt hb).1⟩)
      · rw [hs m he] at hm
        exact (h.ro m _ _ hm).mono (Sf.mono (fun _ h => .inl h) (fun h => h))
    · have he : m ≠ n := by rintro rfl; rw [updV_eq] at hm; cases hm
      rw [hs m he] at hm
      obtain ⟨h3, h4⟩ := h.own m _ _ _ _ hm
      exact ⟨h3.move (fun _ _ => rfl) (Sf.mono (fun _ h => .inl h) (fun h => h)) (fun _ _ => rfl), h4⟩
    · have he : m ≠ n := by rintro rfl; rw [updV_eq] at hm; cases hm
      rw [hs m he] at hm
      exact h.ptr m _ _ _ hm
    · have e1 : m ≠ n := by rintro rfl; rw [updV_eq] at h3; cases h3
      have e2 : m' ≠ n := by rintro rfl; rw [updV_eq] at h4; cases h4
      rw [hs m e1] at h3
      rw [hs m' e2] at h4
      exact h.inj m m' b h3 h4 h5 h6

/-- A block that is known from now on. -/
theorem InvF.newId (h : InvF B k F ρ A w) {b : Nat} (hb : w.heap.size ≤ b) : InvF B (k + 1) F (ρ.setK k b) A w := by
  have hids : ∀ x, x ∈ ids (ρ.setK k b) (k + 1) → x = b ∨ x ∈ ids ρ k := fun x hx => by
    obtain ⟨i, hi, rfl⟩ := mem_ids.1 hx
    by_cases he : i = k
    · subst he; exact .inl (by simp [Env.setK])
    · exact .inr (mem_ids.2 ⟨i, by omega, by simp [Env.setK, he]⟩)
  refine ⟨h.ei, h.eb, h.top, fun x hx => ⟨(h.out x hx).1, fun hi => ?_, (h.out x hx).2.2⟩, h.ro, fun n e sz fr rows hv => ?_, h.ptr, h.inj, fun id hid => ?_, h.size⟩
  · rcases hids x hi with rfl | hi
    · have := (h.out x hx).1; omega
    · exact (h.out x hx).2.1 hi
  · obtain ⟨h1, h2⟩ := h.own n _ _ _ _ hv
    refine ⟨h1, fun x hx hi => ?_⟩
    rcases hids x hi with rfl | hi
    · have := (h1.lt hx).2; omega
    · exact h2 x hx hi
  · by_cases he : id = k
    · subst he
      simp only [Env.setK, if_true]
      have := h.size
      omega
    · have := h.idw id (by omega)
      simp only [Env.setK, if_neg he]
      exact this
end
end Rx

namespace Rx
open Go
section
variable {B k : Nat} {F : Nat → Prop} {ρ : Env} {A : AE} {w : World}

/-- They differ in these alone. -/
def Dif (fv : List Fv) (ρ ρ' : Env) : Prop :=
  (∀ n, Fv.i n ∉ fv → ρ'.i n = ρ.i n) ∧ (∀ n, Fv.b n ∉ fv → ρ'.b n = ρ.b n) ∧ (∀ n, Fv.v n ∉ fv → ρ'.v n = ρ.v n) ∧ ρ'.k = ρ.k
theorem Dif.refl (ρ : Env) : Dif [] ρ ρ := ⟨fun _ _ => rfl, fun _ _ => rfl, fun _ _ => rfl, rfl⟩
theorem Dif.trans {f g : List Fv} {a b c : Env} (h : Dif f a b) (h' : Dif g b c) : Dif (f ++ g) a c :=
  ⟨fun n hn => (h'.1 n (fun e => hn (List.mem_append_right _ e))).trans (h.1 n (fun e => hn (List.mem_append_left _ e))),
   fun n hn => (h'.2.1 n (fun e => hn (List.mem_append_right _ e))).trans (h.2.1 n (fun e => hn (List.mem_append_left _ e))),
   fun n hn => (h'.2.2.1 n (fun e => hn (List.mem_append_right _ e))).trans (h.2.2.1 n (fun e => hn (List.mem_append_left _ e))), h'.2.2.2.trans h.2.2.2⟩

/-- A leaf of a pattern: a new variable. -/
def isPat : SV → Bool
  | .int _ (.v _) => true
  | .bool (.v _) => true
  | .val _ => true
  | _ => false
theorem pat_den {x : SV} {fv : List Fv} {ρ ρ' : Env} (hp : isPat x = true) (hd : Dif fv ρ ρ') (hf : ∀ f ∈ fvOf x, f ∉ fv) : x.den ρ' = x.den ρ := by
  unfold isPat at hp
  split at hp
  · simp only [SV.den, IE.ev]; rw [hd.1 _ (hf _ (by simp [fvOf]))]
  · simp only [SV.den, BE.ev]; rw [hd.2.1 _ (hf _ (by simp [fvOf]))]
  · exact hd.2.2.1 _ (hf _ (by simp [fvOf]))
  · cases hp

/-- What binding comes to. -/
structure Bnd (B k : Nat) (F : Nat → Prop) (ρ : Env) (A' : AE) (w : World) (fv : List Fv) (ρ' : Env) : Prop where
  inv : InvF B k F ρ' A' w
  dif : Dif fv ρ ρ'
  ex : ∀ (rest : List Fv) (p : Env → Prop), exF rest ρ' p → exF (fv ++ rest) ρ p

/-- Leaves that may be bound. -/
def LB (w : World) (B : Nat) (F : Nat → Prop) : List Bn → List Value → List Dat → Prop
  | [], [], [] => True
  | .own e sz fr :: bs, u :: us, d :: ds => (∃ rows, d = .sl rows ∧ OwnRep w B (Sf B F fr) e sz u rows) ∧ (∀ b, ownBlk u = some b → b ∉ ownsIn bs us) ∧ LB w B F bs us ds
  | .ro fr :: bs, u :: us, d :: ds => Rep w (Sf B F fr) u d ∧ LB w B F bs us ds
  | _, _, _ => False
theorem OwnRep.dat {w : World} {S : Nat → Prop} {e : TypeId} {sz : Nat} {u : Value} {rows : List (List Dat)} (h : OwnRep w B S e sz u rows) : ∃ S', Rep w S' u (.sl rows) :=
  ⟨fun b => S b ∨ ownBlk u = some b, h.rep (fun _ h => .inl h) (fun _ h => .inr h)⟩

theorem bindE_ok : ∀ {bs : List Bn} {l : List SV} {us : List Value} {ds : List Dat} {A A' : AE} {ρ : Env} (_ : InvF B k F ρ A w) (_ : bindE A bs l ds = some A') (_ : (fvOfL l).Nodup) (_ : LB w B F bs us ds)
    (_ : ∀ b ∈ ownsIn bs us, b ∉ ids ρ k ∧ ¬ F b ∧ ∀ m, (A.v m).isOwn = true → ownBlk (ρ.v m) ≠ some b), ∃ ρ', Bnd B k F ρ A' w (fvOfL l) ρ' ∧ denL ρ' l = us
  | [], [], us, ds, A, A', ρ, h, hb, _, hl, _ => by
    simp only [bindE, Option.some.injEq] at hb
    subst hb
    cases us with
    | nil => exact ⟨ρ, ⟨h, Dif.refl _, fun _ _ h => h⟩, rfl⟩
    | cons _ _ => exact hl.elim
  | [], _ :: _, _, _, _, _, _, _, hb, _, _, _ => by simp [bindE] at hb
  | _ :: _, [], _, _, _, _, _, _, hb, _, _, _ => by simp [bindE] at hb
  | b :: bs, x :: r, us, ds, A, A', ρ, h, hb, hnd, hl, ho => by
    cases us with
    | nil => cases b <;> exact hl.elim
    | cons u us =>
    cases ds with
    | nil => cases b <;> exact hl.elim
    | cons d ds =>
    simp only [bindE] at hb
    simp only [fvOfL, List.nodup_append] at hnd
    -- what is left, once the first one is bound
    have go : ∀ {A1 : AE} {ρ1 : Env}, InvF B k F ρ1 A1 w → bindE A1 bs r ds = some A' → LB w B F bs us ds → Dif (fvOf x) ρ ρ1 → (∀ rest p, exF rest ρ1 p → exF (fvOf x ++ rest) ρ p) → x.den ρ1 = u → isPat x = true →
        (∀ b ∈ ownsIn bs us, b ∉ ids ρ1 k ∧ ¬ F b ∧ ∀ m, (A1.v m).isOwn = true → ownBlk (ρ1.v m) ≠ some b) → ∃ ρ', Bnd B k F ρ A' w (fvOfL (x :: r)) ρ' ∧ denL ρ' (x :: r) = u :: us := by
      intro A1 ρ1 h1 h2 h3 h4 h5 h6 h7 h8
      obtain ⟨ρ2, hb2, hd2⟩ := bindE_ok h1 h2 hnd.2.1 h3 h8
      refine ⟨ρ2, ⟨hb2.inv, h4.trans hb2.dif, fun rest p hq => ?_⟩, ?_⟩
      · simp only [fvOfL, List.append_assoc]
        exact h5 _ _ (hb2.ex _ _ hq)
      · simp only [denL]
        rw [pat_den h7 hb2.dif (fun f h3 h4 => hnd.2.2 f h3 f h4 rfl), h6, hd2]
    have hrest : LB w B F bs us ds := by
      cases b with
      | no => exact hl.elim
      | ro fr => exact hl.2
      | own e sz fr => exact hl.2.2
    have howns : ∀ b' ∈ ownsIn bs us, b' ∈ ownsIn (b :: bs) (u :: us) := by
      intro b' hb'
      cases b <;> simp [ownsIn, hb']
    have hrep : ∃ S, Rep w S u d := by
      cases b with
      | no => exact hl.elim
      | ro fr => exact ⟨_, hl.1⟩
      | own e sz fr =>
        obtain ⟨⟨rows, rfl, h1⟩, _⟩ := hl
        exact h1.dat
    obtain ⟨S0, hrep⟩ := hrep
    cases hb1 : (bind1 A b x (d :: ds) fun A ds => some (A, ds)) with
    | none => rw [hb1] at hb; cases hb
    | some p =>
      rw [hb1] at hb
      simp only [Option.bind_some] at hb
      unfold bind1 at hb1
      split at hb1
      · rename_i kk n
        simp only [fI] at hb1
        cases d <;> simp only at hb1 <;> try (cases hb1; done)
        rename_i k' y
        split at hb1
        · rename_i hk
          subst hk
          cases hb1
          have hu : u = .int k' y := by cases hrep; rfl
          subst hu
          refine go (ρ1 := ρ.setI n y) (h.setI n y) hb hrest ⟨fun m hm => ?_, fun _ _ => rfl, fun _ _ => rfl, rfl⟩ (fun rest p hp => ⟨y, hp⟩) (by simp [SV.den, IE.ev, Env.setI]) rfl (fun b' hb' => ho b' (howns b' hb'))
          have : m ≠ n := by rintro rfl; exact hm (by simp [fvOf])
          simp [Env.setI, this]
        · cases hb1
      · rename_i n
        simp only [fB] at hb1
        cases d <;> simp only at hb1 <;> try (cases hb1; done)
        rename_i y
        cases hb1
        have hu : u = .bool y := by cases hrep; rfl
        subst hu
        refine go (ρ1 := ρ.setB n y) (h.setB n y) hb hrest ⟨fun _ _ => rfl, fun m hm => ?_, fun _ _ => rfl, rfl⟩ (fun rest p hp => ⟨y, hp⟩) (by simp [SV.den, BE.ev, Env.setB]) rfl (fun b' hb' => ho b' (howns b' hb'))
        have : m ≠ n := by rintro rfl; exact hm (by simp [fvOf])
        simp [Env.setB, this]
      · rename_i n
        split at hb1
        · rename_i hn
          simp only [fV] at hb1
          cases d <;> simp only at hb1 <;> try (cases hb1; done)
          rename_i rows
          cases hb1
          have hdif : ∀ hx, Dif (fvOf (.val n)) ρ (ρ.setV n u hx) := fun hx => ⟨fun _ _ => rfl, fun _ _ => rfl, fun m hm => by
            have : m ≠ n := by rintro rfl; exact hm (by simp [fvOf])
            simp [Env.setV, this], rfl⟩
          have hden : ∀ hx, (SV.val n).den (ρ.setV n u hx) = u := fun hx => by simp [SV.den, Env.setV]
          cases b with
          | no => exact hl.elim
          | ro fr =>
            have h1 := hl.1
            refine go (ρ1 := ρ.setV n u h1.one) (h.setV hn h1.one rfl (fun _ _ he => by cases he; exact h1) (fun _ _ _ he => by cases he)) hb hrest (hdif _) (fun rest p hp => ⟨u, h1.one, hp⟩) (hden _) rfl (fun b' hb' => ?_)
            obtain ⟨h2, h3, h4⟩ := ho b' (howns b' hb')
            refine ⟨h2, h3, fun m hm => ?_⟩
            by_cases he : m = n
            · subst he; rw [AE.setV_eq] at hm; cases hm
            · rw [AE.setV_ne he] at hm
              rw [Rx.setV_ne he]
              exact h4 m hm
          | own e sz fr =>
            obtain ⟨⟨rows', he, h1⟩, h2, _⟩ := hl
            cases he
            have hin : ∀ b', ownBlk u = some b' → b' ∈ ownsIn (.own e sz fr :: bs) (u :: us) := fun b' hb' => by simp [ownsIn, hb']
            refine go (ρ1 := ρ.setV n u h1.slice.1) (h.setOwn hn h1.slice.1 h1 (fun b' hb' => ho b' (hin b' hb'))) hb hrest (hdif _) (fun rest p hp => ⟨u, h1.slice.1, hp⟩) (hden _) rfl (fun b' hb' => ?_)
            obtain ⟨h3, h4, h5⟩ := ho b' (howns b' hb')
            refine ⟨h3, h4, fun m hm => ?_⟩
            by_cases he : m = n
            · subst he
              rw [setV_eq]
              exact fun e => h2 b' e hb'
            · rw [AE.setV_ne he] at hm
              rw [Rx.setV_ne he]
              exact h5 m hm
        · cases hb1
      · cases hb1

/-! ### what binding leaves alone -/
structure BndA (A A' : AE) (fv : List Fv) : Prop where
  ge : ∀ n, Fv.v n ∈ fv → A.nv ≤ n
  av : ∀ n, n < A.nv → A'.v n = A.v n
  nv : A.nv ≤ A'.nv
theorem BndA.app {A A1 A2 : AE} {f g : List Fv} (h : BndA A A1 f) (h' : BndA A1 A2 g) : BndA A A2 (f ++ g) :=
  ⟨fun n hn => by
    rcases List.mem_append.1 hn with h1 | h1
    · exact h.ge n h1
    · exact Nat.le_trans h.nv (h'.ge n h1), fun n hn => (h'.av n (Nat.lt_of_lt_of_le hn h.nv)).trans (h.av n hn), Nat.le_trans h.nv h'.nv⟩
theorem bind1_a {b : Bn} {x : SV} {ds : List Dat} {A : AE} {p : AE × List Dat} (hb : (bind1 A b x ds fun A ds => some (A, ds)) = some p) : BndA A p.1 (fvOf x) := by
  unfold bind1 at hb
  split at hb
  · cases ds with
    | nil => cases hb
    | cons d ds =>
      cases d <;> simp only [fI] at hb <;> try (cases hb; done)
      split at hb
      · cases hb; exact ⟨fun n h => by simp [fvOf] at h, fun _ _ => rfl, Nat.le_refl _⟩
      · cases hb
  · cases ds with
    | nil => cases hb
    | cons d ds =>
      cases d <;> simp only [fB] at hb <;> try (cases hb; done)
      cases hb; exact ⟨fun n h => by simp [fvOf] at h, fun _ _ => rfl, Nat.le_refl _⟩
  · rename_i n
    split at hb
    · rename_i hn
      cases ds with
      | nil => cases hb
      | cons d ds =>
        cases d <;> simp only [fV] at hb <;> try (cases hb; done)
        cases hb
        exact ⟨fun m h => by simp [fvOf] at h; omega, fun m hm => AE.setV_ne (by omega), Nat.le_trans hn (Nat.le_succ _)⟩
    · cases hb
  · cases hb
theorem bindE_a : ∀ {bs : List Bn} {l : List SV} {ds : List Dat} {A A' : AE}, bindE A bs l ds = some A' → BndA A A' (fvOfL l)
  | [], [], ds, A, A', h => by
    simp only [bindE, Option.some.injEq] at h
    subst h
    exact ⟨fun n h => by simp [fvOfL] at h, fun _ _ => rfl, Nat.le_refl _⟩
  | [], _ :: _, _, _, _, h => by simp [bindE] at h
  | _ :: _, [], _, _, _, h => by simp [bindE] at h
  | b :: bs, x :: r, ds, A, A', h => by
    simp only [bindE] at h
    cases h1 : (bind1 A b x ds fun A ds => some (A, ds)) with
    | none => rw [h1] at h; cases h
    | some p =>
      rw [h1] at h
      exact (bind1_a h1).app (bindE_a h)

/-! ### shapes -/
def Shp.len : Shp → Nat
  | .leaf => 1
  | .agg n => n
theorem Shp.of_len {s : Shp} {v : Value} {us : List Value} (h : s.of v = some us) : us.length = s.len := by
  cases s with
  | leaf => simp only [Shp.of, Option.some.injEq] at h; subst h; rfl
  | agg n =>
    cases v <;> simp only [Shp.of] at h <;> try (cases h; done)
    split at h
    · rename_i hn; cases h; simpa [Shp.len] using hn
    · cases h
theorem Shp.of_inj {s : Shp} {v v' : Value} {us : List Value} (h : s.of v = some us) (h' : s.of v' = some us) : v = v' := by
  cases s with
  | leaf => simp only [Shp.of, Option.some.injEq] at h h'; rw [← h'] at h; cases h; rfl
  | agg n =>
    cases v <;> simp only [Shp.of] at h <;> try (cases h; done)
    cases v' <;> simp only [Shp.of] at h' <;> try (cases h'; done)
    split at h
    · split at h'
      · cases h
        have h2 := Option.some.inj h'
        rw [Array.toList_inj.1 h2]
      · cases h'
    · cases h
theorem shpsOf_inj : ∀ {l : List Shp} {vs vs' : List Value} {us : List Value}, shpsOf l vs = some us → shpsOf l vs' = some us → vs = vs'
  | [], vs, vs', us, h, h' => by
    cases vs <;> cases vs' <;> simp [shpsOf] at h h' ⊢
  | s :: r, vs, vs', us, h, h' => by
    cases vs with
    | nil => simp [shpsOf] at h
    | cons v vs =>
      cases vs' with
      | nil => simp [shpsOf] at h'
      | cons v' vs' =>
        simp only [shpsOf] at h h'
        split at h
        · rename_i a b ha hb
          split at h'
          · rename_i a' b' ha' hb'
            cases h
            have h2 := Option.some.inj h'
            have hl : a'.length = a.length := by rw [Shp.of_len ha, Shp.of_len ha']
            obtain ⟨e1, e2⟩ := List.append_inj h2 hl
            subst e1 e2
            rw [Shp.of_inj ha ha', shpsOf_inj hb hb']
          · cases h'
        · cases h
theorem RS.of_inj {r : RS} {v v' : Value} {us : List Value} (h : r.of v = some us) (h' : r.of v' = some us) : v = v' := by
  cases r with
  | one s => exact Shp.of_inj h h'
  | tup l =>
    cases v <;> simp only [RS.of] at h <;> try (cases h; done)
    cases v' <;> simp only [RS.of] at h' <;> try (cases h'; done)
    have := shpsOf_inj h h'
    rw [Array.toList_inj.1 this]
theorem shp_den (ρ : Env) (x : SV) : x.shp.of (x.den ρ) = some (denL ρ x.leaves) := by
  cases x <;> simp [SV.shp, SV.leaves, Shp.of, denL, SV.den]
  rw [denL_len]
theorem shps_den (ρ : Env) : ∀ (l : List SV), shpsOf (l.map SV.shp) (denL ρ l) = some (denL ρ (leavesL l))
  | [] => rfl
  | x :: r => by
    simp only [List.map_cons, denL, shpsOf, shp_den, shps_den ρ r, leavesL, denL_append]
theorem rshp_den (ρ : Env) (x : SV) : x.rshp.of (x.den ρ) = some (denL ρ x.rleaves) := by
  cases x
  case tup l => simp only [SV.rshp, SV.rleaves, SV.den, RS.of]; exact shps_den ρ l
  all_goals (simp only [SV.rshp, SV.rleaves, RS.of]; exact shp_den ρ _)

theorem bok_os {s : List Bn} (h : ∀ b ∈ s, b.ok = true) {w : World} {N : Nat} {S : Nat → Prop} {us : List Value} {ds : List Dat} (hl : LeafOK w N S s us ds) {F' : Nat → Prop} (hS : ∀ b, S b → F' b ∧ B ≤ b) (hBN : B ≤ N) : LB w B F' s us ds := by
  induction s generalizing us ds with
  | nil => cases us <;> cases ds <;> first | exact hl | exact hl.elim
  | cons b bs ih =>
    have hb := h b List.mem_cons_self
    have ih := fun {us ds} => ih (us := us) (ds := ds) (fun b hb => h b (List.mem_cons_of_mem _ hb))
    cases us with
    | nil => cases b <;> exact hl.elim
    | cons u us =>
      cases ds with
      | nil => cases b <;> exact hl.elim
      | cons d ds =>
        cases b with
        | no => cases hb
        | ro fr =>
          cases hb
          exact ⟨hl.1.mono (fun b hb => ⟨(hS b hb).1, fun _ => (hS b hb).2⟩), ih hl.2⟩
        | own e sz fr =>
          cases hb
          obtain ⟨⟨rows, rfl, h1⟩, h2, h3⟩ := hl
          exact ⟨⟨rows, rfl, (h1.low hBN).move (fun _ _ => rfl) (fun b hb => ⟨(hS b hb).1, fun _ => (hS b hb).2⟩) (fun _ _ => rfl)⟩, fun b hb => (h2 b hb).2, ih h3⟩
theorem leaf_owns {s : List Bn} {w : World} {N : Nat} {S : Nat → Prop} {us : List Value} {ds : List Dat} (hl : LeafOK w N S s us ds) : ∀ b ∈ ownsIn s us, N ≤ b ∧ b < w.heap.size ∧ ¬ S b := by
  induction s generalizing us ds with
  | nil => cases us <;> cases ds <;> first | (exact hl.elim) | (intro b hb; simp [ownsIn] at hb)
  | cons b bs ih =>
    cases us with
    | nil => cases b <;> exact hl.elim
    | cons u us =>
      cases ds with
      | nil => cases b <;> exact hl.elim
      | cons d ds =>
        intro b' hb'
        cases b with
        | no => exact ih hl.2 b' (by simpa [ownsIn] using hb')
        | ro fr => exact ih hl.2 b' (by simpa [ownsIn] using hb')
        | own e sz fr =>
          obtain ⟨⟨rows, rfl, h1⟩, h2, h3⟩ := hl
          simp only [ownsIn, List.mem_append] at hb'
          rcases hb' with hb' | hb'
          · have hb'' : ownBlk u = some b' := by simpa using hb'
            exact ⟨(h1.lt hb'').1, (h1.lt hb'').2, (h2 b' hb'').1⟩
          · exact ih h3 b' hb'

/-- Behind a call: its result in new variables. -/
theorem call_bind {w0 : World} (h : InvF B k F ρ A w0) (hk : ∀ id, id < k → ρ.k id < w0.heap.size) (hf : Fr [] w0 w) {s : Sg} (hos : ∀ b ∈ s.os, b.ok = true) {x : SV} {rs : List Dat} {A' : AE} (hx : x.rshp = s.res) (hb : bindE A s.os x.rleaves rs = some A') (hnd : (fvOfL x.rleaves).Nodup) {u : Value} (hu : ResOK w w0.heap.size s u rs) :
    ∃ F' ρ', InvF B k F' ρ' A' w ∧ Dif (fvOfL x.rleaves) ρ ρ' ∧ (∀ p : Env → Prop, p ρ' → exF (fvOfL x.rleaves) ρ p) ∧ x.den ρ' = u := by
  obtain ⟨us, hus, S, hS, hl⟩ := hu
  have hw := h.world (Nat.zero_le k) (n := 0) (by simpa [ids] using hf)
  have hnew : ∀ b, w0.heap.size ≤ b → b ∉ ids ρ k := fun b hb hi => by
    obtain ⟨i, hi', rfl⟩ := mem_ids.1 hi
    have := hk i hi'
    omega
  have hno : ∀ b, w0.heap.size ≤ b → ∀ n, (A.v n).isOwn = true → ownBlk (ρ.v n) ≠ some b := fun b hb n hn he => by
    obtain ⟨e, sz, fr, rows, hv⟩ := isOwn_own hn
    have := ((h.own n _ _ _ _ hv).1.lt he).2
    omega
  have hF2 : InvF B k (fun b => F b ∨ S b) ρ A w := hw.more (fun _ h => .inl h) (fun b hb => by
    rcases hb with hb | hb
    · exact hw.out b hb
    · exact ⟨(hS b hb).2, hnew b (hS b hb).1, hno b (hS b hb).1⟩)
  have hlb : LB w B (fun b => F b ∨ S b) s.os us rs := bok_os hos hl (fun b hb => ⟨.inr hb, Nat.le_trans h.size (hS b hb).1⟩) h.size
  obtain ⟨ρ', h1, h2⟩ := bindE_ok hF2 hb hnd hlb (fun b hb => by
    obtain ⟨h3, h4, h5⟩ := leaf_owns hl b hb
    refine ⟨hnew b h3, fun hor => ?_, hno b h3⟩
    rcases hor with hor | hor
    · have := (h.out b hor).1; omega
    · exact h5 hor)
  refine ⟨_, ρ', h1.inv, h1.dif, fun p hp => by simpa using h1.ex [] p hp, ?_⟩
  have h3 := rshp_den ρ' x
  rw [hx, h2] at h3
  exact RS.of_inj h3 hus
end
end Rx

namespace Rx
open Go
/-- What the types' table must say. -/
structure GOK (P : Program) (G : GT) : Prop where
  ty : ∀ t e sz z, G t = some (e, sz, z) → ∃ i zv, P.underlying t = some (.slice e) ∧ P.info? e = some i ∧ i.zero = some zv ∧ i.size = sz ∧ 0 < sz ∧ i.bytes ≤ 1000000 ∧ zv.cells.size = sz ∧ z.length = sz ∧
    ∀ (j : Nat) u d, zv.cells[j]? = some u → z[j]? = some d → ∀ w S, Rep w S u d

section
variable {P : Program} {B k : Nat} {F : Nat → Prop} {w : World} {G : GT}

theorem cells_one {sz : Nat} {xs : List Value} {rows : List (List Dat)} (h : CellsRep w F sz xs rows) (hl : xs.length = rows.length * sz) : ∀ u ∈ xs, u.oneCell' = true := by
  intro u hu
  obtain ⟨q, hq, rfl⟩ := List.getElem_of_mem hu
  by_cases h0 : sz = 0
  · subst h0; rw [Nat.mul_zero] at hl; omega
  have hi : q / sz < rows.length := Nat.div_lt_of_lt_mul (by rw [Nat.mul_comm, ← hl]; exact hq)
  have hr := List.getElem?_eq_getElem hi
  have hlen := h.len _ _ hr
  have hj : q % sz < rows[q / sz].length := by rw [hlen]; exact Nat.mod_lt _ (by omega)
  obtain ⟨u, h1, h2⟩ := h.cell _ _ _ _ hr (List.getElem?_eq_getElem hj)
  have he : q / sz * sz + q % sz = q := by rw [Nat.mul_comm]; exact Nat.div_add_mod q sz
  rw [he, List.getElem?_eq_getElem hq] at h1
  cases h1
  exact h2.one

theorem CellsRep.app {sz : Nat} {xs ys : List Value} {rows news : List (List Dat)} (h : CellsRep w F sz xs rows) (hl : xs.length = rows.length * sz) (h' : CellsRep w F sz ys news) : CellsRep w F sz (xs ++ ys) (rows ++ news) := by
  refine ⟨fun i row hr => ?_, fun i row j d hr hd => ?_⟩
  · rcases Nat.lt_or_ge i rows.length with hi | hi
    · rw [List.getElem?_append_left hi] at hr; exact h.len i row hr
    · rw [List.getElem?_append_right hi] at hr; exact h'.len _ row hr
  · rcases Nat.lt_or_ge i rows.length with hi | hi
    · rw [List.getElem?_append_left hi] at hr
      obtain ⟨u, h1, h2⟩ := h.cell i row j d hr hd
      have := (List.getElem?_eq_some_iff.1 h1).1
      exact ⟨u, by rw [List.getElem?_append_left this]; exact h1, h2⟩
    · rw [List.getElem?_append_right hi] at hr
      obtain ⟨u, h1, h2⟩ := h'.cell _ row j d hr hd
      refine ⟨u, ?_, h2⟩
      have hle : rows.length * sz ≤ i * sz := Nat.mul_le_mul_right _ hi
      rw [List.getElem?_append_right (by omega), hl, show i * sz + j - rows.length * sz = (i - rows.length) * sz + j by rw [Nat.sub_mul]; omega]
      exact h1

theorem Fr_of_grown {w w' : World} {row : Option Nat} (h : w.grownBy w' row) : Fr row.toList w w' :=
  ⟨h.size, fun j hj hn => h.block j hj (fun e => hn (by rw [← e]; simp)), h.os, h.tape, h.output⟩

/-- Nothing is appended. -/
theorem run_append_none (t ty e : TypeId) (i : TypeInfo) (ht : P.underlying t = some (.slice e)) (hi : P.info? e = some i) (a b : Option Addr) (n c c' : Nat) (hc : n ≤ c) :
    (Builtin.append_ #[t, t] ty #[.slice a n c, .slice b 0 c']).run P w = .ok (.slice a n c) w := by
  cases a <;> cases b <;> simp [Builtin.append_, run_underlying ht, Go.sizeOf, typeInfo, hi, Builtin.lenOf, Builtin.firstCells, loadCells, loadCellsFrom, storeCells, hc]

/-- What is appended: its cells. -/
def Src (w : World) (F : Nat → Prop) (y : Value) (news : List (List Dat)) : Prop :=
  (news = [] ∧ ∃ b c, y = .slice b 0 c) ∨
  ∃ (a : Addr) (c : Nat) (u : Nat → Nat → Value), y = .slice (some a) news.length c ∧
    ∀ (i : Nat) (row : List Dat) (j : Nat) (d : Dat), news[i]? = some row → row[j]? = some d → w.cell? (a.add (i * row.length + j)) = some (u i j) ∧ Rep w F (u i j) d

theorem append_ok (hG : GOK P G) {ty e : TypeId} {sz : Nat} {z : List Dat} (hg : G ty = some (e, sz, z)) (oty : TypeId) (hBw : B ≤ w.heap.size) {x y : Value} {rows : List (List Dat)} (hx : OwnRep w B F e sz x rows)
    {news : List (List Dat)} (hy : Src w F y news)
    (hsz : ∀ r ∈ news, r.length = sz) (hb : rows.length + news.length ≤ 1000000) (hFw : ∀ b, F b → b < w.heap.size ∧ ownBlk x ≠ some b) :
    ∃ v' w', (Builtin.append_ #[ty, ty] oty #[x, y]).run P w = .ok v' w' ∧ Fr (ownBlk x).toList w w' ∧ OwnRep w' B F e sz v' (rows ++ news) ∧
      ∀ b, ownBlk v' = some b → ownBlk x = some b ∨ w.heap.size ≤ b := by
  obtain ⟨i, zv, hu, hi, hz, hisz, hsz0, hby, hzs, hzl, hzr⟩ := hG.ty _ _ _ _ hg
  subst hisz
  have hcaple : ∃ a cap, x = .slice a rows.length cap ∧ rows.length ≤ cap := by
    rcases hx with ⟨rfl, rfl⟩ | ⟨a, rfl, rfl⟩ | ⟨g, cap, xs, rfl, hc, h1, h2⟩
    · exact ⟨none, 0, rfl, Nat.le_refl _⟩
    · exact ⟨some a, 0, rfl, Nat.le_refl _⟩
    · refine ⟨_, cap, rfl, ?_⟩
      rcases h1.2 with ⟨h3, _⟩ | ⟨g', cap', cur, h3, h4, h5, h6, _⟩
      · cases h3
      · cases h3; exact h6
  by_cases hn : news = []
  · subst hn
    obtain ⟨ya, ycap, rfl⟩ : ∃ b c, y = .slice b 0 c := by
      rcases hy with ⟨_, h⟩ | ⟨a, c, u, h, _⟩
      · exact h
      · exact ⟨some a, c, h⟩
    obtain ⟨a, cap, hxe, hle⟩ := hcaple
    refine ⟨x, w, ?_, Fr.refl _ _, by simpa using hx, fun b hb => .inl hb⟩
    rw [hxe]
    exact run_append_none ty oty e i hu hi a ya _ cap ycap hle
  · -- something is appended
    rcases hy with ⟨h, _⟩ | ⟨a, c, u, rfl, hcells⟩
    · exact absurd h hn
    · have hrow : ∀ (q : Nat) (row : List Dat), news[q]? = some row → row.length = i.size := fun q row h => hsz row (List.mem_of_getElem? h)
      have hcell : ∀ (q : Nat) (row : List Dat) (j : Nat) (d : Dat), news[q]? = some row → row[j]? = some d → w.cell? (a.add (q * i.size + j)) = some (u q j) := fun q row j d h1 h2 => by
        have := (hcells q row j d h1 h2).1
        rw [hrow q row h1] at this
        exact this
      have hrep : ∀ (q : Nat) (row : List Dat) (j : Nat) (d : Dat), news[q]? = some row → row[j]? = some d → Rep w F (u q j) d := fun q row j d h1 h2 => (hcells q row j d h1 h2).2
      -- the cells that come
      let nv : List Value := (List.range (news.length * i.size)).map fun q => u (q / i.size) (q % i.size)
      have hdm : ∀ q, q / i.size * i.size + q % i.size = q := fun q => by rw [Nat.mul_comm]; exact Nat.div_add_mod q i.size
      have hnl : nv.length = news.length * i.size := by simp [nv]
      have hat : ∀ q, q < news.length * i.size → ∃ row d, news[q / i.size]? = some row ∧ row[q % i.size]? = some d := by
        intro q hq
        have hi' : q / i.size < news.length := Nat.div_lt_of_lt_mul (by rw [Nat.mul_comm]; exact hq)
        have hr := List.getElem?_eq_getElem hi'
        have hl := hrow _ _ hr
        have hj : q % i.size < news[q / i.size].length := by rw [hl]; exact Nat.mod_lt _ hsz0
        exact ⟨_, _, hr, List.getElem?_eq_getElem hj⟩
      have hnc : ∀ q v, nv[q]? = some v → w.cell? (a.add q) = some v := by
        intro q v hv
        have hq := (List.getElem?_eq_some_iff.1 hv).1
        rw [hnl] at hq
        obtain ⟨row, d, h1, h2⟩ := hat q hq
        have := hcell _ _ _ _ h1 h2
        rw [hdm q] at this
        rw [this]
        simp [nv, hq] at hv
        rw [hv]
      have hcr : CellsRep w F i.size nv news := by
        refine ⟨hrow, fun q row j d h1 h2 => ?_⟩
        have hj : j < i.size := by
          have := (List.getElem?_eq_some_iff.1 h2).1
          rw [hrow q row h1] at this; exact this
        have hqi := (List.getElem?_eq_some_iff.1 h1).1
        refine ⟨u q j, ?_, hrep q row j d h1 h2⟩
        have hlt : q * i.size + j < news.length * i.size := by
          have : (q + 1) * i.size ≤ news.length * i.size := Nat.mul_le_mul_right _ hqi
          rw [Nat.add_mul] at this; omega
        have e1 : (q * i.size + j) / i.size = q := by
          rw [Nat.mul_comm, Nat.mul_add_div (by omega), Nat.div_eq_of_lt hj]; omega
        have e2 : (q * i.size + j) % i.size = j := by
          rw [Nat.mul_comm, Nat.mul_add_mod, Nat.mod_eq_of_lt hj]
        simp [nv, hlt, e1, e2]
      have hone := cells_one hcr hnl
      have hmax : rows.length + news.length ≤ maxLen := by simp only [maxLen]; omega
      have hbytes : ((rows.length + news.length) + (rows.length + news.length) / 4 + 192) * i.bytes ≤ 281474976710656 :=
        Nat.le_trans (Nat.mul_le_mul (show _ ≤ 1250192 by omega) hby) (by decide)
      have h0 : 0 < news.length := List.length_pos_iff.2 hn
      have hfit : ∀ old, old < rows.length + news.length → Builtin.nextslicecap (rows.length + news.length) old * i.bytes ≤ 281474976710656 := fun old ho => growslice_fits_wide ho hbytes
      have hold : ∀ b, b < w.heap.size → ∀ o, (w.drew.alloc o).heap[b]? = w.heap[b]? := fun b hb o => heap_alloc_old w.drew o b hb
      -- a new block
      have fresh : ∀ (old : Nat) (xs : List Value), CellsRep w F i.size xs rows → xs.length = rows.length * i.size →
          Fr (ownBlk x).toList w (w.drew.alloc (.cells (xs.toArray ++ nv.toArray ++ Builtin.zeroCells zv.cells (grownCap w (rows.length + news.length) old e - (rows.length + news.length))) e)) ∧
          OwnRep (w.drew.alloc (.cells (xs.toArray ++ nv.toArray ++ Builtin.zeroCells zv.cells (grownCap w (rows.length + news.length) old e - (rows.length + news.length))) e)) B F e i.size (.slice (some ⟨w.heap.size, 0, none⟩) (rows.length + news.length) (grownCap w (rows.length + news.length) old e)) (rows ++ news) ∧
          ∀ b, ownBlk (.slice (some ⟨w.heap.size, 0, none⟩) (rows.length + news.length) (grownCap w (rows.length + news.length) old e)) = some b → ownBlk x = some b ∨ w.heap.size ≤ b := by
        intro old xs hcx hxl
        have hge := grownCap_ge w (rows.length + news.length) old e
        have hcm : grownCap w (rows.length + news.length) old e ≤ maxLen := grownCap_le_maxLen w _ old e hmax
        have hall := (hcx.app hxl hcr).move (w' := w.drew.alloc (.cells (xs.toArray ++ nv.toArray ++ Builtin.zeroCells zv.cells (grownCap w (rows.length + news.length) old e - (rows.length + news.length))) e)) (fun b hb => hold b (hFw b hb).1 _) (fun _ h => h)
        have hxnl : (xs ++ nv).length = (rows.length + news.length) * i.size := by rw [List.length_append, hxl, hnl, Nat.add_mul]
        refine ⟨⟨by simp, fun j hj _ => hold j hj _, rfl, rfl, rfl⟩, .inr (.inr ⟨w.heap.size, _, xs ++ nv, by rw [List.length_append], by omega, ⟨by rw [hxnl, List.length_append], .inr ⟨w.heap.size, _, _, by rw [List.length_append], hBw, heap_alloc_new w.drew _, by rw [List.length_append]; exact hge, hcm, ?_, ?_⟩⟩, hall⟩), fun b hb => ?_⟩
        · simp only [Array.size_append, List.size_toArray, size_zeroCells, hzs, hxl, hnl, ← Nat.add_mul]
          congr 1
          omega
        · simp only [Array.toList_append, List.append_assoc]
          rw [← List.append_assoc, List.length_append, ← hxnl]
          exact List.take_left
        · simp [ownBlk] at hb
          exact .inr (by omega)
      rcases hx with ⟨rfl, rfl⟩ | ⟨xa, rfl, rfl⟩ | ⟨g, cap, xs, rfl, hc, h1, h2⟩
      · have hr := run_append_nil (P := P) w ty oty e i zv hu hi hz a news.length c nv hnl hnc h0 (by omega) (by
          have := hfit 0 (by simp; omega)
          simp only [List.length_nil, Nat.zero_add] at this
          rw [nextslicecap_zero h0] at this
          exact this)
        obtain ⟨h4, h5, h6⟩ := fresh 0 [] ⟨fun i row h => by simp at h, fun i row j d h => by simp at h⟩ (by simp)
        simp only [List.length_nil, Nat.zero_add, List.nil_append] at h4 h5 h6
        have e0 : (#[] : Array Value) ++ nv.toArray = nv.toArray := by simp
        rw [e0] at h4 h5
        exact ⟨_, _, hr, h4, h5, h6⟩
      · have hr := run_append_grow (P := P) w ty oty e i zv hu hi hz xa 0 0 [] (by simp) (by intro j v hj; simp at hj) a news.length c nv hnl hnc (by omega) (by omega) (by
          have := hfit 0 (by simp; omega)
          simpa using this)
        obtain ⟨h4, h5, h6⟩ := fresh 0 [] ⟨fun i row h => by simp at h, fun i row j d h => by simp at h⟩ (by simp)
        simp only [List.length_nil] at h4 h5 h6
        exact ⟨_, _, hr, h4, h5, h6⟩
      · have hg' : ∃ cur, B ≤ g ∧ w.heap[g]? = some (.cells cur e (0, 0)) ∧ rows.length ≤ cap ∧ cap ≤ maxLen ∧ cur.size = cap * i.size ∧ cur.toList.take (rows.length * i.size) = xs := by
          rcases h1.2 with ⟨h3, _⟩ | ⟨g', cap', cur, h3, h4⟩
          · cases h3
          · cases h3; exact ⟨cur, h4⟩
        obtain ⟨cur, hbg, hgc, hnc', hcm, hcs, htake⟩ := hg'
        have hob : ownBlk (.slice (some ⟨g, 0, none⟩) rows.length cap) = some g := by simp [ownBlk]; omega
        by_cases hroom : rows.length + news.length ≤ cap
        · have hfit' : rows.length * i.size + nv.length ≤ cur.size := by rw [hnl, hcs, ← Nat.add_mul]; exact Nat.mul_le_mul_right _ hroom
          have hr := run_append_room (P := P) w ty oty e i hu hi g rows.length cap cur hgc a news.length c nv hnl hnc hone hroom hfit'
          have hkeep : ∀ b, F b → (w.setRow g (cur.toList.take (rows.length * i.size) ++ nv ++ cur.toList.drop (rows.length * i.size + nv.length)).toArray).heap[b]? = w.heap[b]? := fun b hb => setRow_other w g b _ (fun he => (hFw b hb).2 (by rw [hob, he]))
          have hall := (h2.app h1.1 hcr).move hkeep (fun _ h => h)
          refine ⟨_, _, hr, ⟨by simp, fun j hj hn => setRow_other w g j _ (fun he => hn (by rw [hob]; simp [he])), rfl, rfl, rfl⟩, .inr (.inr ⟨g, cap, xs ++ nv, by rw [List.length_append], hc, ⟨by rw [List.length_append, List.length_append, h1.1, hnl, Nat.add_mul], .inr ⟨g, cap, _, by rw [List.length_append], hbg, setRow_heap w g cur _ e _ hgc, by rw [List.length_append]; exact hroom, hcm, ?_, ?_⟩⟩, hall⟩), fun b hb => .inl (by
            simp [ownBlk] at hb ⊢
            exact ⟨by omega, hb.2⟩)⟩
          · simp only [List.size_toArray, List.length_append, List.length_take, List.length_drop, Array.length_toList]
            omega
          · have e1 : (rows ++ news).length * i.size = (xs ++ nv).length := by rw [List.length_append, List.length_append, h1.1, hnl, Nat.add_mul]
            rw [htake, e1]
            exact List.take_left
        · have holds : ∀ j u, xs[j]? = some u → w.cell? ((⟨g, 0, none⟩ : Addr).add j) = some u := h1.cells (g := g) rfl
          have hr := run_append_grow (P := P) w ty oty e i zv hu hi hz ⟨g, 0, none⟩ rows.length cap xs h1.1 holds a news.length c nv hnl hnc (by omega) (by omega) (hfit cap (by omega))
          obtain ⟨h4, h5, h6⟩ := fresh cap xs h2 h1.1
          exact ⟨_, _, hr, h4, h5, h6⟩
end
end Rx
