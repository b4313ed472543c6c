/-
  Functions over data out of trees are sound, and a row of a claim out of them. No conditions.
-/
import Derived.Test.YtjkiookhmmalkaaEc
import Derived.Laws.Slices
import Derived.KernelRfl
import Derived.ProofKit
import Derived.OpenShut
import Derived.SizedLaws
import Derived.Carry
import Derived.ChangeOld
import Derived.ChangeAnyMap
namespace Rx
open Go
section
variable {P : Program} {B k : Nat} {F : Nat → Prop} {w : World} {G : GT}

theorem mks_ok (hG : GOK P G) {ty e : TypeId} {sz : Nat} {z : List Dat} (hg : G ty = some (e, sz, z)) (hBw : B ≤ w.heap.size) (kl kc : IntKind) {n : Int} (h0 : 0 ≤ n) (h1 : n ≤ 1000000) :
    ∃ v' w', (Instr.makeSlice ty (.int kl n) (.int kc n)).run P w = .ok v' w' ∧ Fr [] w w' ∧ OwnRep w' B F e sz v' (List.replicate n.toNat z) ∧ v'.oneCell' = true ∧ ∀ b, ownBlk v' = some b → w.heap.size ≤ b := by
  obtain ⟨i, zv, hu, hi, hz, hisz, hsz0, hby, hzs, hzl, hzr⟩ := hG.ty _ _ _ _ hg
  subst hisz
  obtain ⟨m, rfl⟩ := Int.eq_ofNat_of_zero_le h0
  have hb' : i.bytes * m ≤ 281474976710656 := Nat.le_trans (Nat.mul_le_mul hby (show m ≤ 1000000 by omega)) (by decide)
  obtain ⟨w', hr, hown, hgr⟩ := run_make_full (P := P) w B ty e i zv i.size hu hi hz rfl kl kc m hb' (by simp only [maxLen]; omega) hBw
  have hfr : Fr [] w w' := by have := Fr_of_grown hgr; simpa using this
  refine ⟨_, w', hr, hfr, ?_, rfl, fun b hb => ?_⟩
  · by_cases hm : m = 0
    · subst hm
      exact .inr (.inl ⟨_, rfl, rfl⟩)
    · have hmc : (madeCells zv.cells (m * i.size)).toList.length = m * i.size := by simp [madeCells]
      refine .inr (.inr ⟨w.heap.size, m, (madeCells zv.cells (m * i.size)).toList, by simp, by omega, ?_, ⟨fun q row hr => ?_, fun q row j d hr hd => ?_⟩⟩)
      · simp only [List.length_replicate, Int.toNat_natCast]
        exact hown
      · have := (List.getElem?_eq_some_iff.1 hr)
        obtain ⟨_, rfl⟩ := this
        simp [hzl]
      · obtain ⟨hq, rfl⟩ := List.getElem?_eq_some_iff.1 hr
        simp only [List.length_replicate, Int.toNat_natCast] at hq
        simp only [List.getElem_replicate] at hd
        have hj := (List.getElem?_eq_some_iff.1 hd).1
        rw [hzl] at hj
        have hlt : q * i.size + j < m * i.size := by
          have : (q + 1) * i.size ≤ m * i.size := Nat.mul_le_mul_right _ hq
          rw [Nat.add_mul] at this; omega
        have e2 : (q * i.size + j) % i.size = j := by
          rw [Nat.mul_comm, Nat.mul_add_mod, Nat.mod_eq_of_lt hj]
        have hjz : j < zv.cells.size := by rw [hzs]; exact hj
        refine ⟨zv.cells[j], ?_, hzr j _ d (Array.getElem?_eq_getElem hjz) hd _ _⟩
        simp only [madeCells, Array.getElem?_toList, Array.getElem?_map, Array.getElem?_range, if_pos hlt, Option.map_some, hzs, e2]
        congr 1
        exact getElem!_pos zv.cells j hjz
  · simp [ownBlk] at hb
    omega

theorem slice_ok (hG : GOK P G) {ty e : TypeId} {sz : Nat} {z : List Dat} (hg : G ty = some (e, sz, z)) {v : Value} {rows : List (List Dat)} (hr : Rep w F v (.sl rows)) (hsz : ∀ r ∈ rows, r.length = sz)
    {lo hi : Option Value} {a b : Int} (hlo : (lo = none ∧ a = 0) ∨ ∃ kk, lo = some (.int kk a)) (hhi : (hi = none ∧ b = rows.length) ∨ ∃ kk, hi = some (.int kk b)) (h0 : 0 ≤ a) (h1 : a ≤ b) (h2 : b ≤ rows.length) :
    ∃ v', (Instr.sliceAt ty v lo hi none).run P w = .ok v' w ∧ v'.oneCell' = true ∧ Rep w F v' (.sl ((rows.drop a.toNat).take (b - a).toNat)) := by
  obtain ⟨i, zv, hu, hi', hz, hisz, hsz0, hby, hzs, hzl, hzr⟩ := hG.ty _ _ _ _ hg
  subst hisz
  have hbounds : ∀ (cap : Nat), rows.length ≤ cap → (Instr.sliceBounds true rows.length cap lo hi none).run P w = .ok (a.toNat, b.toNat, cap) w := by
    intro cap hcap
    have eb : (b.toNat : Int) = b := Int.toNat_of_nonneg (by omega)
    rcases hlo with ⟨rfl, rfl⟩ | ⟨kk, rfl⟩ <;> rcases hhi with ⟨rfl, rfl⟩ | ⟨kk', rfl⟩
    · simp [Instr.sliceBounds]
    · simp [Instr.sliceBounds, run_sliceBound (P := P) w kk' b cap _ (by omega) (by omega)]
    · simp [Instr.sliceBounds, run_sliceBound (P := P) w kk a rows.length _ h0 (by omega)]
    · simp [Instr.sliceBounds, run_sliceBound (P := P) w kk' b cap _ (by omega) (by omega), run_sliceBound (P := P) w kk a b.toNat _ h0 (by omega)]
  have hlen : ((rows.drop a.toNat).take (b - a).toNat).length = b.toNat - a.toNat := by
    rw [List.length_take, List.length_drop]; omega
  have hrun : ∀ (ao : Option Addr) (cap : Nat), rows.length ≤ cap → (Instr.sliceAt ty (.slice ao rows.length cap) lo hi none).run P w = .ok (.slice (if cap = a.toNat then ao else ao.map (·.add (a.toNat * i.size))) (b.toNat - a.toNat) (cap - a.toNat)) w := by
    intro ao cap hcap
    have hsz' : (Go.sizeOf e).run P w = .ok i.size w := run_sz hi' w
    simp only [Instr.sliceAt, Instr.slice, Sem.run_bind, run_ul hu, Result.andThen_ok, hbounds cap hcap, hsz', Sem.run_pure]
  cases hr with
  | nil =>
    simp only [List.length_nil] at h2 hhi hrun hlen
    have ha0 : a.toNat = 0 := by omega
    have hb0 : b.toNat = 0 := by
      have : b ≤ 0 := by simpa using h2
      omega
    have := hrun none 0 (Nat.le_refl _)
    rw [ha0, hb0] at this
    simp only [if_true, Nat.sub_self] at this
    refine ⟨_, this, rfl, ?_⟩
    simp only [List.drop_nil, List.take_nil]
    exact .nil
  | sl ad cap _ sz' u hcap hS hrow hcell hrep =>
    have := hrun (some ad) cap hcap
    have hsub : ∀ (q : Nat) (row : List Dat), ((rows.drop a.toNat).take (b - a).toNat)[q]? = some row → rows[a.toNat + q]? = some row := by
      intro q row hq
      rw [List.getElem?_take] at hq
      split at hq
      · rw [List.getElem?_drop] at hq; exact hq
      · cases hq
    have key : ∀ ad' : Addr, (rows.drop a.toNat).take (b - a).toNat ≠ [] ∨ True → (∀ q j, (ad'.add (q * sz' + j)) = ad.add ((a.toNat + q) * sz' + j) ∨ (rows.drop a.toNat).take (b - a).toNat = []) → ad'.block = ad.block →
        Rep w F (.slice (some ad') (b.toNat - a.toNat) (cap - a.toNat)) (.sl ((rows.drop a.toNat).take (b - a).toNat)) := by
      intro ad' _ hadd hblk
      have hne : (rows.drop a.toNat).take (b - a).toNat ≠ [] → rows ≠ [] := by
        intro h e
        subst e
        simp at h
      have r := Rep.sl (w := w) (S := F) ad' (cap - a.toNat) ((rows.drop a.toNat).take (b - a).toNat) sz' (fun q j => u (a.toNat + q) j) (by rw [hlen]; omega)
        (fun h => by rw [hblk]; exact hS (hne h)) (fun q row hq => hrow _ row (hsub q row hq))
        (fun q row j d hq hd => by
          rcases hadd q j with h | h
          · rw [h]; exact hcell _ row j d (hsub q row hq) hd
          · rw [h] at hq; simp at hq)
        (fun q row j d hq hd => hrep _ row j d (hsub q row hq) hd)
      rw [hlen] at r
      exact r
    refine ⟨_, this, by split <;> rfl, ?_⟩
    have hszr : rows ≠ [] → sz' = i.size := fun hne => by
      cases hrr : rows with
      | nil => exact absurd hrr hne
      | cons r0 rs =>
        have e1 := hrow 0 r0 (by rw [hrr]; rfl)
        have e2 := hsz r0 (by rw [hrr]; simp)
        omega
    by_cases hc : cap = a.toNat
    · rw [if_pos hc]
      have hempty : (rows.drop a.toNat).take (b - a).toNat = [] := List.eq_nil_of_length_eq_zero (by rw [hlen]; omega)
      exact key ad (.inr trivial) (fun q j => .inr hempty) rfl
    · rw [if_neg hc]
      refine key (ad.add (a.toNat * i.size)) (.inr trivial) (fun q j => ?_) (add_block _ _)
      by_cases hne : rows = []
      · right; subst hne; simp
      · left
        rw [addr_add_add, ← hszr hne]
        congr 1
        rw [Nat.add_mul]; omega

/-- Cells of one's own get others. -/
theorem store_own {e : TypeId} {sz : Nat} {v : Value} {rows : List (List Dat)} (h : OwnRep w B F e sz v rows) (hF : ∀ b, F b → ownBlk v ≠ some b) {i off : Nat} {row : List Dat} (hrow : rows[i]? = some row)
    {vs : List Value} {ds : List Dat} (hl : vs.length = ds.length) (hv : ∀ (j : Nat) u d, vs[j]? = some u → ds[j]? = some d → Rep w F u d) (hoff : off + vs.length ≤ sz) {a : Addr} {len cap : Nat} (ha : v = .slice (some a) len cap) :
    ∃ w', (storeCells ((a.add (i * sz)).add off) vs 0).run P w = .ok () w' ∧ Fr (ownBlk v).toList w w' ∧ OwnRep w' B F e sz v (rows.set i (row.take off ++ ds ++ row.drop (off + ds.length))) := by
  rcases h with ⟨rfl, rfl⟩ | ⟨a, rfl, rfl⟩ | ⟨g, cap', xs, rfl, hc, h1, h2⟩
  · simp at hrow
  · simp at hrow
  · cases ha
    have hg' : ∃ cur, B ≤ g ∧ w.heap[g]? = some (.cells cur e (0, 0)) ∧ rows.length ≤ cap ∧ cap ≤ maxLen ∧ cur.size = cap * sz ∧ cur.toList.take (rows.length * sz) = xs := by
      rcases h1.2 with ⟨h3, _⟩ | ⟨g', cap', cur, h3, h4⟩
      · cases h3
      · cases h3; exact ⟨cur, h4⟩
    obtain ⟨cur, hbg, hgc, hnc', hcm, hcs, htake⟩ := hg'
    have hob : ownBlk (.slice (some ⟨g, 0, none⟩) rows.length cap) = some g := by simp [ownBlk]; omega
    have hi := (List.getElem?_eq_some_iff.1 hrow).1
    have hone : ∀ u ∈ vs, u.oneCell' = true := by
      intro u hu
      obtain ⟨j, hj, rfl⟩ := List.getElem_of_mem hu
      exact (hv j _ _ (List.getElem?_eq_getElem hj) (List.getElem?_eq_getElem (by omega))).one
    have hisz : i * sz + sz ≤ rows.length * sz := by
      have : (i + 1) * sz ≤ rows.length * sz := Nat.mul_le_mul_right _ hi
      rw [Nat.add_mul] at this; omega
    have hrc : rows.length * sz ≤ cap * sz := Nat.mul_le_mul_right _ hnc'
    have hst := run_storeCells_at (P := P) g (i * sz + off) e vs 0 cur w hgc (by omega) hone
    simp only [Nat.add_zero] at hst
    rw [addr_add_add, add_plain, Nat.zero_add]
    have hkeep : ∀ b, F b → (w.setRow g (cur.toList.take (i * sz + off) ++ vs ++ cur.toList.drop (i * sz + off + vs.length)).toArray).heap[b]? = w.heap[b]? := fun b hb => setRow_other w g b _ (fun he => hF b hb (by rw [hob, he]))
    have hxl : xs.length = rows.length * sz := h1.1
    refine ⟨_, hst, ⟨by simp, fun j hj hn => setRow_other w g j _ (fun he => hn (by rw [hob]; simp [he])), rfl, rfl, rfl⟩, .inr (.inr ⟨g, cap, xs.take (i * sz + off) ++ vs ++ xs.drop (i * sz + off + vs.length), by rw [List.length_set], hc, ⟨?_, .inr ⟨g, cap, _, by rw [List.length_set], hbg, setRow_heap w g cur _ e _ hgc, by rw [List.length_set]; exact hnc', hcm, ?_, ?_⟩⟩, ⟨fun q r hq => ?_, fun q r j d hq hd => ?_⟩⟩)⟩
    · rw [List.length_set, List.length_append, List.length_append, List.length_take, List.length_drop, hxl]; omega
    · simp only [List.size_toArray, List.length_append, List.length_take, List.length_drop, Array.length_toList]; omega
    · rw [List.length_set, ← htake]
      dsimp only
      have hn : i * sz + off + vs.length ≤ rows.length * sz := by omega
      apply List.ext_getElem?
      intro q
      simp only [List.getElem?_take, List.getElem?_append, List.length_append, List.length_take, Array.length_toList, List.getElem?_drop]
      repeat' split
      all_goals (first | rfl | omega | (congr 1; omega) | skip)
    · by_cases he : q = i
      · subst he
        rw [List.getElem?_set_self hi] at hq
        cases hq
        have := h2.len q row hrow
        simp only [List.length_append, List.length_take, List.length_drop]; omega
      · rw [List.getElem?_set_ne (Ne.symm he)] at hq
        exact h2.len q r hq
    · have hmv : ∀ {u d}, Rep w F u d → Rep (w.setRow g (cur.toList.take (i * sz + off) ++ vs ++ cur.toList.drop (i * sz + off + vs.length)).toArray) F u d := fun hr => hr.move hkeep (fun _ h => h)
      have hrl := h2.len i row hrow
      have old : ∀ (q j : Nat) (r0 : List Dat) (d0 : Dat), rows[q]? = some r0 → r0[j]? = some d0 → (q * sz + j < i * sz + off ∨ i * sz + off + vs.length ≤ q * sz + j) →
          ∃ u, (xs.take (i * sz + off) ++ vs ++ xs.drop (i * sz + off + vs.length))[q * sz + j]? = some u ∧ Rep w F u d0 := by
        intro q j r0 d0 hq0 hd0 hor
        obtain ⟨u, h3, h4⟩ := h2.cell q r0 j d0 hq0 hd0
        have hlt := (List.getElem?_eq_some_iff.1 h3).1
        refine ⟨u, ?_, h4⟩
        rcases hor with ho | ho
        · rw [List.append_assoc, List.getElem?_append_left (by rw [List.length_take]; omega), List.getElem?_take, if_pos ho]; exact h3
        · rw [List.getElem?_append_right (by rw [List.length_append, List.length_take]; omega), List.getElem?_drop, List.length_append, List.length_take]
          rw [show i * sz + off + vs.length + (q * sz + j - (min (i * sz + off) xs.length + vs.length)) = q * sz + j by omega]
          exact h3
      by_cases he : q = i
      · subst he
        rw [List.getElem?_set_self hi] at hq
        cases hq
        rcases Nat.lt_or_ge j off with hj | hj
        · rw [List.append_assoc, List.getElem?_append_left (by rw [List.length_take]; omega), List.getElem?_take, if_pos hj] at hd
          obtain ⟨u, h3, h4⟩ := old q j row d hrow hd (.inl (by omega))
          exact ⟨u, h3, hmv h4⟩
        · rcases Nat.lt_or_ge j (off + ds.length) with hj2 | hj2
          · rw [List.append_assoc, List.getElem?_append_right (by rw [List.length_take]; omega), List.getElem?_append_left (by rw [List.length_take]; omega), List.length_take] at hd
            have hjo : j - min off row.length = j - off := by omega
            rw [hjo] at hd
            have hlt : j - off < vs.length := by omega
            refine ⟨vs[j - off], ?_, hmv (hv (j - off) _ d (List.getElem?_eq_getElem hlt) hd)⟩
            rw [List.append_assoc, List.getElem?_append_right (by rw [List.length_take]; omega), List.getElem?_append_left (by rw [List.length_take]; omega), List.length_take]
            rw [show q * sz + j - min (q * sz + off) xs.length = j - off by omega]
            exact List.getElem?_eq_getElem hlt
          · rw [List.getElem?_append_right (by rw [List.length_append, List.length_take]; omega), List.getElem?_drop, List.length_append, List.length_take] at hd
            rw [show off + ds.length + (j - (min off row.length + ds.length)) = j by omega] at hd
            obtain ⟨u, h3, h4⟩ := old q j row d hrow hd (.inr (by omega))
            exact ⟨u, h3, hmv h4⟩
      · rw [List.getElem?_set_ne (Ne.symm he)] at hq
        have hj : j < sz := by
          have := (List.getElem?_eq_some_iff.1 hd).1
          rw [h2.len q r hq] at this; exact this
        have hor : q * sz + j < i * sz + off ∨ i * sz + off + vs.length ≤ q * sz + j := by
          rcases Nat.lt_or_ge q i with hqi | hqi
          · left
            have : (q + 1) * sz ≤ i * sz := Nat.mul_le_mul_right _ hqi
            rw [Nat.add_mul] at this; omega
          · right
            have : (i + 1) * sz ≤ q * sz := Nat.mul_le_mul_right _ (by omega)
            rw [Nat.add_mul] at this; omega
        obtain ⟨u, h3, h4⟩ := old q j r d hq hd hor
        exact ⟨u, h3, hmv h4⟩
end
end Rx

namespace Rx
open Go
section
variable {B k : Nat} {F : Nat → Prop} {ρ : Env} {A : AE} {w : World}

/-! ### from a step to the next one -/
structure Stp (k : Nat) (ρ : Env) (A : AE) (k2 : Nat) (ρ2 : Env) (A2 : AE) : Prop where
  rv : ∀ n, n < A.nv → ρ2.v n = ρ.v n
  av : ∀ n, n < A.nv → A2.v n = A.v n ∨ (A.v n).isOwn = true
  nv : A.nv ≤ A2.nv
  kle : k ≤ k2
  ids : ∀ id, id < k → ρ2.k id = ρ.k id

theorem Stp.refl (k : Nat) (ρ : Env) (A : AE) : Stp k ρ A k ρ A := ⟨fun _ _ => rfl, fun _ _ => .inl rfl, Nat.le_refl _, Nat.le_refl _, fun _ _ => rfl⟩
theorem Stp.trans {k k2 k3 : Nat} {ρ ρ2 ρ3 : Env} {A A2 A3 : AE} (h : Stp k ρ A k2 ρ2 A2) (s : Stp k2 ρ2 A2 k3 ρ3 A3) : Stp k ρ A k3 ρ3 A3 := by
  refine ⟨fun n hn => (s.rv n (Nat.lt_of_lt_of_le hn h.nv)).trans (h.rv n hn), fun n hn => ?_, Nat.le_trans h.nv s.nv, Nat.le_trans h.kle s.kle, fun id hid => (s.ids id (Nat.lt_of_lt_of_le hid h.kle)).trans (h.ids id hid)⟩
  rcases h.av n hn with h1 | h1
  · rcases s.av n (Nat.lt_of_lt_of_le hn h.nv) with h2 | h2
    · exact .inl (h2.trans h1)
    · right; rw [← h1]; exact h2
  · exact .inr h1
theorem Stp.setV {n : Nat} (hn : A.nv ≤ n) (x : Value) (hx : x.oneCell' = true) (d : VD) : Stp k ρ A k (ρ.setV n x hx) (A.setV n d) :=
  ⟨fun m hm => Rx.setV_ne (by omega), fun m hm => .inl (AE.setV_ne (by omega)), Nat.le_trans hn (Nat.le_succ _), Nat.le_refl _, fun _ _ => rfl⟩
theorem Stp.updOwn {n : Nat} (h : (A.v n).isOwn = true) (d : VD) : Stp k ρ A k ρ (A.updV n d) := by
  refine ⟨fun _ _ => rfl, fun m _ => ?_, Nat.le_refl _, Nat.le_refl _, fun _ _ => rfl⟩
  by_cases he : m = n
  · subst he; exact .inr h
  · exact .inl (updV_ne he)
theorem Stp.weak (n : Nat) : Stp k ρ A k ρ (A.weak n) := by
  unfold AE.weak
  cases hv : A.v n with
  | own e sz fr rows => exact Stp.updOwn (by rw [hv]; rfl) _
  | _ => exact Stp.refl _ _ _
theorem Stp.weakL : ∀ (l : List SV) (A : AE), Stp k ρ A k ρ (weakL A l)
  | [], A => Stp.refl _ _ _
  | .val m :: r, A => by simp only [Rx.weakL]; exact (Stp.weak m).trans (Stp.weakL r _)
  | .undef :: r, A => by simp only [Rx.weakL]; exact Stp.weakL r A
  | .int _ _ :: r, A => by simp only [Rx.weakL]; exact Stp.weakL r A
  | .bool _ :: r, A => by simp only [Rx.weakL]; exact Stp.weakL r A
  | .ptr _ _ :: r, A => by simp only [Rx.weakL]; exact Stp.weakL r A
  | .optr _ _ :: r, A => by simp only [Rx.weakL]; exact Stp.weakL r A
  | .nilp :: r, A => by simp only [Rx.weakL]; exact Stp.weakL r A
  | .fn _ _ _ :: r, A => by simp only [Rx.weakL]; exact Stp.weakL r A
  | .nilf :: r, A => by simp only [Rx.weakL]; exact Stp.weakL r A
  | .agg _ :: r, A => by simp only [Rx.weakL]; exact Stp.weakL r A
  | .tup _ :: r, A => by simp only [Rx.weakL]; exact Stp.weakL r A
  | .sl _ _ _ :: r, A => by simp only [Rx.weakL]; exact Stp.weakL r A
  | .nils :: r, A => by simp only [Rx.weakL]; exact Stp.weakL r A
  | .map _ :: r, A => by simp only [Rx.weakL]; exact Stp.weakL r A
  | .nilm :: r, A => by simp only [Rx.weakL]; exact Stp.weakL r A
  | .gb _ :: r, A => by simp only [Rx.weakL]; exact Stp.weakL r A
  | .yv _ :: r, A => by simp only [Rx.weakL]; exact Stp.weakL r A
theorem weakL_inv : ∀ (l : List SV) {A : AE} {F : Nat → Prop} (_ : InvF B k F ρ A w), ∃ F', (∀ b, F b → F' b) ∧ InvF B k F' ρ (weakL A l) w
  | [], A, F, h => ⟨F, fun _ h => h, h⟩
  | .val m :: r, A, F, h => by
    obtain ⟨F1, h1, h2⟩ := h.weak m
    obtain ⟨F2, h3, h4⟩ := weakL_inv r h2
    exact ⟨F2, fun b hb => h3 b (h1 b hb), by simpa only [Rx.weakL] using h4⟩
  | .undef :: r, A, F, h => by simp only [Rx.weakL]; exact weakL_inv r h
  | .int _ _ :: r, A, F, h => by simp only [Rx.weakL]; exact weakL_inv r h
  | .bool _ :: r, A, F, h => by simp only [Rx.weakL]; exact weakL_inv r h
  | .ptr _ _ :: r, A, F, h => by simp only [Rx.weakL]; exact weakL_inv r h
  | .optr _ _ :: r, A, F, h => by simp only [Rx.weakL]; exact weakL_inv r h
  | .nilp :: r, A, F, h => by simp only [Rx.weakL]; exact weakL_inv r h
  | .fn _ _ _ :: r, A, F, h => by simp only [Rx.weakL]; exact weakL_inv r h
  | .nilf :: r, A, F, h => by simp only [Rx.weakL]; exact weakL_inv r h
  | .agg _ :: r, A, F, h => by simp only [Rx.weakL]; exact weakL_inv r h
  | .tup _ :: r, A, F, h => by simp only [Rx.weakL]; exact weakL_inv r h
  | .sl _ _ _ :: r, A, F, h => by simp only [Rx.weakL]; exact weakL_inv r h
  | .nils :: r, A, F, h => by simp only [Rx.weakL]; exact weakL_inv r h
  | .map _ :: r, A, F, h => by simp only [Rx.weakL]; exact weakL_inv r h
  | .nilm :: r, A, F, h => by simp only [Rx.weakL]; exact weakL_inv r h
  | .gb _ :: r, A, F, h => by simp only [Rx.weakL]; exact weakL_inv r h
  | .yv _ :: r, A, F, h => by simp only [Rx.weakL]; exact weakL_inv r h
theorem weak_noown (n m : Nat) (h : ((A.weak n).v m).isOwn = true) : (A.v m).isOwn = true ∧ m ≠ n := by
  unfold AE.weak at h
  cases hv : A.v n with
  | own e sz fr rows =>
    rw [hv] at h
    by_cases he : m = n
    · subst he; simp only [updV_eq] at h; cases h
    · simp only [updV_ne he] at h; exact ⟨h, he⟩
  | no => rw [hv] at h; exact ⟨h, by rintro rfl; rw [hv] at h; cases h⟩
  | ro _ _ => rw [hv] at h; exact ⟨h, by rintro rfl; rw [hv] at h; cases h⟩
  | ptr _ _ _ => rw [hv] at h; exact ⟨h, by rintro rfl; rw [hv] at h; cases h⟩
theorem weakL_noown : ∀ (l : List SV) (A : AE) (n : Nat), ((weakL A l).v n).isOwn = true → (A.v n).isOwn = true ∧ SV.val n ∉ l
  | [], A, n, h => ⟨h, by simp⟩
  | x :: r, A, n, h => by
    cases x <;> simp only [weakL] at h
    case val m =>
      obtain ⟨h1, h2⟩ := weakL_noown r _ n h
      obtain ⟨h3, h4⟩ := weak_noown m n h1
      exact ⟨h3, by simp [h2, h4]⟩
    all_goals
      obtain ⟨h1, h2⟩ := weakL_noown r _ n h
      exact ⟨h1, by simp [h2]⟩


/-! ### loops: from a state to a round's head -/
/-- What is known of the state at the loop's start, now. -/
structure BaseOK (kl : Nat) (lA : AE) (ow : List Nat) (ρb : Env) (k : Nat) (ρ : Env) (A : AE) : Prop where
  ei : lA.i = ρb.i
  eb : lA.b = ρb.b
  rv : ∀ n, n < lA.nv → ρ.v n = ρb.v n
  av : ∀ n, n < lA.nv → n ∉ ow → lA.v n = .no ∨ A.v n = lA.v n
  noown : ∀ n, (lA.v n).isOwn = false
  top : ∀ n, lA.nv ≤ n → lA.v n = .no
  kle : kl ≤ k
  ids : ∀ id, id < kl → ρ.k id = ρb.k id
  owlt : ∀ n ∈ ow, n < lA.nv
  ptr : ∀ n s i sz, lA.v n = .ptr s i sz → s < lA.nv
  nv : lA.nv ≤ A.nv

theorem ids_sub {kl k : Nat} {ρb ρ : Env} (hle : kl ≤ k) (hid : ∀ id, id < kl → ρ.k id = ρb.k id) {b : Nat} (h : b ∉ ids ρ k) : b ∉ ids ρb kl := fun hb => h (by
  obtain ⟨i, hi, rfl⟩ := mem_ids.1 hb
  exact mem_ids.2 ⟨i, by omega, hid i hi⟩)


/-- One's own ones that a loop changes, laid over its base. -/
structure From (lA : AE) (ow : List Nat) (A A2 : AE) : Prop where
  i : A2.i = lA.i
  b : A2.b = lA.b
  nv : A2.nv = lA.nv
  inn : ∀ n ∈ ow, ∃ e sz fr fr' rows, A.v n = .own e sz fr' rows ∧ A2.v n = .own e sz fr rows ∧ (fr = true → fr' = true)
  out : ∀ n, n ∉ ow → A2.v n = lA.v n

theorem owE_from : ∀ {ow : List (Nat × Bn)} {a : List Dat} {lA : AE} (b : List Dat), owVals A ow = some a → (ow.map (·.1)).Nodup → ∃ A2, owE lA ow (a ++ b) = some (A2, b) ∧ From lA (ow.map (·.1)) A A2
  | [], a, lA, b, h, _ => by
    simp only [owVals, Option.some.injEq] at h
    subst h
    exact ⟨lA, rfl, rfl, rfl, rfl, (fun n h => by simp at h), fun _ _ => rfl⟩
  | p :: r, a, lA, b, h, hnd => by
    obtain ⟨m, bn⟩ := p
    simp only [owVals] at h
    split at h
    · rename_i e sz fr e' sz' fr' rows hv
      split at h
      · rename_i hc
        obtain ⟨rfl, rfl, hf⟩ := hc
        cases h1 : owVals A r with
        | none => rw [h1] at h; cases h
        | some a' =>
          rw [h1] at h
          cases h
          simp only [List.map_cons, List.nodup_cons] at hnd
          obtain ⟨A2, h2, h3⟩ := owE_from (lA := lA.updV m (.own e sz fr rows)) b h1 hnd.2
          refine ⟨A2, h2, h3.i, h3.b, h3.nv, fun n hn => ?_, fun n hn => ?_⟩
          · rcases List.mem_cons.1 hn with rfl | hn
            · refine ⟨e, sz, fr, fr', rows, hv, ?_, fun h => by simpa [h] using hf⟩
              rw [h3.out n hnd.1, updV_eq]
            · exact h3.inn n hn
          · simp only [List.map_cons, List.mem_cons, not_or] at hn
            rw [h3.out n hn.2, updV_ne hn.1]
      · cases h
    · cases h

theorem base_inv (h : InvF B k F ρ A w) {kl : Nat} {lA A2 : AE} {ow : List Nat} {ρb : Env} (hb : BaseOK kl lA ow ρb k ρ A) (hf : From lA ow A A2) : InvF B kl F ρb A2 w ∧
    ∀ n, (A2.v n).isOwn = true → n ∈ ow ∧ (A.v n).isOwn = true ∧ ρb.v n = ρ.v n := by
  have hown : ∀ n, (A2.v n).isOwn = true → n ∈ ow ∧ (A.v n).isOwn = true ∧ ρb.v n = ρ.v n := fun n hn => by
    by_cases hin : n ∈ ow
    · obtain ⟨e, sz, fr, fr', rows, h1, h2, _⟩ := hf.inn n hin
      exact ⟨hin, by rw [h1]; rfl, (hb.rv n (hb.owlt n hin)).symm⟩
    · rw [hf.out n hin, hb.noown n] at hn
      cases hn
  -- what stands there and is nobody's own stands in A, too
  have same : ∀ n d, A2.v n = d → d ≠ .no → d.isOwn = false → n ∉ ow ∧ A.v n = d ∧ n < lA.nv ∧ ρb.v n = ρ.v n := fun n d hd hne hno => by
    by_cases hin : n ∈ ow
    · obtain ⟨e, sz, fr, fr', rows, h1, h2, _⟩ := hf.inn n hin
      rw [h2] at hd
      subst hd
      cases hno
    · rw [hf.out n hin] at hd
      have hlt : n < lA.nv := by
        rcases Nat.lt_or_ge n lA.nv with h1 | h1
        · exact h1
        · rw [hb.top n h1] at hd; exact absurd hd.symm hne
      rcases hb.av n hlt hin with h1 | h1
      · rw [h1] at hd; exact absurd hd.symm hne
      · exact ⟨hin, by rw [h1, hd], hlt, (hb.rv n hlt).symm⟩
  refine ⟨⟨hf.i.trans hb.ei, hf.b.trans hb.eb, fun n hn => ?_, fun b hF => ⟨(h.out b hF).1, ids_sub hb.kle hb.ids (h.out b hF).2.1, fun n hn => ?_⟩, fun n fr rows hv => ?_, fun n e sz fr rows hv => ?_, fun n s i sz hv => ?_, fun n m b h1 h2 h3 h4 => ?_, fun id hid => ?_, h.size⟩, hown⟩
  · have hn' : lA.nv ≤ n := by rw [← hf.nv]; exact hn
    rw [hf.out n (fun hin => by have := hb.owlt n hin; omega)]
    exact hb.top n hn'
  · obtain ⟨_, h1, h2⟩ := hown n hn
    rw [h2]
    exact (h.out b hF).2.2 n h1
  · obtain ⟨_, h1, _, h3⟩ := same n _ hv (by simp) rfl
    rw [h3]
    exact h.ro n _ _ h1
  · obtain ⟨hin, _, h3⟩ := hown n (by rw [hv]; rfl)
    obtain ⟨e', sz', fr1, fr', rows', h4, h5, h6⟩ := hf.inn n hin
    rw [h5] at hv
    cases hv
    rw [h3]
    obtain ⟨h7, h8⟩ := h.own n _ _ _ _ h4
    exact ⟨h7.move (fun _ _ => rfl) (Sf.mono (fun _ h => h) h6) (fun _ _ => rfl), fun b hb' => ids_sub hb.kle hb.ids (h8 b hb')⟩
  · obtain ⟨hin, h1, h2, h3⟩ := same n _ hv (by simp) rfl
    rw [hf.out n hin] at hv
    have hs := hb.ptr n s i sz hv
    obtain ⟨_, a, len, cap, h5, h6⟩ := h.ptr n _ _ _ h1
    exact ⟨by rw [hf.nv]; exact hs, a, len, cap, by rw [← hb.rv s hs]; exact h5, by rw [h3]; exact h6⟩
  · obtain ⟨_, e1, e2⟩ := hown n h1
    obtain ⟨_, e3, e4⟩ := hown m h2
    rw [e2] at h3
    rw [e4] at h4
    exact h.inj n m b e1 e3 h3 h4
  · rw [← hb.ids id hid]
    exact h.idw id (by have := hb.kle; omega)

/-- A variable of which nothing is known. -/
theorem InvF.setNo (h : InvF B k F ρ A w) {n : Nat} (hn : A.nv ≤ n) : InvF B k F ρ (A.setV n .no) w := by
  have hv : ∀ m, (A.setV n .no).v m = A.v m := fun m => by
    by_cases he : m = n
    · subst he; rw [AE.setV_eq, h.top m hn]
    · exact AE.setV_ne he
  refine ⟨h.ei, h.eb, fun m hm => ?_, fun b hb => ⟨(h.out b hb).1, (h.out b hb).2.1, fun m hm => (h.out b hb).2.2 m (by rw [← hv m]; exact hm)⟩, fun m fr rows hm => h.ro m fr rows (by rw [← hv m]; exact hm), fun m e sz fr rows hm => h.own m e sz fr rows (by rw [← hv m]; exact hm), fun m s i sz hm => ?_, fun m m' b h1 h2 h3 h4 => h.inj m m' b (by rw [← hv m]; exact h1) (by rw [← hv m']; exact h2) h3 h4, h.idw, h.size⟩
  · have : n + 1 ≤ m := hm
    rw [hv m]
    exact h.top m (by omega)
  · obtain ⟨h1, h2⟩ := h.ptr m s i sz (by rw [← hv m]; exact hm)
    exact ⟨Nat.lt_of_lt_of_le h1 (Nat.le_trans hn (Nat.le_succ _)), h2⟩

/-- What an assignment comes to. -/
structure AsgOK (B kl : Nat) (F : Nat → Prop) (w : World) (A1 : AE) (ρ1 : Env) (A' : AE) (ρ' : Env) : Prop where
  inv : InvF B kl F ρ' A' w
  al : ∀ n, n < A1.nv → A'.v n = A1.v n
  rl : ∀ n, n < A1.nv → ρ'.v n = ρ1.v n
  kk : ρ'.k = ρ1.k
  nv : A1.nv ≤ A'.nv


theorem assign_ok (h : InvF B k F ρ A w) {kl : Nat} (hkl : ∀ b, b ∉ ids ρ k → ∀ ρ1 : Env, (∀ id, id < kl → ρ.k id = ρ1.k id) → b ∉ ids ρ1 kl) :
    ∀ {fv : List Fv} {bs : List Bn} {vals : List SV} {ds : List Dat} {A1 A' : AE} {ρ1 : Env} (used : List Nat), fvVals A fv bs vals = some ds → fvE A1 fv bs ds = some A' → InvF B kl F ρ1 A1 w → (∀ id, id < kl → ρ.k id = ρ1.k id) →
      (∀ n, (A1.v n).isOwn = true → ∀ b, ownBlk (ρ1.v n) = some b → ∃ m ∈ used, (A.v m).isOwn = true ∧ ownBlk (ρ.v m) = some b) → (ownsOf fv bs vals ++ used).Nodup → AsgOK B kl F w A1 ρ1 A' (assignL ρ ρ1 fv vals) ∧ Al fv vals
  | [], bs, vals, ds, A1, A', ρ1, used, ha, hb, h1, _, _, _ => by
    cases bs <;> cases vals <;> simp [fvVals] at ha
    simp only [fvE, Option.some.injEq] at hb
    subst hb
    simp only [assignL]
    exact ⟨⟨h1, fun _ _ => rfl, fun _ _ => rfl, rfl, Nat.le_refl _⟩, trivial⟩
  | .i n :: r, bs, vals, ds, A1, A', ρ1, used, ha, hb, h1, hid, hu, hnd => by
    cases vals with
    | nil => simp [fvVals] at ha
    | cons x s =>
    cases x <;> simp only [fvVals] at ha <;> first | (cases ha; done) | skip
    rename_i kk e
    split at ha
    · rename_i hok
      cases hr : fvVals A r bs s with
      | none => rw [hr] at ha; cases ha
      | some ds' =>
        rw [hr] at ha
        cases ha
        simp only [fvE] at hb
        have ho : ownsOf (.i n :: r) bs (.int kk e :: s) = ownsOf r bs s := by cases bs <;> rfl
        rw [ho] at hnd
        have h2 : InvF B kl F (ρ1.setI n (e.ev ρ)) (A1.setI n (e.aev A)) w := by rw [IE.aev_ev h e hok]; exact h1.setI _ _
        obtain ⟨h3, h4⟩ := assign_ok h hkl used hr hb h2 hid hu hnd
        simp only [assignL]
        exact ⟨⟨h3.inv, h3.al, h3.rl, h3.kk, h3.nv⟩, h4⟩
    · cases ha
  | .b n :: r, bs, vals, ds, A1, A', ρ1, used, ha, hb, h1, hid, hu, hnd => by
    cases vals with
    | nil => simp [fvVals] at ha
    | cons x s =>
    cases x <;> simp only [fvVals] at ha <;> first | (cases ha; done) | skip
    rename_i e
    split at ha
    · rename_i hok
      cases hr : fvVals A r bs s with
      | none => rw [hr] at ha; cases ha
      | some ds' =>
        rw [hr] at ha
        cases ha
        simp only [fvE] at hb
        have ho : ownsOf (.b n :: r) bs (.bool e :: s) = ownsOf r bs s := by cases bs <;> rfl
        rw [ho] at hnd
        have h2 : InvF B kl F (ρ1.setB n (e.ev ρ)) (A1.setB n (e.aev A)) w := by rw [BE.aev_ev h e hok]; exact h1.setB _ _
        obtain ⟨h3, h4⟩ := assign_ok h hkl used hr hb h2 hid hu hnd
        simp only [assignL]
        exact ⟨⟨h3.inv, h3.al, h3.rl, h3.kk, h3.nv⟩, h4⟩
    · cases ha
  | .g n :: r, bs, vals, ds, A1, A', ρ1, used, ha, hb, h1, hid, hu, hnd => by
    cases vals with
    | nil => simp [fvVals] at ha
    | cons x s =>
    simp only [fvVals] at ha
    simp only [fvE] at hb
    have ho : ownsOf (.g n :: r) bs (x :: s) = ownsOf r bs s := by cases bs <;> cases x <;> rfl
    rw [ho] at hnd
    obtain ⟨h3, h4⟩ := assign_ok h hkl used ha hb (h1.setG n (x.den ρ)) hid hu hnd
    simp only [assignL]
    exact ⟨⟨h3.inv, h3.al, h3.rl, h3.kk, h3.nv⟩, h4⟩
  | .v n :: r, bs, vals, ds, A1, A', ρ1, used, ha, hb, h1, hid, hu, hnd => by
    cases bs with
    | nil => simp [fvVals] at ha
    | cons bn bs =>
    cases vals with
    | nil => simp [fvVals] at ha
    | cons x s =>
    simp only [fvVals] at ha
    cases hv1 : val1 A bn x with
    | none => rw [hv1] at ha; cases ha
    | some a0 =>
    rw [hv1] at ha
    simp only [Option.bind_some] at ha
    cases hr : fvVals A r bs s with
    | none => rw [hr] at ha; cases ha
    | some ds' =>
    rw [hr] at ha
    simp only [Option.map_some, Option.some.injEq] at ha
    subst ha
    simp only [fvE] at hb
    split at hb
    case isFalse => cases hb
    rename_i hn
    -- what follows, once it is set
    have go : ∀ (d : VD) (used' : List Nat) (hx : x.one = true), fvE (A1.setV n d) r bs ds' = some A' → InvF B kl F (ρ1.setV n (x.den ρ) (den_one hx)) (A1.setV n d) w → (ownsOf r bs s ++ used').Nodup →
        (∀ m, ((A1.setV n d).v m).isOwn = true → ∀ b, ownBlk ((ρ1.setV n (x.den ρ) (den_one hx)).v m) = some b → ∃ m' ∈ used', (A.v m').isOwn = true ∧ ownBlk (ρ.v m') = some b) → AsgOK B kl F w A1 ρ1 A' (assignL ρ ρ1 (.v n :: r) (x :: s)) ∧ Al (.v n :: r) (x :: s) := by
      intro d used' hx hb' h2 hnd' hu'
      obtain ⟨h3, h4⟩ := assign_ok h hkl used' hr hb' h2 hid hu' hnd'
      simp only [assignL, dif_pos hx]
      refine ⟨⟨h3.inv, fun m hm => ?_, fun m hm => ?_, h3.kk, Nat.le_trans (Nat.le_trans hn (Nat.le_succ _)) h3.nv⟩, hx, h4⟩
      · rw [h3.al m (Nat.lt_of_lt_of_le hm (Nat.le_trans hn (Nat.le_succ _))), AE.setV_ne (by omega)]
      · rw [h3.rl m (Nat.lt_of_lt_of_le hm (Nat.le_trans hn (Nat.le_succ _))), Rx.setV_ne (by omega)]
    have keepU : ∀ (d : VD) (hx : x.one = true), d.isOwn = false → ∀ m, ((A1.setV n d).v m).isOwn = true → ∀ b, ownBlk ((ρ1.setV n (x.den ρ) (den_one hx)).v m) = some b → ∃ m' ∈ used, (A.v m').isOwn = true ∧ ownBlk (ρ.v m') = some b := by
      intro d hx hd m hm
      by_cases he : m = n
      · subst he; rw [AE.setV_eq, hd] at hm; cases hm
      · rw [AE.setV_ne he] at hm
        rw [Rx.setV_ne he]
        exact hu m hm
    have hsub : ∀ {l l' : List Nat}, (l ++ l' ++ used).Nodup → (l' ++ used).Nodup := fun {l l'} h => by
      rw [List.append_assoc] at h
      exact (List.nodup_append.1 h).2.1
    unfold val1 at hv1
    split at hv1
    · -- nothing is known
      split at hv1
      · rename_i hx
        cases hv1
        have ho : ∃ l, ownsOf (.v n :: r) (.no :: bs) (x :: s) = l ++ ownsOf r bs s := ⟨[], by cases x <;> rfl⟩
        obtain ⟨l, ho⟩ := ho
        rw [ho] at hnd
        exact go .no used hx hb (h1.setV hn _ rfl (fun _ _ he => by cases he) (fun _ _ _ he => by cases he)) (hsub hnd) (keepU _ hx rfl)
      · cases hv1
    · rename_i fr m
      split at hv1
      · rename_i fr' rows hv
        split at hv1
        · rename_i hf
          cases hv1
          have ho : ownsOf (.v n :: r) (.ro fr :: bs) (.val m :: s) = [] ++ ownsOf r bs s := rfl
          rw [ho] at hnd
          exact go (.ro fr rows) used rfl hb (h1.setV hn _ rfl (fun _ _ he => by cases he; exact (h.ro m _ _ hv).mono (Sf.mono (fun _ h => h) (fun e => by simpa [e] using hf))) (fun _ _ _ he => by cases he)) (hsub hnd) (keepU _ rfl rfl)
        · cases hv1
      · cases hv1
    · rename_i e sz fr m
      split at hv1
      · rename_i e' sz' fr' rows hv
        split at hv1
        · rename_i hf
          obtain ⟨rfl, rfl, hf⟩ := hf
          cases hv1
          have ho : ownsOf (.v n :: r) (.own e sz fr :: bs) (.val m :: s) = m :: ownsOf r bs s := rfl
          rw [ho] at hnd
          obtain ⟨h5, h6⟩ := h.own m _ _ _ _ hv
          have h5' : OwnRep w B (Sf B F fr) e sz ((SV.val m).den ρ) rows := h5.move (fun _ _ => rfl) (Sf.mono (fun _ h => h) (fun e => by simpa [e] using hf)) (fun _ _ => rfl)
          have hmu : m ∉ used := fun hm => by
            have := List.nodup_append.1 hnd
            exact this.2.2 m List.mem_cons_self m hm rfl
          have hnd' : (ownsOf r bs s ++ (m :: used)).Nodup := by
            have : List.Perm (m :: ownsOf r bs s ++ used) (ownsOf r bs s ++ m :: used) := by
              simpa using (List.perm_middle (a := m) (l₁ := ownsOf r bs s) (l₂ := used)).symm
            exact this.nodup_iff.1 hnd
          refine go (.own e sz fr rows) (m :: used) rfl hb (h1.setOwn hn _ h5' (fun b hb => ⟨hkl b (h6 b hb) ρ1 hid, fun hF => (h.out b hF).2.2 m (by rw [hv]; rfl) hb, fun m' hm' he => ?_⟩)) hnd' (fun m' hm' => ?_)
          · obtain ⟨m0, hm0, e1, e2⟩ := hu m' hm' b he
            have := h.inj m0 m b e1 (by rw [hv]; rfl) e2 hb
            subst this
            exact hmu hm0
          · by_cases he : m' = n
            · subst he
              intro b hb
              rw [setV_eq] at hb
              exact ⟨m, List.mem_cons_self, by rw [hv]; rfl, hb⟩
            · rw [AE.setV_ne he] at hm'
              rw [Rx.setV_ne he]
              intro b hb
              obtain ⟨m0, hm0, e1⟩ := hu m' hm' b hb
              exact ⟨m0, List.mem_cons_of_mem _ hm0, e1⟩
        · cases hv1
      · cases hv1
    · rename_i fr
      cases hv1
      have ho : ownsOf (.v n :: r) (.ro fr :: bs) (.nils :: s) = [] ++ ownsOf r bs s := rfl
      rw [ho] at hnd
      exact go (.ro fr []) used rfl hb (h1.setV hn _ rfl (fun _ _ he => by cases he; exact .nil) (fun _ _ _ he => by cases he)) (hsub hnd) (keepU _ rfl rfl)
    · rename_i e sz fr
      cases hv1
      have ho : ownsOf (.v n :: r) (.own e sz fr :: bs) (.nils :: s) = [] ++ ownsOf r bs s := rfl
      rw [ho] at hnd
      have hden : SV.nils.den ρ = .slice none 0 0 := rfl
      refine go (.own e sz fr []) used rfl hb (h1.setOwn hn _ (.inl ⟨hden, rfl⟩) (fun b hb => by rw [hden] at hb; cases hb)) ?_ ?_
      · exact hsub hnd
      · intro m hm b hb'
        by_cases he : m = n
        · subst he
          rw [setV_eq, hden] at hb'
          cases hb'
        · rw [AE.setV_ne he] at hm
          rw [Rx.setV_ne he] at hb'
          exact hu m hm b hb'
    · cases hv1
end
end Rx

namespace Rx
open Go
section
variable {B k : Nat} {F : Nat → Prop} {ρ : Env} {A : AE} {w : World}

/-- A row's cells. -/
theorem rows_at (h : InvF B k F ρ A w) {s : Nat} {rows : List (List Dat)} (hr : (A.v s).rows = some rows) (hne : rows ≠ []) : ∃ (a : Addr) (cap : Nat), ρ.v s = .slice (some a) rows.length cap ∧
    (F a.block ∨ ((A.v s).isOwn = true ∧ ownBlk (ρ.v s) = some a.block)) ∧
    ∃ u : Nat → Nat → Value, ∀ (i : Nat) (row : List Dat) (j : Nat) (d : Dat), rows[i]? = some row → row[j]? = some d → w.cell? (a.add (i * row.length + j)) = some (u i j) ∧ Rep w (Sf B F (A.v s).fr) (u i j) d := by
  cases hv : A.v s with
  | no => rw [hv] at hr; cases hr
  | ptr _ _ _ => rw [hv] at hr; cases hr
  | ro fr rows' =>
    rw [hv] at hr
    cases hr
    have h1 := h.ro s _ _ hv
    generalize hx : ρ.v s = x at h1
    cases h1 with
    | nil => exact absurd rfl hne
    | sl a cap _ sz u hcap hS hrow hcell hrep =>
      refine ⟨a, cap, rfl, .inl (hS hne).1, u, fun i row j d h2 h3 => ⟨?_, hrep i row j d h2 h3⟩⟩
      rw [hrow i row h2]
      exact hcell i row j d h2 h3
  | own e sz fr rows' =>
    rw [hv] at hr
    cases hr
    obtain ⟨h1, h2⟩ := h.own s _ _ _ _ hv
    rcases h1 with ⟨_, h3⟩ | ⟨_, _, h3⟩ | ⟨g, cap, xs, h3, h4, h5, h6⟩
    · exact absurd h3 hne
    · exact absurd h3 hne
    · have hcl := h5.cells (g := g) (by rw [h3]; rfl)
      refine ⟨⟨g, 0, none⟩, cap, h3, .inr ⟨rfl, by rw [h3]; simp [ownBlk]; omega⟩, fun i j => (xs[i * sz + j]?).getD default, fun i row j d h7 h8 => ?_⟩
      obtain ⟨u, h9, h10⟩ := h6.cell i row j d h7 h8
      rw [h6.len i row h7]
      refine ⟨?_, ?_⟩
      · rw [hcl _ _ h9]; simp only [h9, Option.getD_some]
      · simp only [h9, Option.getD_some]; exact h10


/-! ### results -/
theorem ret_leaf (h : InvF B k F ρ A w) {hp : List Blk} (ho : HeapOK ρ hp w) (hk : hp.length ≤ k) {ow0 : List Nat} (hown0 : ∀ m ∈ ow0, (A.v m).isOwn = true) : ∀ {os : List Bn} {l : List SV} {ds : List Dat} {ow : List Nat}, adenL hp A 4 l = some (true, ds) → retOwn A os l = some ow → (∀ m ∈ ow, m ∈ ow0) → ow.Nodup →
    (∀ m ∈ retUse hp os l, m ∉ ow0) → LeafOK w B (fun b => B ≤ b ∧ b < w.heap.size ∧ ∀ m ∈ ow0, ownBlk (ρ.v m) ≠ some b) os (denL ρ l) ds ∧ ∀ b ∈ ownsIn os (denL ρ l), ∃ m ∈ ow, (A.v m).isOwn = true ∧ ownBlk (ρ.v m) = some b
  | [], [], ds, ow, hd, hr, _, _, _ => by
    simp only [adenL, mapO, Option.some.injEq, Prod.mk.injEq, true_and] at hd
    subst hd
    exact ⟨trivial, fun b hb => by simp [ownsIn] at hb⟩
  | [], _ :: _, _, _, _, hr, _, _, _ => by simp [retOwn] at hr
  | b :: os, [], _, _, _, hr, _, _, _ => by cases b <;> simp [retOwn] at hr
  | bn :: os, x :: r, ds, ow, hd, hr, hsub, hnd, hus => by
    simp only [adenL, mapO] at hd
    split at hd
    case h_2 => cases hd
    rename_i p q hpp hq
    obtain ⟨fp, dp⟩ := p
    obtain ⟨fq, dq⟩ := q
    simp only [Option.some.injEq, Prod.mk.injEq, Bool.and_eq_true] at hd
    obtain ⟨⟨rfl, rfl⟩, rfl⟩ := hd
    have hSf : ∀ b, Sf B F true b → B ≤ b ∧ b < w.heap.size ∧ ∀ m ∈ ow0, ownBlk (ρ.v m) ≠ some b := fun b hb => ⟨hb.2 rfl, (h.out b hb.1).1, fun m hm => (h.out b hb.1).2.2 m (hown0 m hm)⟩
    have plain : (∀ m ∈ usesA hp 4 x, m ∉ ow0) → Rep w (fun b => B ≤ b ∧ b < w.heap.size ∧ ∀ m ∈ ow0, ownBlk (ρ.v m) ≠ some b) (x.den ρ) dp := by
      intro hu
      refine (aden_rep h ho hk 4 x true dp hpp).mono (fun b hb => ?_)
      rcases hb with hb | ⟨h1, h2, h3⟩
      · exact hSf b hb
      · refine ⟨h1, h2, fun m hm he => ?_⟩
        rcases h3 with h3 | ⟨m', h4, h5, h6⟩
        · obtain ⟨e, sz, fr, rows, hv⟩ := isOwn_own (hown0 m hm)
          exact (h.own m _ _ _ _ hv).2 b he h3
        · have := h.inj m' m b h5 (hown0 m hm) h6 he
          subst this
          exact hu m' h4 hm
    cases bn with
    | no =>
      simp only [retOwn] at hr
      simp only [retUse, List.mem_append] at hus
      obtain ⟨h1, h2⟩ := ret_leaf h ho hk hown0 (os := os) (l := r) hq hr hsub hnd (fun m hm => hus m (.inr hm))
      exact ⟨⟨plain (fun m hm => hus m (.inl hm)), h1⟩, by simpa [ownsIn, denL] using h2⟩
    | ro fr =>
      simp only [retOwn] at hr
      simp only [retUse, List.mem_append] at hus
      obtain ⟨h1, h2⟩ := ret_leaf h ho hk hown0 (os := os) (l := r) hq hr hsub hnd (fun m hm => hus m (.inr hm))
      exact ⟨⟨plain (fun m hm => hus m (.inl hm)), h1⟩, by simpa [ownsIn, denL] using h2⟩
    | own e sz fr =>
      simp only [retOwn] at hr
      simp only [retUse] at hus
      split at hr
      · -- nil
        obtain ⟨h1, h2⟩ := ret_leaf h ho hk hown0 (os := os) (l := r) hq hr hsub hnd hus
        have : dp = .sl [] := by simp [aden, aleaf] at hpp; exact hpp.symm
        subst this
        exact ⟨⟨⟨[], rfl, .inl ⟨rfl, rfl⟩⟩, (fun b hb => by simp [SV.den, ownBlk] at hb), h1⟩, by simpa [ownsIn, denL, SV.den, ownBlk] using h2⟩
      · rename_i m
        split at hr
        · rename_i e' sz' fr' rows hv
          split at hr
          · rename_i he
            obtain ⟨rfl, rfl⟩ := he
            cases hr2 : retOwn A os r with
            | none => rw [hr2] at hr; cases hr
            | some ow' =>
              rw [hr2] at hr
              cases hr
              rw [List.nodup_cons] at hnd
              obtain ⟨h1, h2⟩ := ret_leaf h ho hk hown0 (os := os) (l := r) hq hr2 (fun m' hm' => hsub m' (List.mem_cons_of_mem _ hm')) hnd.2 hus
              have hdp : fr' = true ∧ dp = .sl rows := by
                simp only [aden, aleaf, hv, VD.dat, Option.some.injEq, Prod.mk.injEq] at hpp
                exact ⟨hpp.1, hpp.2.symm⟩
              obtain ⟨rfl, rfl⟩ := hdp
              obtain ⟨h3, h4⟩ := h.own m _ _ _ _ hv
              have hm0 : m ∈ ow0 := hsub m List.mem_cons_self
              refine ⟨⟨⟨rows, rfl, h3.move (fun _ _ => rfl) hSf (fun _ _ => rfl)⟩, fun b hb => ⟨fun hS => hS.2.2 m hm0 hb, fun hb' => ?_⟩, h1⟩, fun b hb => ?_⟩
              · obtain ⟨m', hm', h5, h6⟩ := h2 b hb'
                have := h.inj m' m b h5 (by rw [hv]; rfl) h6 hb
                subst this
                exact hnd.1 hm'
              · simp only [ownsIn, denL, List.mem_append] at hb
                rcases hb with hb | hb
                · exact ⟨m, List.mem_cons_self, by rw [hv]; rfl, by simpa [SV.den] using hb⟩
                · obtain ⟨m', hm', h5⟩ := h2 b hb
                  exact ⟨m', List.mem_cons_of_mem _ hm', h5⟩
          · cases hr
        · cases hr
      · cases hr
theorem retOwn_own : ∀ {os : List Bn} {l : List SV} {ow : List Nat}, retOwn A os l = some ow → ∀ m ∈ ow, (A.v m).isOwn = true
  | [], [], ow, h, m, hm => by simp only [retOwn, Option.some.injEq] at h; subst h; cases hm
  | [], _ :: _, _, h, _, _ => by simp [retOwn] at h
  | b :: os, [], _, h, _, _ => by cases b <;> simp [retOwn] at h
  | b :: os, x :: r, ow, h, m, hm => by
    cases b with
    | no => simp only [retOwn] at h; exact retOwn_own h m hm
    | ro fr => simp only [retOwn] at h; exact retOwn_own h m hm
    | own e sz fr =>
      simp only [retOwn] at h
      split at h
      · exact retOwn_own h m hm
      · split at h
        · rename_i hv
          split at h
          · cases h2 : retOwn A os r with
            | none => rw [h2] at h; cases h
            | some l =>
              rw [h2] at h
              cases h
              rcases List.mem_cons.1 hm with rfl | hm
              · rw [hv]; rfl
              · exact retOwn_own h2 m hm
          · cases h
        · cases h
      · cases h

/-! ### what an append takes -/
/-- Cells that are laid somewhere. -/
theorem aden0_rep (h : InvF B k F ρ A w) {hp : List Blk} {s : SV} {fr : Bool} {d : Dat} (hd : aden hp A 0 s = some (fr, d)) (hn : ∀ n, s = .val n → (A.v n).isOwn = false) : Rep w (Sf B F fr) (s.den ρ) d := by
  cases s <;> simp only [aden, aleaf] at hd <;> try (cases hd; done)
  · rename_i kk e
    split at hd
    · rename_i hok
      cases hd
      simp only [SV.den, ← IE.aev_ev h e hok]
      exact .int _ _
    · cases hd
  · rename_i e
    split at hd
    · rename_i hok
      cases hd
      simp only [SV.den, ← BE.aev_ev h e hok]
      exact .bool _
    · cases hd
  · rename_i n
    have hno := hn n rfl
    cases hv : A.v n with
    | no => rw [hv] at hd; cases hd
    | ptr _ _ _ => rw [hv] at hd; cases hd
    | own _ _ _ _ => rw [hv] at hno; cases hno
    | ro fr rows =>
      rw [hv] at hd
      cases hd
      exact h.ro n _ _ hv
  · cases hd
    exact .nil
theorem adenL0_rep (h : InvF B k F ρ A w) {hp : List Blk} {l : List SV} {fr : Bool} {ds : List Dat} (hd : adenL hp A 0 l = some (fr, ds)) (hn : ∀ n, SV.val n ∈ l → (A.v n).isOwn = false) :
    ds.length = l.length ∧ ∀ (j : Nat) s d, l[j]? = some s → ds[j]? = some d → Rep w (Sf B F fr) (s.den ρ) d := by
  obtain ⟨h1, h2⟩ := mapO_each hd
  refine ⟨h1, fun j s d hs hdj => ?_⟩
  obtain ⟨fr', d', h3, h4, h5⟩ := h2 j s hs
  rw [h4] at hdj
  cases hdj
  exact (aden0_rep h h3 (fun n he => hn n (by rw [← he]; exact List.mem_of_getElem? hs))).mono (Sf.mono (fun _ h => h) h5)

theorem src_ok (h : InvF B k F ρ A w) {hp : List Blk} (ho : HeapOK ρ hp w) {y : SV} {A1 : AE} {fr : Bool} {news : List (List Dat)} (hs : srcSV A hp y = some (A1, fr, news)) :
    ∃ F1, (∀ b, F b → F1 b) ∧ InvF B k F1 ρ A1 w ∧ Stp k ρ A k ρ A1 ∧ A1.nv = A.nv ∧ Src w (Sf B F1 fr) (y.den ρ) news := by
  have wk : ∀ (l : List SV) (A : AE), (weakL A l).nv = A.nv := by
    intro l
    induction l with
    | nil => intro A; rfl
    | cons x r ih =>
      intro A
      have hw1 : ∀ m, (A.weak m).nv = A.nv := fun m => by unfold AE.weak; split <;> rfl
      cases x <;> simp only [weakL, ih, hw1]
  unfold srcSV at hs
  split at hs
  · cases hs
    exact ⟨F, fun _ h => h, h, Stp.refl _ _ _, rfl, .inl ⟨rfl, none, 0, rfl⟩⟩
  · rename_i m
    cases hr : (A.v m).rows with
    | none => rw [hr] at hs; cases hs
    | some rows =>
      rw [hr] at hs
      cases hs
      refine ⟨F, fun _ h => h, h, Stp.refl _ _ _, rfl, ?_⟩
      by_cases hne : news = []
      · subst hne
        have h1 := h.rows hr
        refine .inl ⟨rfl, ?_⟩
        simp only [SV.den]
        revert h1
        cases ρ.v m <;> intro h1 <;> simp [isSlice, lenOf] at h1
        rename_i a l c
        have : l = 0 := by omega
        subst this
        exact ⟨a, c, rfl⟩
      · obtain ⟨a, cap, h1, _, u, h2⟩ := rows_at h hr hne
        exact .inr ⟨a, cap, u, h1, h2⟩
  · rename_i id len cap
    split at hs
    · rename_i cs t hb
      split at hs
      · rename_i hc
        split at hs
        · rename_i hl0
          cases hs
          subst hl0
          exact ⟨F, fun _ h => h, h, Stp.refl _ _ _, rfl, .inl ⟨rfl, some ⟨ρ.k id, 0, none⟩, cap, rfl⟩⟩
        · rename_i hl0
          split at hs
          · rename_i ds hds
            obtain ⟨fd, ds⟩ := ds
            cases hs
            obtain ⟨F1, h1, h2⟩ := weakL_inv cs h
            have hcap : cap * (cs.length / cap) = cs.length := hc.2.resolve_left hl0
            have hds' := adenL0_rep h2 hds (fun n hn => by
              cases ho' : ((weakL A cs).v n).isOwn with
              | false => rfl
              | true => exact absurd hn (weakL_noown cs A n ho').2)
            have hg := ho.1 id _ hb
            simp only [Blk.obj] at hg
            have hsz : ∀ i, i < len → i * (cs.length / cap) + cs.length / cap ≤ cs.length := by
              intro i hi
              have h1 : (i + 1) * (cs.length / cap) ≤ cap * (cs.length / cap) := Nat.mul_le_mul_right _ (by omega)
              rw [hcap] at h1
              rw [Nat.add_mul] at h1
              omega
            refine ⟨F1, h1, h2, Stp.weakL cs A, wk cs A, .inr ⟨⟨ρ.k id, 0, none⟩, cap, fun i j => ((denL ρ cs)[i * (cs.length / cap) + j]?).getD default, by rw [cut_len]; rfl, fun i row j d h3 h4 => ?_⟩⟩
            simp only at h3
            obtain ⟨rfl, hi⟩ := cut_get h3
            have hrl : (List.take (cs.length / cap) (List.drop (i * (cs.length / cap)) ds)).length = cs.length / cap := by
              rw [List.length_take, List.length_drop, hds'.1]
              have := hsz i hi
              omega
            rw [hrl]
            have hj : j < cs.length / cap := by
              have := (List.getElem?_eq_some_iff.1 h4).1
              omega
            rw [List.getElem?_take, if_pos hj, List.getElem?_drop] at h4
            have hlt := (List.getElem?_eq_some_iff.1 h4).1
            rw [hds'.1] at hlt
            have hcs := List.getElem?_eq_getElem hlt
            refine ⟨?_, ?_⟩
            · simp only [add_plain, Nat.zero_add, World.cell?, hg]
              simp [denL_get, hcs]
            · simp only [denL_get, hcs, Option.map_some, Option.getD_some]
              exact hds'.2 _ _ _ hcs h4
          · cases hs
      · cases hs
    · cases hs
  · cases hs

/-- What is appended to. -/
theorem own_ok (h : InvF B k F ρ A w) {hp : List Blk} {x : SV} {m : Option Nat} {es : Option (TypeId × Nat)} {fr : Bool} {rows : List (List Dat)} (hs : ownSV A hp x = some (m, es, fr, rows)) {e : TypeId} {sz : Nat} (he : es = none ∨ es = some (e, sz)) :
    OwnRep w B (Sf B F fr) e sz (x.den ρ) rows ∧ ((m = none ∧ ownBlk (x.den ρ) = none) ∨ ∃ n, m = some n ∧ (A.v n).isOwn = true ∧ ρ.v n = x.den ρ) := by
  unfold ownSV at hs
  split at hs
  · cases hs
    exact ⟨.inl ⟨rfl, rfl⟩, .inl ⟨rfl, rfl⟩⟩
  · rename_i id
    split at hs
    · cases hs
      exact ⟨.inr (.inl ⟨_, rfl, rfl⟩), .inl ⟨rfl, by simp [SV.den, ownBlk]⟩⟩
    · cases hs
  · rename_i n
    split at hs
    · rename_i e' sz' fr' rows' hv
      cases hs
      rcases he with he | he
      · cases he
      · cases he
        exact ⟨(h.own n _ _ _ _ hv).1, .inr ⟨n, rfl, by rw [hv]; rfl, rfl⟩⟩
    · cases hs
  · cases hs

/-! ### what goes into what is not one's own -/
theorem prep_inv : ∀ (fv : List Fv) (bs : List Bn) (vals : List SV) {A : AE} {F : Nat → Prop} (_ : InvF B k F ρ A w), ∃ F', (∀ b, F b → F' b) ∧ InvF B k F' ρ (prepA A fv bs vals) w ∧ Stp k ρ A k ρ (prepA A fv bs vals)
  | [], bs, vals, A, F, h => ⟨F, fun _ h => h, by simpa [prepA] using h, by simpa [prepA] using Stp.refl k ρ A⟩
  | .i _ :: r, bs, [], A, F, h => ⟨F, fun _ h => h, by simpa [prepA] using h, by simpa [prepA] using Stp.refl k ρ A⟩
  | .b _ :: r, bs, [], A, F, h => ⟨F, fun _ h => h, by simpa [prepA] using h, by simpa [prepA] using Stp.refl k ρ A⟩
  | .g _ :: r, bs, [], A, F, h => ⟨F, fun _ h => h, by simpa [prepA] using h, by simpa [prepA] using Stp.refl k ρ A⟩
  | .i _ :: r, bs, _ :: s, A, F, h => by simpa [prepA] using prep_inv r bs s h
  | .b _ :: r, bs, _ :: s, A, F, h => by simpa [prepA] using prep_inv r bs s h
  | .g _ :: r, bs, _ :: s, A, F, h => by simpa [prepA] using prep_inv r bs s h
  | .v _ :: r, [], vals, A, F, h => ⟨F, fun _ h => h, by simpa [prepA] using h, by simpa [prepA] using Stp.refl k ρ A⟩
  | .v _ :: r, b :: bs, [], A, F, h => ⟨F, fun _ h => h, by cases b <;> simpa [prepA] using h, by cases b <;> simpa [prepA] using Stp.refl k ρ A⟩
  | .v _ :: r, b :: bs, x :: s, A, F, h => by
    by_cases hc : ∃ fr m, b = .ro fr ∧ x = .val m
    · obtain ⟨fr, m, rfl, rfl⟩ := hc
      simp only [prepA]
      obtain ⟨F1, h1, h2⟩ := h.weak m
      obtain ⟨F2, h3, h4, h5⟩ := prep_inv r bs s h2
      exact ⟨F2, fun b hb => h3 b (h1 b hb), h4, (Stp.weak m).trans h5⟩
    · have : ∀ n, prepA A (.v n :: r) (b :: bs) (x :: s) = prepA A r bs s := fun n => by
        cases b <;> cases x <;> first | rfl | exact absurd ⟨_, _, rfl, rfl⟩ hc
      rw [this]
      exact prep_inv r bs s h
theorem prep_nv : ∀ (fv : List Fv) (bs : List Bn) (vals : List SV) (A : AE), (prepA A fv bs vals).nv = A.nv
  | [], bs, vals, A => by simp [prepA]
  | .i _ :: r, bs, [], A => by simp [prepA]
  | .b _ :: r, bs, [], A => by simp [prepA]
  | .g _ :: r, bs, [], A => by simp [prepA]
  | .i _ :: r, bs, _ :: s, A => by simpa [prepA] using prep_nv r bs s A
  | .b _ :: r, bs, _ :: s, A => by simpa [prepA] using prep_nv r bs s A
  | .g _ :: r, bs, _ :: s, A => by simpa [prepA] using prep_nv r bs s A
  | .v _ :: r, [], vals, A => by simp [prepA]
  | .v _ :: r, b :: bs, [], A => by cases b <;> simp [prepA]
  | .v _ :: r, b :: bs, x :: s, A => by
    by_cases hc : ∃ fr m, b = .ro fr ∧ x = .val m
    · obtain ⟨fr, m, rfl, rfl⟩ := hc
      simp only [prepA]
      rw [prep_nv r bs s]
      unfold AE.weak
      split <;> rfl
    · have : ∀ n, prepA A (.v n :: r) (b :: bs) (x :: s) = prepA A r bs s := fun n => by
        cases b <;> cases x <;> first | rfl | exact absurd ⟨_, _, rfl, rfl⟩ hc
      rw [this]
      exact prep_nv r bs s A
theorem owVals_own : ∀ {ow : List (Nat × Bn)} {a : List Dat}, owVals A ow = some a → ∀ m ∈ ow.map (·.1), (A.v m).isOwn = true
  | [], _, _, m, hm => by simp at hm
  | p :: r, a, h, m, hm => by
    simp only [owVals] at h
    split at h
    · rename_i hv
      split at h
      · cases h1 : owVals A r with
        | none => rw [h1] at h; cases h
        | some a' =>
          rcases List.mem_cons.1 hm with rfl | hm
          · rw [hv]; rfl
          · exact owVals_own h1 m hm
      · cases h
    · cases h

/-- From a state to a head: what a loop carries. -/
theorem carry_ok (h : InvF B k F ρ A w) {l : LSh} {vals : List SV} {ds : List Dat} (hc : carry A l vals = some ds) :
    ∃ F1, (∀ b, F b → F1 b) ∧ InvF B k F1 ρ (prepA A l.fv l.bs vals) w ∧ Stp k ρ A k ρ (prepA A l.fv l.bs vals) ∧ (∀ m ∈ l.owi, ((prepA A l.fv l.bs vals).v m).isOwn = true) ∧
      ∀ {kl : Nat} {lA : AE} {ρb : Env} {A' : AE}, BaseOK kl lA l.owi ρb k ρ (prepA A l.fv l.bs vals) → lpE lA l ds = some A' →
        InvF B kl F1 (assignL ρ ρb l.fv vals) A' w ∧ (∀ q, q < lA.nv → q ∉ l.owi → A'.v q = lA.v q) ∧ (∀ q, q < lA.nv → (assignL ρ ρb l.fv vals).v q = ρb.v q) ∧ (assignL ρ ρb l.fv vals).k = ρb.k ∧ lA.nv ≤ A'.nv := by
  unfold carry at hc
  split at hc
  · rename_i a b ha hb
    split at hc
    · rename_i hnd
      cases hc
      obtain ⟨F1, h1, h2, h3⟩ := prep_inv l.fv l.bs vals h
      refine ⟨F1, h1, h2, h3, owVals_own ha, fun {kl lA ρb A'} hbase hlp => ?_⟩
      obtain ⟨A2, h4, h5⟩ := owE_from (lA := lA) b ha (List.nodup_append.1 hnd).2.1
      unfold lpE at hlp
      rw [h4] at hlp
      simp only [Option.bind_some] at hlp
      obtain ⟨h6, h7⟩ := base_inv h2 hbase h5
      obtain ⟨h8, _⟩ := assign_ok h2 (fun b hb ρ1 hid => ids_sub hbase.kle hid hb) l.owi hb hlp h6 hbase.ids (fun q hq b hb => ⟨q, (h7 q hq).1, (h7 q hq).2.1, by rw [← (h7 q hq).2.2]; exact hb⟩) hnd
      refine ⟨h8.inv, fun q hq hno => ?_, fun q hq => h8.rl q (by rw [h5.nv]; exact hq), h8.kk, by rw [← h5.nv]; exact h8.nv⟩
      rw [h8.al q (by rw [h5.nv]; exact hq), h5.out q hno]
    · cases hc
  · cases hc
end
end Rx

namespace Rx
open Go
section
variable {P : Program} {B : Nat} {G : GT} {K : FuncId → Option Sg} {H : List Fv → Nat → LSh} {os : List Bn} {PostD : List Dat → Prop} {w0 : World} {Post : Value → World → Prop}

theorem shift_ptr {ρ : Env} {m off : Nat} {a : Addr} (h : ρ.v m = .pointer (some a)) : (SV.optr m off).den ρ = .pointer (some (a.add off)) := by
  simp [SV.den, h, shiftPtr]

/-- A loop that the tree is within, in both layers. -/
structure LV where
  l : LSh
  lA : AE
  kl : Nat
  body : List Dat → Option Out
  o : Out
structure Lk (B : Nat) (j : Nat) (la : LV) (lp : Lp) (k : Nat) (ρ : Env) (A : AE) : Prop where
  fv : lp.fv = la.l.fv
  base : BaseOK la.kl la.lA la.l.owi lp.ρ k ρ A
  bd : ∀ ds x, la.body ds = some x → ∃ A', lpE la.lA la.l ds = some A'
  I : ∀ m ds ρ' w A' F', RunsN j la.body m ds la.o → lpE la.lA la.l ds = some A' → InvF B la.kl F' ρ' A' w → (∀ n, n < la.lA.nv → n ∉ la.l.owi → A'.v n = la.lA.v n) → (∀ n, n < la.lA.nv → ρ'.v n = lp.ρ.v n) → (∀ id, id < la.kl → ρ'.k id = lp.ρ.k id) → la.lA.nv ≤ A'.nv → lp.I m ρ' w
def Lks (B : Nat) (LA : List LV) (L : List Lp) (k : Nat) (ρ : Env) (A : AE) : Prop :=
  LA.length = L.length ∧ ∀ (j : Nat) la l, LA[j]? = some la → L[j]? = some l → Lk B j la l k ρ A
theorem BaseOK.step {kl k k2 : Nat} {lA A A2 : AE} {ow : List Nat} {ρb ρ ρ2 : Env} (b : BaseOK kl lA ow ρb k ρ A) (s : Stp k ρ A k2 ρ2 A2) : BaseOK kl lA ow ρb k2 ρ2 A2 := by
  refine ⟨b.ei, b.eb, fun n hn => (s.rv n (Nat.lt_of_lt_of_le hn b.nv)).trans (b.rv n hn), fun n hn hno => ?_, b.noown, b.top, Nat.le_trans b.kle s.kle, fun id hid => (s.ids id (Nat.lt_of_lt_of_le hid b.kle)).trans (b.ids id hid), b.owlt, b.ptr, Nat.le_trans b.nv s.nv⟩
  rcases b.av n hn hno with h1 | h1
  · exact .inl h1
  · rcases s.av n (Nat.lt_of_lt_of_le hn b.nv) with h2 | h2
    · exact .inr (h2.trans h1)
    · rw [h1, b.noown n] at h2
      cases h2
theorem Lk.step {j : Nat} {la : LV} {l : Lp} {k k2 : Nat} {ρ ρ2 : Env} {A A2 : AE} (h : Lk B j la l k ρ A) (s : Stp k ρ A k2 ρ2 A2) : Lk B j la l k2 ρ2 A2 :=
  ⟨h.fv, h.base.step s, h.bd, h.I⟩
theorem Lks.step {LA : List LV} {L : List Lp} {k k2 : Nat} {ρ ρ2 : Env} {A A2 : AE} (h : Lks B LA L k ρ A) (s : Stp k ρ A k2 ρ2 A2) : Lks B LA L k2 ρ2 A2 :=
  ⟨h.1, fun j la l h1 h2 => (h.2 j la l h1 h2).step s⟩

def OutOK (PostD : List Dat → Prop) (LA : List LV) (L : List Lp) : Out → Prop
  | .ret ds => PostD ds
  | .cont j vs => ∃ la lp, LA[j]? = some la ∧ L[j]? = some lp ∧ ∃ m, m < lp.m ∧ RunsN j la.body m vs la.o

theorem BndA.stp {k : Nat} {A A' : AE} {ρ ρ' : Env} {fv : List Fv} (h : BndA A A' fv) (hd : Dif fv ρ ρ') : Stp k ρ A k ρ' A' :=
  ⟨fun n hn => hd.2.2.1 n (fun hm => by have := h.ge n hm; omega), fun n hn => .inl (h.av n hn), h.nv, Nat.le_refl _, fun id _ => by rw [hd.2.2.2]⟩
theorem LB.ro {w : World} {B : Nat} {F : Nat → Prop} {fr : Bool} {α : Type} : ∀ {vs : List α} {us : List Value} {ds : List Dat}, us.length = vs.length → ds.length = vs.length → (∀ (j : Nat) u d, us[j]? = some u → ds[j]? = some d → Rep w (Sf B F fr) u d) → LB w B F (vs.map fun _ => .ro fr) us ds
  | [], [], [], _, _, _ => trivial
  | _ :: r, u :: us, d :: ds, h1, h2, h3 => ⟨h3 0 u d rfl rfl, LB.ro (by simpa using h1) (by simpa using h2) (fun j u d hu hd => h3 (j + 1) u d (by simpa using hu) (by simpa using hd))⟩
  | [], _ :: _, _, h, _, _ => by simp at h
  | [], [], _ :: _, _, h, _ => by simp at h
  | _ :: _, [], _, h, _, _ => by simp at h
  | _ :: _, _ :: _, [], _, h, _ => by simp at h
theorem ownsIn_ro {fr : Bool} {α : Type} : ∀ (vs : List α) (us : List Value), ownsIn (vs.map fun _ => .ro fr) us = []
  | [], us => by cases us <;> rfl
  | _ :: r, [] => rfl
  | _ :: r, _ :: us => by simp [ownsIn, ownsIn_ro r us]

theorem allF_intro : ∀ (fv : List Fv) {ρ : Env} {p : Env → Prop}, (∀ ρ', p ρ') → allF fv ρ p
  | [], ρ, _, h => h ρ
  | .i _ :: r, _, _, h => fun _ => allF_intro r h
  | .b _ :: r, _, _, h => fun _ => allF_intro r h
  | .v _ :: r, _, _, h => fun _ _ => allF_intro r h
  | .g _ :: r, _, _, h => fun _ => allF_intro r h

theorem Src.mono {w : World} {S S' : Nat → Prop} {y : Value} {news : List (List Dat)} (h : Src w S y news) (hS : ∀ b, S b → S' b) : Src w S' y news := by
  rcases h with h | ⟨a, c, u, h1, h2⟩
  · exact .inl h
  · exact .inr ⟨a, c, u, h1, fun i row j d h3 h4 => ⟨(h2 i row j d h3 h4).1, (h2 i row j d h3 h4).2.mono hS⟩⟩

theorem flatL_get : ∀ {l : List Dat} {j : Nat} {d : Dat}, flatL l = true → l[j]? = some d → d.flat = true
  | [], _, _, _, h => by simp at h
  | x :: r, 0, d, hf, h => by
    simp only [flatL, Bool.and_eq_true] at hf
    simp at h; subst h; exact hf.1
  | x :: r, j + 1, d, hf, h => by
    simp only [flatL, Bool.and_eq_true] at hf
    exact flatL_get hf.2 (by simpa using h)
theorem Rep.flat {w : World} {S S' : Nat → Prop} {v : Value} {d : Dat} (h : Rep w S v d) (hf : d.flat = true) : Rep w S' v d := by
  cases h with
  | int k n => exact .int k n
  | bool b => exact .bool b
  | nil => cases hf
  | sl => cases hf
theorem Src.flat {w : World} {S S' : Nat → Prop} {y : Value} {news : List (List Dat)} (h : Src w S y news) (hf : ∀ r ∈ news, flatL r = true) : Src w S' y news := by
  rcases h with h | ⟨a, c, u, h1, h2⟩
  · exact .inl h
  · exact .inr ⟨a, c, u, h1, fun i row j d h3 h4 => ⟨(h2 i row j d h3 h4).1, (h2 i row j d h3 h4).2.flat (flatL_get (hf row (List.mem_of_getElem? h3)) h4)⟩⟩

/-- All that comes back has this shape. -/
def Tree.rets (r : RS) : Tree → Bool
  | .ret _ v _ => decide (v.rshp = r)
  | .br _ t e | .both t e => t.rets r && e.rets r
  | .need _ t | .new _ t | .newf _ t | .call _ _ _ _ _ t | .idx _ _ _ _ t | .ld _ _ _ _ t | .sem _ _ _ _ t | .sto _ _ _ t | .loop _ _ _ t => t.rets r
  | _ => true

/-- The first leaves of a datum's row, bound. -/
theorem bindE_take {bs : List Bn} {l : List SV} : ∀ {A A' : AE} {ds : List Dat}, bindE A bs l ds = some A' → l.length = bs.length ∧ l.length ≤ ds.length ∧ bindE A bs l (ds.take l.length) = some A' := by
  induction bs generalizing l with
  | nil =>
    intro A A' ds h
    cases l with
    | nil => simpa [bindE] using h
    | cons _ _ => simp [bindE] at h
  | cons b bs ih =>
    intro A A' ds h
    cases l with
    | nil => simp [bindE] at h
    | cons x r =>
      simp only [bindE] at h ⊢
      have key : ∀ p, (bind1 A b x ds fun A ds => some (A, ds)) = some p → ∃ d ds', ds = d :: ds' ∧ p.2 = ds' ∧ ∀ l2, (bind1 A b x (d :: l2) fun A ds => some (A, ds)) = some (p.1, l2) := by
        intro p hp
        unfold bind1 at hp ⊢
        split at hp
        · cases ds with
          | nil => cases hp
          | cons d ds =>
            cases d <;> simp only [fI] at hp <;> try (cases hp; done)
            split at hp
            · rename_i hk
              cases hp
              exact ⟨_, _, rfl, rfl, fun l2 => by simp [fI, hk]⟩
            · cases hp
        · cases ds with
          | nil => cases hp
          | cons d ds =>
            cases d <;> simp only [fB] at hp <;> try (cases hp; done)
            cases hp
            exact ⟨_, _, rfl, rfl, fun l2 => by simp [fB]⟩
        · rename_i n
          split at hp
          · rename_i hn
            cases ds with
            | nil => cases hp
            | cons d ds =>
              cases d <;> simp only [fV] at hp <;> try (cases hp; done)
              cases hp
              exact ⟨_, _, rfl, rfl, fun l2 => by simp [fV, hn]⟩
          · cases hp
        · cases hp
      cases hb : (bind1 A b x ds fun A ds => some (A, ds)) with
      | none => rw [hb] at h; cases h
      | some p =>
        rw [hb] at h
        obtain ⟨d, ds', rfl, rfl, h3⟩ := key p hb
        obtain ⟨h4, h5, h6⟩ := ih (l := r) h
        refine ⟨by simp [h4], by simpa using h5, ?_⟩
        rw [List.length_cons, List.take_succ_cons, h3]
        exact h6

set_option maxHeartbeats 800000 in
/-- **What a tree comes to over data holds of its runs.** -/
theorem eval_sound (hG : GOK P G) (hK : ∀ f s, K f = some s → FnOK P f s) (hB : w0.heap.size = B) {v0 : RS} (hPost : ∀ (v : SV) ρ w (S : Nat → Prop) ds, v.rshp = v0 → PostD ds → (∀ b, S b → B ≤ b ∧ b < w.heap.size) → LeafOK w B S os (denL ρ v.rleaves) ds → Fr [] w0 w → Post (v.den ρ) w) :
    ∀ (t : Tree) (k : Nat) (LA : List LV) (L : List Lp) (A : AE) (ρ : Env) (F : Nat → Prop) (wl : World) (o : Out), t.eval G K H os k (LA.map LV.l) A = some o → OutOK PostD LA L o → t.rets v0 = true → InvF B k F ρ A wl → Lks B LA L k ρ A → t.holds P [] w0 Post L ρ wl := by
  intro t
  induction t with
  | bot => intro k LA L A ρ F wl o h; simp [Tree.eval] at h
  | stuck why => intro k LA L A ρ F wl o h; simp [Tree.eval] at h
  | ret n v hp =>
    intro k LA L A ρ F wl o h hout hrt hi hl w ho hfr0 hfr
    simp only [Tree.eval] at h
    split at h
    · rename_i hc
      obtain ⟨rfl, hhp⟩ := hc
      split at h
      · rename_i ds ow hd how
        split at h
        · rename_i hc
          obtain ⟨h1, h2, h3⟩ := hc
          cases h
          obtain ⟨fr, ds⟩ := ds
          simp only at h1
          subst h1
          have hw := hi.world (Nat.le_refl _) hfr
          obtain ⟨h4, h5⟩ := ret_leaf hw ho (Nat.le_of_eq hhp) (retOwn_own how) hd how (fun m hm => hm) (by simpa using h2) h3
          exact hPost v ρ w _ ds (by simpa [Tree.rets] using hrt) hout (fun b hb => ⟨hb.1, hb.2.1⟩) h4 hfr0
        · cases h
      · cases h
    · cases h
  | br c t e iht ihe =>
    intro k LA L A ρ F wl o h hout hrt hi hl
    simp only [Tree.rets, Bool.and_eq_true] at hrt
    have hnil : ∀ n rows (a b : Option Out), (A.v n).rows = some rows → nilK rows a b = some o → (isNil (ρ.v n) = true → a = some o) ∧ (isNil (ρ.v n) = false → b = some o) := by
      intro n rows a b hr h
      have h1 := (hi.rows hr).2.2
      unfold nilK at h
      split at h
      · unfold agree at h
        split at h
        · rename_i he
          subst he
          exact ⟨fun _ => h, fun _ => h⟩
        · cases h
      · rename_i hne
        exact ⟨fun hn => absurd (h1 hn) hne, fun _ => h⟩
    simp only [Tree.eval] at h
    split at h
    · rename_i n
      cases hr : (A.v n).rows with
      | none => rw [hr] at h; cases h
      | some rows =>
        rw [hr] at h
        obtain ⟨h1, h2⟩ := hnil n rows _ _ hr h
        exact ⟨fun hc => iht k LA L A ρ F wl o (h1 hc) hout hrt.1 hi hl, fun hc => ihe k LA L A ρ F wl o (h2 hc) hout hrt.2 hi hl⟩
    · rename_i n
      cases hr : (A.v n).rows with
      | none => rw [hr] at h; cases h
      | some rows =>
        rw [hr] at h
        obtain ⟨h1, h2⟩ := hnil n rows _ _ hr h
        refine ⟨fun hc => iht k LA L A ρ F wl o (h2 ?_) hout hrt.1 hi hl, fun hc => ihe k LA L A ρ F wl o (h1 ?_) hout hrt.2 hi hl⟩
        · simpa [BE.ev] using hc
        · simpa [BE.ev] using hc
    · split at h
      · rename_i hok
        have hev := BE.aev_ev hi c hok
        refine ⟨fun hc => iht k LA L A ρ F wl o ?_ hout hrt.1 hi hl, fun hc => ihe k LA L A ρ F wl o ?_ hout hrt.2 hi hl⟩
        · rw [hev, hc] at h; exact h
        · rw [hev, hc] at h; exact h
      · cases h
  | need c t iht =>
    intro k LA L A ρ F wl o h hout hrt hi hl
    simp only [Tree.eval] at h
    split at h
    · rename_i hok
      have hev := BE.aev_ev hi c hok
      cases hc : c.aev A with
      | false => rw [hc] at h; cases h
      | true =>
        rw [hc] at h
        exact ⟨by rw [← hev, hc], iht k LA L A ρ F wl o h hout hrt hi hl⟩
    · cases h
  | new id t iht =>
    intro k LA L A ρ F wl o h hout hrt hi hl b hb hne
    simp only [Tree.eval] at h
    split at h
    · rename_i he
      subst he
      refine iht (id + 1) LA L A _ F wl o h hout hrt (hi.newId hb) (hl.step ⟨fun _ _ => rfl, fun _ _ => .inl rfl, Nat.le_refl _, Nat.le_succ _, fun i hi => ?_⟩)
      simp [Env.setK, show i ≠ id by omega]
    · cases h
  | newf id t iht =>
    intro k LA L A ρ F wl o h hout hrt hi hl b l hb hne
    simp only [Tree.eval] at h
    split at h
    · rename_i he
      subst he
      have h1 := hi.newId hb
      have h2 : InvF B (id + 1) F ((ρ.setK id b).setF id l) A wl := ⟨h1.ei, h1.eb, h1.top, h1.out, h1.ro, h1.own, h1.ptr, h1.inj, h1.idw, h1.size⟩
      refine iht (id + 1) LA L A _ F wl o h hout hrt h2 (hl.step ⟨fun _ _ => rfl, fun _ _ => .inl rfl, Nat.le_refl _, Nat.le_succ _, fun i hi => ?_⟩)
      simp [Env.setK, Env.setF, show i ≠ id by omega]
    · cases h
  | call hp f args fv v t iht =>
    intro k LA L A ρ F wl o h hout hrt hi hl w ho hfr0 hfr
    simp only [Tree.eval] at h
    split at h
    · rename_i s hs
      split at h
      · rename_i hc
        obtain ⟨hhp, rfl, hnd, hargs, hv⟩ := hc
        split at h
        · rename_i ds hd
          obtain ⟨fr, ds⟩ := ds
          cases hfn : s.fn ds with
          | none => rw [hfn] at h; cases h
          | some rs =>
            rw [hfn] at h
            simp only [Option.bind_some] at h
            rw [bindK_eq] at h
            cases hb : bindE A s.os v.rleaves rs with
            | none => rw [hb] at h; cases h
            | some A' =>
              rw [hb] at h
              simp only [Option.bind_some] at h
              have hw := hi.world (Nat.le_of_eq hhp) hfr
              have hids : ∀ id, id < k → ρ.k id < w.heap.size := fun id hid => ho.lt (by omega)
              obtain ⟨hos, hf⟩ := hK f s hs
              obtain ⟨hl1, hl2⟩ := adenL_rep hw ho (Nat.le_of_eq hhp) 4 _ hd
              have hsh := shps_den ρ args
              rw [hargs] at hsh
              refine Calls.mono (hf w (denL ρ args) (denL ρ (leavesL args)) ds rs hsh (by rw [denL_len, hl1]) (fun j u d hu hd' => ?_) hfn) (fun e w' he => ?_)
              · rw [denL_get] at hu
                cases hj : (leavesL args)[j]? with
                | none => rw [hj] at hu; cases hu
                | some x =>
                  rw [hj] at hu
                  cases hu
                  exact (hl2 j x d hj hd').mono (fun b hb => Sx.lt hw hb)
              · obtain ⟨u, rfl, hfw, hres⟩ := he
                obtain ⟨F', ρ', hinv, hdif, hex, hden⟩ := call_bind hw hids hfw hos hv hb hnd hres
                exact hex _ ⟨by rw [hden], hfw, iht k LA L A' ρ' F' w' o h hout hrt hinv (hl.step ((bindE_a hb).stp hdif))⟩
        · cases h
      · cases h
    · cases h
  | idx s i sz n t iht =>
    intro k LA L A ρ F wl o h hout hrt hi hl
    simp only [Tree.eval] at h
    split at h
    · rename_i hc
      obtain ⟨h1, hn⟩ := hc
      cases hr : (A.v s).rows with
      | none => rw [hr] at h; cases h
      | some rows =>
        rw [hr] at h
        simp only [ixK] at h
        split at h
        · rename_i hb
          obtain ⟨h2, h3⟩ := hb
          have hev := IE.aev_ev hi i h1
          have hne : rows ≠ [] := by rintro rfl; simp at h3; omega
          obtain ⟨a, cap, hv, _, _⟩ := rows_at hi hr hne
          have hs : s < A.nv := by
            rcases Nat.lt_or_ge s A.nv with h6 | h6
            · exact h6
            · rw [hi.top s h6] at hr; cases hr
          refine ⟨a, rows.length, cap, hv, by rw [← hev]; exact h2, by rw [← hev]; exact h3, ?_⟩
          rw [← hev]
          exact iht k LA L _ _ F wl o h hout hrt (hi.setV hn rfl rfl (fun _ _ he => by cases he) (fun _ _ _ he => by cases he; exact ⟨hs, a, _, cap, hv, rfl⟩)) (hl.step (Stp.setV hn _ rfl _))
        · cases h
    · cases h
  | ld n p fv vs t iht =>
    intro k LA L A ρ F wl o h hout hrt hi hl w hfr0 hfr
    simp only [Tree.eval] at h
    split at h
    · rename_i hc
      obtain ⟨hn, rfl, hnd⟩ := hc
      split at h
      · rename_i m off
        split at h
        · rename_i s i sz hv
          cases hr : (A.v s).rows with
          | none => rw [hr] at h; cases h
          | some rows =>
            rw [hr] at h
            simp only [ldK] at h
            split at h
            · rename_i row hrow
              split at h
              · rename_i hlen
                rw [bindK_eq] at h
                cases hb : bindE A (vs.map fun _ => .ro (A.v s).fr) vs (row.drop off) with
                | none => rw [hb] at h; cases h
                | some A' =>
                  rw [hb] at h
                  simp only [Option.bind_some] at h
                  obtain ⟨_, hle, hb'⟩ := bindE_take hb
                  obtain ⟨hs, a, len, cap, hsv, hmv⟩ := hi.ptr m _ _ _ hv
                  have hne : rows ≠ [] := by rintro rfl; simp at hrow
                  obtain ⟨a', cap', hsv', hblk, u, hcell⟩ := rows_at hi hr hne
                  rw [hsv] at hsv'
                  cases hsv'
                  have hw := hi.world hn hfr
                  have hsame : w.heap[a.block]? = wl.heap[a.block]? := by
                    rcases hblk with hF | ⟨ho, hob⟩
                    · exact hfr.block _ (hi.out _ hF).1 (fun hx => (hi.out _ hF).2.1 (by
                        obtain ⟨q, hq, e⟩ := mem_ids.1 hx
                        exact mem_ids.2 ⟨q, by omega, e⟩))
                    · obtain ⟨e, sz', fr', rows', hv'⟩ := isOwn_own ho
                      obtain ⟨h6, h7⟩ := hi.own s _ _ _ _ hv'
                      exact hfr.block _ (h6.lt hob).2 (fun hx => h7 _ hob (by
                        obtain ⟨q, hq, e⟩ := mem_ids.1 hx
                        exact mem_ids.2 ⟨q, by omega, e⟩))
                  let us : List Value := (List.range vs.length).map fun q => u i (off + q)
                  have hlt : ((row.drop off).take vs.length).length = vs.length := by rw [List.length_take]; omega
                  have hat : ∀ (j : Nat) (d : Dat), ((row.drop off).take vs.length)[j]? = some d → row[off + j]? = some d := by
                    intro j d hd
                    rw [List.getElem?_take] at hd
                    split at hd
                    · rw [List.getElem?_drop] at hd; exact hd
                    · cases hd
                  obtain ⟨ρ', hbnd, hden⟩ := bindE_ok hi hb' hnd (us := us) (LB.ro (by simp [us]) hlt (fun j x d hx hd => by
                    have hj := (List.getElem?_eq_some_iff.1 hd).1
                    rw [hlt] at hj
                    simp [us, hj] at hx
                    subst hx
                    exact (hcell i row (off + j) d hrow (hat j d hd)).2)) (fun b hb => by rw [ownsIn_ro] at hb; cases hb)
                  have := hbnd.ex [] (fun ρ' => cellsAt w ((SV.optr m off).den ρ) (denL ρ' vs) ∧ t.holds P [] w0 Post L ρ' wl) ⟨?_, iht k LA L A' ρ' F wl o h hout hrt hbnd.inv (hl.step ((bindE_a hb).stp hbnd.dif))⟩
                  · simpa using this
                  · refine ⟨(a.add (i * sz)).add off, shift_ptr hmv, fun j x hx => ?_⟩
                    rw [hden] at hx
                    have hj : j < vs.length := by
                      have := (List.getElem?_eq_some_iff.1 hx).1
                      simpa [us] using this
                    simp [us, hj] at hx
                    subst hx
                    have hj' : j < ((row.drop off).take vs.length).length := by omega
                    have hd := hat j _ (List.getElem?_eq_getElem hj')
                    have := (hcell i row (off + j) _ hrow hd).1
                    rw [hlen] at this
                    rw [addr_add_add, addr_add_add, World.cell?_of_block (w := wl) (by rw [add_block]; exact hsame)]
                    exact this
              · cases h
            · cases h
        · cases h
      · cases h
    · cases h
  | sem op args hp n t iht =>
    intro k LA L A ρ F wl o h hout hrt hi hl w ho hfr0 hfr
    simp only [Tree.eval] at h
    split at h
    case isFalse => cases h
    rename_i hc
    obtain ⟨hhp, hn⟩ := hc
    have hw := hi.world (Nat.le_of_eq hhp) hfr
    have hids : ∀ id, id < k → ρ.k id < w.heap.size := fun id hid => ho.lt (by omega)
    have hnew : ∀ b, w.heap.size ≤ b → b ∉ ids ρ k := fun b hb hx => by
      obtain ⟨q, hq, rfl⟩ := mem_ids.1 hx
      have := hids q hq
      omega
    split at h
    · -- append
      rename_i ats oty x y
      split at h
      case h_2 => cases h
      rename_i ty ty' hats
      split at h
      case h_2 => cases h
      rename_i g hg
      obtain ⟨e, sz, z⟩ := g
      split at h
      case h_2 => cases h
      rename_i src hsrc
      obtain ⟨A1, fr2, news⟩ := src
      split at h
      case h_2 => cases h
      rename_i ow hown
      obtain ⟨m, es, fr1, rows⟩ := ow
      split at h
      case isFalse => cases h
      rename_i hc2
      obtain ⟨rfl, hes⟩ := hc2
      simp only [apK] at h hes hown
      split at h
      case isFalse => cases h
      rename_i hc3
      obtain ⟨hsz, hbd⟩ := hc3
      have hatse : ats = #[ty, ty] := by
        apply Array.toList_inj.1
        simpa using hats
      subst hatse
      obtain ⟨F1, hF1, hi1, hst1, hnA1, hsr⟩ := src_ok hw ho hsrc
      obtain ⟨hor, hwho⟩ := own_ok hi1 hown hes
      have hsr' : Src w (Sf B F1 (fr1 && (fr2 || flatL z))) (y.den ρ) news := by
        cases hfl : flatL z with
        | true => exact hsr.flat (fun r hr => (hsz r hr).2 hfl)
        | false => exact hsr.mono (Sf.mono (fun _ h => h) (by simp))
      have hxb : ∀ b, F1 b → b < w.heap.size ∧ ownBlk (x.den ρ) ≠ some b := fun b hb => ⟨(hi1.out b hb).1, fun he => by
        rcases hwho with ⟨_, h1⟩ | ⟨q, _, h1, h2⟩
        · rw [h1] at he; cases he
        · rw [← h2] at he; exact (hi1.out b hb).2.2 q h1 he⟩
      obtain ⟨v', w', hrun, hfw, hor', hvb⟩ := append_ok (F := Sf B F1 (fr1 && (fr2 || flatL z))) hG hg oty hi1.size (hor.move (fun _ _ => rfl) (Sf.mono (fun _ h => h) (by simp; intro h _; exact h)) (fun _ _ => rfl)) hsr' (fun r hr => (hsz r hr).1) hbd (fun b hb => hxb b hb.1)
      have hone := hor'.slice.1
      have hxids : ∀ b, ownBlk (x.den ρ) = some b → B ≤ b ∧ b ∉ ids ρ k := fun b hb => by
        rcases hwho with ⟨_, h1⟩ | ⟨q, _, h1, h2⟩
        · rw [h1] at hb; cases hb
        · rw [← h2] at hb
          obtain ⟨e', sz', fr', rows', hv'⟩ := isOwn_own h1
          obtain ⟨h6, h7⟩ := hi1.own q _ _ _ _ hv'
          exact ⟨(h6.lt hb).1, h7 b hb⟩
      -- with x's variable out of the way
      have hdrop : InvF B k F1 ρ (A1.drop m) w ∧ (∀ q, ((A1.drop m).v q).isOwn = true → (A1.v q).isOwn = true ∧ ∀ b, ownBlk (x.den ρ) = some b → ownBlk (ρ.v q) ≠ some b) ∧ Stp k ρ A1 k ρ (A1.drop m) ∧ (A1.drop m).nv = A1.nv := by
        rcases hwho with ⟨rfl, h1⟩ | ⟨q, rfl, h1, h2⟩
        · exact ⟨hi1, fun q hq => ⟨hq, fun b hb => by rw [h1] at hb; cases hb⟩, Stp.refl _ _ _, rfl⟩
        · refine ⟨hi1.drop q, fun q' hq' => ?_, Stp.updOwn h1 _, rfl⟩
          have hne : q' ≠ q := by rintro rfl; simp only [AE.drop, updV_eq] at hq'; cases hq'
          simp only [AE.drop, updV_ne hne] at hq'
          refine ⟨hq', fun b hb he => hne ?_⟩
          rw [← h2] at hb
          exact hi1.inj q' q b hq' h1 he hb
      obtain ⟨hi2, hown2, hst2, hnv2⟩ := hdrop
      have hi3 : InvF B k F1 ρ (A1.drop m) w' := hi2.other hfw.size (fun b hb => hfw.block b (hxb b hb).1 (fun hx => (hxb b hb).2 (by simpa using hx))) (fun q b hq hb => by
        obtain ⟨e', sz', fr', rows', hv'⟩ := isOwn_own hq
        exact hfw.block b ((hi2.own q _ _ _ _ hv').1.lt hb).2 (fun hx => (hown2 q hq).2 b (by simpa using hx) hb))
      have hn2 : (A1.drop m).nv ≤ n := by rw [hnv2, hnA1]; exact hn
      refine ⟨v', hone, w', (ownBlk (x.den ρ)).toList, by simpa [SOp.run, denL] using hrun, hfw, fun j hj => ?_, iht k LA L _ _ F1 w' o h hout hrt (hi3.setOwn hn2 hone hor' (fun b hb => ?_)) (hl.step ((hst1.trans hst2).trans (Stp.setV hn2 _ _ _)))⟩
      · have hj' : ownBlk (x.den ρ) = some j := by simpa using hj
        exact ⟨.inr (by rw [hB]; exact (hxids j hj').1), by rw [hhp]; exact (hxids j hj').2⟩
      · rcases hvb b hb with h1 | h1
        · exact ⟨(hxids b h1).2, fun hF => (hxb b hF).2 h1, fun q hq => (hown2 q hq).2 b h1⟩
        · refine ⟨hnew b h1, fun hF => by have := (hxb b hF).1; omega, fun q hq he => ?_⟩
          obtain ⟨e', sz', fr', rows', hv'⟩ := isOwn_own hq
          have := ((hi2.own q _ _ _ _ hv').1.lt he).2
          omega
    · -- make
      rename_i ty kl l kc c
      split at h
      case h_2 => cases h
      rename_i g hg
      obtain ⟨e, sz, z⟩ := g
      split at h
      case isFalse => cases h
      rename_i hc2
      obtain ⟨hok, rfl⟩ := hc2
      simp only [mkK] at h
      split at h
      case isFalse => cases h
      rename_i hc3
      obtain ⟨h0, h1⟩ := hc3
      have hev := IE.aev_ev hw c hok
      obtain ⟨v', w', hrun, hfw, hor, hone, hvb⟩ := mks_ok (F := Sf B F true) hG hg hw.size kl kc h0 h1
      rw [hev] at hrun
      have hi3 : InvF B k F ρ A w' := hw.other hfw.size (fun b hb => hfw.block b (hw.out b hb).1 (fun hx => by cases hx)) (fun q b hq hb => by
        obtain ⟨e', sz', fr', rows', hv'⟩ := isOwn_own hq
        exact hfw.block b ((hw.own q _ _ _ _ hv').1.lt hb).2 (fun hx => by cases hx))
      refine ⟨v', hone, w', [], by simpa [SOp.run, denL, SV.den] using hrun, hfw, fun j hj => by (cases hj), iht k LA L _ _ F w' o h hout hrt (hi3.setOwn hn hone hor (fun b hb => ?_)) (hl.step (Stp.setV hn _ _ _))⟩
      have h2 := hvb b hb
      refine ⟨hnew b h2, fun hF => by have := (hw.out b hF).1; omega, fun q hq he => ?_⟩
      obtain ⟨e', sz', fr', rows', hv'⟩ := isOwn_own hq
      have := ((hw.own q _ _ _ _ hv').1.lt he).2
      omega
    · -- slice
      rename_i ty lo hi' m bs
      split at h
      case h_2 => cases h
      rename_i g rows hg hr
      obtain ⟨e, sz, z⟩ := g
      split at h
      case h_2 => cases h
      rename_i ab hbd
      obtain ⟨a, b⟩ := ab
      simp only [slK] at h
      split at h
      case isFalse => cases h
      rename_i hc3
      obtain ⟨h0, h1, h2, hsz⟩ := hc3
      obtain ⟨F1, hF1, hi1⟩ := hw.weak m
      have hv : (A.weak m).v m = .ro (A.v m).fr rows := by
        unfold AE.weak
        cases hvm : A.v m with
        | no => rw [hvm] at hr; cases hr
        | ptr _ _ _ => rw [hvm] at hr; cases hr
        | ro fr' r' => rw [hvm] at hr; cases hr; simp [hvm, VD.fr]
        | own e' sz' fr' r' => rw [hvm] at hr; cases hr; simp [updV_eq, VD.fr]
      have hrep := hi1.ro m _ _ hv
      have hbs : ∃ lv hv' : Option Value, SOp.run (.slice ty lo hi' false) (denL ρ (.val m :: bs)) = Instr.sliceAt ty (ρ.v m) lv hv' none ∧ ((lv = none ∧ a = 0) ∨ ∃ kk, lv = some (.int kk a)) ∧ ((hv' = none ∧ b = rows.length) ∨ ∃ kk, hv' = some (.int kk b)) := by
        unfold boundI at hbd
        split at hbd
        · cases hbd
          exact ⟨none, none, by simp [SOp.run, denL, SV.den], .inl ⟨rfl, rfl⟩, .inl ⟨rfl, rfl⟩⟩
        · rename_i kk e1
          split at hbd
          · rename_i hok
            cases hbd
            exact ⟨some (.int kk (e1.ev ρ)), none, by simp [SOp.run, denL, SV.den], .inr ⟨kk, by rw [IE.aev_ev hw e1 hok]⟩, .inl ⟨rfl, rfl⟩⟩
          · cases hbd
        · rename_i kk e1
          split at hbd
          · rename_i hok
            cases hbd
            exact ⟨none, some (.int kk (e1.ev ρ)), by simp [SOp.run, denL, SV.den], .inl ⟨rfl, rfl⟩, .inr ⟨kk, by rw [IE.aev_ev hw e1 hok]⟩⟩
          · cases hbd
        · rename_i kk e1 kk' e2
          split at hbd
          · rename_i hok
            rw [Bool.and_eq_true] at hok
            cases hbd
            exact ⟨some (.int kk (e1.ev ρ)), some (.int kk' (e2.ev ρ)), by simp [SOp.run, denL, SV.den], .inr ⟨kk, by rw [IE.aev_ev hw e1 hok.1]⟩, .inr ⟨kk', by rw [IE.aev_ev hw e2 hok.2]⟩⟩
          · cases hbd
        · cases hbd
      obtain ⟨lv, hv', hsop, hlv, hhv⟩ := hbs
      obtain ⟨v', hrun, hone, hrep'⟩ := slice_ok hG hg hrep hsz hlv hhv h0 h1 h2
      have hnv : (A.weak m).nv ≤ n := by
        have : (A.weak m).nv = A.nv := by unfold AE.weak; split <;> rfl
        rw [this]; exact hn
      refine ⟨v', hone, w, [], by rw [hsop]; exact hrun, Fr.refl _ _, fun j hj => by (cases hj), iht k LA L _ _ F1 w o h hout hrt (hi1.setV hnv hone rfl (fun _ _ he => by cases he; exact hrep') (fun _ _ _ he => by cases he)) (hl.step ((Stp.weak m).trans (Stp.setV hnv _ _ _)))⟩
    · cases h
  | sto k' p vs t iht =>
    intro k LA L A ρ F wl o h hout hrt hi hl w hfr0 hfr
    simp only [Tree.eval] at h
    split at h
    case isFalse => cases h
    rename_i hn
    split at h
    case h_2 => cases h
    rename_i m off
    split at h
    case h_2 => cases h
    rename_i s i sz hv
    split at h
    case h_2 => cases h
    rename_i ds e sz' fr rows hds hvs
    obtain ⟨fd, ds⟩ := ds
    split at h
    case isFalse => cases h
    rename_i hsz
    subst hsz
    simp only [stK] at h
    split at h
    case h_2 => cases h
    rename_i row hrow
    split at h
    case isFalse => cases h
    rename_i hoff
    have hw := hi.world hn hfr
    obtain ⟨F1, hF1, hi1⟩ := weakL_inv vs hw
    obtain ⟨_, a, len, cap, hsv, hmv⟩ := hw.ptr m _ _ _ hv
    obtain ⟨hor, hoids⟩ := hi1.own s _ _ _ _ hvs
    have hds' := adenL0_rep hi1 hds (fun q hq => by
      cases ho' : ((weakL A vs).v q).isOwn with
      | false => rfl
      | true => exact absurd hq (weakL_noown vs A q ho').2)
    have hden : ∀ (j : Nat) u d, (denL ρ vs)[j]? = some u → ds[j]? = some d → Rep w (Sf B F1 (fr && fd)) u d := fun j u d hu hd => by
      rw [denL_get] at hu
      cases hj : vs[j]? with
      | none => rw [hj] at hu; cases hu
      | some x => rw [hj] at hu; cases hu; exact (hds'.2 j x d hj hd).mono (Sf.mono (fun _ h => h) (by simp))
    have hx : ∀ b, F1 b → ownBlk (ρ.v s) ≠ some b := fun b hb => (hi1.out b hb).2.2 s (by rw [hvs]; rfl)
    obtain ⟨w', hrun, hfw, hor'⟩ := store_own (P := P) (F := Sf B F1 (fr && fd)) (hor.move (fun _ _ => rfl) (Sf.mono (fun _ h => h) (by simp; intro h _; exact h)) (fun _ _ => rfl)) (fun b hb => hx b hb.1) hrow (vs := denL ρ vs) (ds := ds) (by rw [denL_len, hds'.1]) hden (by rw [denL_len, ← hds'.1]; exact hoff) hsv
    have hids : ∀ j, j ∈ (ownBlk (ρ.v s)).toList → (j ∈ ([] : List Nat) ∨ w0.heap.size ≤ j) ∧ j ∉ ids ρ k' := fun j hj => by
      have hj' : ownBlk (ρ.v s) = some j := by simpa using hj
      exact ⟨.inr (by rw [hB]; exact (hor.lt hj').1), fun hx => hoids j hj' (by
        obtain ⟨q, hq, e⟩ := mem_ids.1 hx
        exact mem_ids.2 ⟨q, by omega, e⟩)⟩
    refine ⟨_, w', _, shift_ptr hmv, hrun, hfw, hids, iht k LA L _ ρ F1 w' o h hout hrt ?_ (hl.step ((Stp.weakL vs A).trans (Stp.updOwn (by rw [hvs]; rfl) _)))⟩
    -- the store's row is another one now
    have hkeepF : ∀ b, F1 b → w'.heap[b]? = w.heap[b]? := fun b hb => hfw.block b (hi1.out b hb).1 (fun hxx => hx b hb (by simpa using hxx))
    generalize hnew : (VD.own e sz (fr && fd) (rows.set i (row.take off ++ ds ++ row.drop (off + ds.length)))) = nd at *
    have hndo : nd.isOwn = true := by rw [← hnew]; rfl
    have hsw : ∀ q, q ≠ s → ((weakL A vs).updV s nd).v q = (weakL A vs).v q := fun q hq => updV_ne hq
    have hown' : ∀ q, (((weakL A vs).updV s nd).v q).isOwn = true → ((weakL A vs).v q).isOwn = true := fun q hq => by
      by_cases he : q = s
      · subst he; rw [hvs]; rfl
      · rw [hsw q he] at hq; exact hq
    refine ⟨hi1.ei, hi1.eb, fun q hq => ?_, fun b hb => ⟨Nat.lt_of_lt_of_le (hi1.out b hb).1 hfw.size, (hi1.out b hb).2.1, fun q hq => (hi1.out b hb).2.2 q (hown' q hq)⟩, fun q fr' rows' hq => ?_, fun q e' sz' fr' rows' hq => ?_, fun q s' i' sz' hq => ?_, fun q q' b h3 h4 h5 h6 => hi1.inj q q' b (hown' q h3) (hown' q' h4) h5 h6, hi1.idw, Nat.le_trans hi1.size hfw.size⟩
    · have hne : q ≠ s := by
        rintro rfl
        have := hi1.top q hq
        rw [hvs] at this
        cases this
      rw [hsw q hne]; exact hi1.top q hq
    · have hne : q ≠ s := by rintro rfl; rw [updV_eq] at hq; rw [hq] at hndo; cases hndo
      rw [hsw q hne] at hq
      exact (hi1.ro q _ _ hq).move (fun b hb => hkeepF b hb.1) (fun _ h => h)
    · by_cases he : q = s
      · subst he
        rw [updV_eq, ← hnew] at hq
        cases hq
        exact ⟨hor', hoids⟩
      · rw [hsw q he] at hq
        obtain ⟨h6, h7⟩ := hi1.own q _ _ _ _ hq
        refine ⟨h6.move (fun b hb => hkeepF b hb.1) (fun _ h => h) (fun b hb => hfw.block b (h6.lt hb).2 (fun hxx => he ?_)), h7⟩
        exact hi1.inj q s b (by rw [hq]; rfl) (by rw [hvs]; rfl) hb (by simpa using hxx)
    · have hne : q ≠ s := by rintro rfl; rw [updV_eq] at hq; rw [hq] at hndo; cases hndo
      rw [hsw q hne] at hq
      exact hi1.ptr q _ _ _ hq
  | loop fv ini n t iht =>
    intro k LA L A ρ F wl o h hout hrt hi hl
    simp only [Tree.eval] at h
    split at h
    case isFalse => cases h
    rename_i hc
    obtain ⟨hn, hfv⟩ := hc
    split at h
    case h_2 => cases h
    rename_i vs hcar
    obtain ⟨m0, hrun⟩ := loopE_some h
    have hlen : (LA.map LV.l).length = LA.length := by simp
    rw [hlen] at hrun
    generalize hsh : H fv k = sh at *
    subst hfv
    generalize hA1 : prepA A sh.fv sh.bs ini = A1 at *
    generalize hbody : (fun ds => bindLp A1.keep sh ds fun A => t.eval G K H os k (LA.map LV.l ++ [sh]) A) = body at *
    have hbd : ∀ ds x, body ds = some x → ∃ A', lpE A1.keep sh ds = some A' ∧ t.eval G K H os k (LA.map LV.l ++ [sh]) A' = some x := by
      intro ds x hx
      rw [← hbody] at hx
      simp only at hx
      rw [bindLp_eq] at hx
      cases hlp : lpE A1.keep sh ds with
      | none => rw [hlp] at hx; cases hx
      | some A' => rw [hlp] at hx; exact ⟨A', rfl, hx⟩
    have hnv1 : A1.nv = A.nv := by rw [← hA1]; exact prep_nv _ _ _ _
    have hkeep : ∀ q, A1.keep.v q = if (A1.v q).isOwn then .no else A1.v q := fun q => rfl
    have hnown : ∀ q, (A1.keep.v q).isOwn = false := fun q => by
      rw [hkeep]
      split
      · rfl
      · rename_i hq; simpa using hq
    have base : ∀ {w : World} {F1 : Nat → Prop}, InvF B k F1 ρ A1 w → (∀ m ∈ sh.owi, (A1.v m).isOwn = true) → BaseOK k A1.keep sh.owi ρ k ρ A1 := fun {w F1} hi1 how =>
      ⟨hi1.ei, hi1.eb, fun _ _ => rfl, fun q _ _ => by
        rw [hkeep]
        split
        · exact .inl rfl
        · exact .inr rfl, hnown, fun q hq => by rw [hkeep, hi1.top q hq]; rfl, Nat.le_refl _, fun _ _ => rfl, (fun q hq => by
        have := how q hq
        rcases Nat.lt_or_ge q A1.nv with h6 | h6
        · exact h6
        · rw [hi1.top q h6] at this; cases this), (fun q s i sz hq => by
        rw [hkeep] at hq
        split at hq
        · cases hq
        · exact (hi1.ptr q s i sz hq).1), Nat.le_refl _⟩
    obtain ⟨F1, hF1, hi1, hst, how, _⟩ := carry_ok hi hcar
    rw [hA1] at hi1 hst how
    have hl1 := hl.step hst
    have hbase := base hi1 how
    -- a head
    let I' : Nat → Env → World → Prop := fun m ρ' w => ∃ ds A' F', RunsN LA.length body m ds o ∧ lpE A1.keep sh ds = some A' ∧ InvF B k F' ρ' A' w ∧ (∀ q, q < A1.nv → q ∉ sh.owi → A'.v q = A1.keep.v q) ∧ (∀ q, q < A1.nv → ρ'.v q = ρ.v q) ∧ (∀ id, id < k → ρ'.k id = ρ.k id) ∧ A1.nv ≤ A'.nv
    refine ⟨I', fun w hfr0 hfr => ?_, allF_intro _ (fun ρ' m w hfr0 hI => ?_)⟩
    · have hw := hi.world hn hfr
      obtain ⟨F2, hF2, hi2, hst2, how2, hgo⟩ := carry_ok hw hcar
      rw [hA1] at hi2 hst2 how2 hgo
      have : ∃ A', lpE A1.keep sh vs = some A' := by
        cases hrun with
        | stop h1 _ => obtain ⟨A', h2, _⟩ := hbd _ _ h1; exact ⟨A', h2⟩
        | next h1 _ => obtain ⟨A', h2, _⟩ := hbd _ _ h1; exact ⟨A', h2⟩
      obtain ⟨A', hlp⟩ := this
      obtain ⟨h1, h2, h3, h4, h5⟩ := hgo (base hi2 how2) hlp
      exact ⟨m0, vs, A', F2, hrun, hlp, h1, h2, h3, fun id hid => by rw [h4], h5⟩
    · obtain ⟨ds, A', F', hr, hlp, hinv, hav, hrv, hid, hnv⟩ := hI
      -- the loops around it, at this head
      have hlks : ∀ (j : Nat) la l, LA[j]? = some la → L[j]? = some l → Lk B j la l k ρ' A' := fun j la l h1 h2 => by
        have hlk := hl1.2 j la l h1 h2
        have b := hlk.base
        refine ⟨hlk.fv, ⟨b.ei, b.eb, fun q hq => (hrv q (Nat.lt_of_lt_of_le hq b.nv)).trans (b.rv q hq), fun q hq hno => ?_, b.noown, b.top, b.kle, fun id hid' => (hid id (Nat.lt_of_lt_of_le hid' b.kle)).trans (b.ids id hid'), b.owlt, b.ptr, Nat.le_trans b.nv hnv⟩, hlk.bd, hlk.I⟩
        rcases b.av q hq hno with h3 | h3
        · exact .inl h3
        · have hnow : (A1.v q).isOwn = false := by rw [h3]; exact b.noown q
          have hno' : q ∉ sh.owi := fun hin => by rw [how q hin] at hnow; cases hnow
          right
          rw [hav q (Nat.lt_of_lt_of_le hq b.nv) hno', hkeep, hnow]
          simpa using h3
      have hnewk : Lk B LA.length ⟨sh, A1.keep, k, body, o⟩ ⟨I', sh.fv, ρ, m⟩ k ρ' A' :=
        ⟨rfl, ⟨hbase.ei, hbase.eb, fun q hq => hrv q hq, fun q hq hno => .inr (hav q hq hno), hnown, hbase.top, Nat.le_refl _, hid, hbase.owlt, hbase.ptr, hnv⟩, fun ds x hx => (hbd ds x hx).imp (fun _ h => h.1),
          fun m2 ds2 ρ2 w2 A2 F2 g1 g2 g3 g4 g5 g6 g7 => ⟨ds2, A2, F2, g1, g2, g3, g4, g5, g6, g7⟩⟩
      have hL2 : Lks B (LA ++ [⟨sh, A1.keep, k, body, o⟩]) (L ++ [⟨I', sh.fv, ρ, m⟩]) k ρ' A' := by
        refine ⟨by simp [hl.1], fun j la l h1 h2 => ?_⟩
        rcases Nat.lt_or_ge j LA.length with hj | hj
        · rw [List.getElem?_append_left hj] at h1
          rw [List.getElem?_append_left (by rw [← hl.1]; exact hj)] at h2
          exact hlks j la l h1 h2
        · have h3 := (List.getElem?_eq_some_iff.1 h1).1
          simp at h3
          have hje : j = LA.length := by omega
          subst hje
          rw [List.getElem?_append_right (Nat.le_refl _)] at h1
          rw [hl.1, List.getElem?_append_right (Nat.le_refl _)] at h2
          simp at h1 h2
          subst h1 h2
          exact hnewk
      have hkeepO : ∀ o' : Out, OutOK PostD LA L o' → (∀ vs, o' ≠ .cont LA.length vs) → OutOK PostD (LA ++ [⟨sh, A1.keep, k, body, o⟩]) (L ++ [⟨I', sh.fv, ρ, m⟩]) o' := fun o' ho hne => by
        cases o' with
        | ret ds => exact ho
        | cont j vs =>
          obtain ⟨la, lp, h1, h2, h3⟩ := ho
          have hj := (List.getElem?_eq_some_iff.1 h1).1
          exact ⟨la, lp, by rw [List.getElem?_append_left hj]; exact h1, by rw [List.getElem?_append_left (by rw [← hl.1]; exact hj)]; exact h2, h3⟩
      have hmap : (LA ++ [(⟨sh, A1.keep, k, body, o⟩ : LV)]).map LV.l = LA.map LV.l ++ [sh] := by simp
      cases hr with
      | stop h1 h2 =>
        obtain ⟨A2, h3, h4⟩ := hbd _ _ h1
        rw [hlp] at h3
        cases h3
        exact iht k _ _ A' ρ' F' w o (by rw [hmap]; exact h4) (hkeepO o hout h2) hrt hinv hL2
      | next h1 h2 =>
        rename_i vs' m'
        obtain ⟨A2, h3, h4⟩ := hbd _ _ h1
        rw [hlp] at h3
        cases h3
        refine iht k _ _ A' ρ' F' w _ (by rw [hmap]; exact h4) ?_ hrt hinv hL2
        exact ⟨⟨sh, A1.keep, k, body, o⟩, ⟨I', sh.fv, ρ, m' + 1⟩, by simp, by rw [hl.1]; simp, m', Nat.lt_succ_self _, h2⟩
  | cont lv n vals =>
    intro k LA L A ρ F wl o h hout hrt hi hl
    simp only [Tree.eval] at h
    split at h
    case isFalse => cases h
    rename_i hn
    split at h
    case h_2 => cases h
    rename_i l hll
    cases hcar : carry A l vals with
    | none => rw [hcar] at h; cases h
    | some vs =>
      rw [hcar] at h
      cases h
      obtain ⟨la, lp, h1, h2, m, hm, hrun⟩ := hout
      have hle : la.l = l := by
        rw [List.getElem?_map, h1] at hll
        simpa using hll
      subst hle
      have hlk := hl.2 lv la lp h1 h2
      simp only [Tree.holds, h2]
      intro w hfr0 hfr
      have hw := hi.world hn hfr
      obtain ⟨F2, hF2, hi2, hst2, how2, hgo⟩ := carry_ok hw hcar
      have : ∃ A', lpE la.lA la.l vs = some A' := by
        cases hrun with
        | stop h1 _ => exact hlk.bd _ _ h1
        | next h1 _ => exact hlk.bd _ _ h1
      obtain ⟨A', hlp⟩ := this
      obtain ⟨h3, h4, h5, h6, h7⟩ := hgo (hlk.base.step hst2) hlp
      rw [hlk.fv]
      exact ⟨m, hm, hlk.I m vs _ w A' F2 hrun hlp h3 h4 h5 (fun id _ => by rw [h6]) h7⟩
  | both t e iht ihe =>
    intro k LA L A ρ F wl o h hout hrt hi hl
    simp only [Tree.rets, Bool.and_eq_true] at hrt
    simp only [Tree.eval, agree] at h
    split at h
    · rename_i he
      exact ⟨iht k LA L A ρ F wl o h hout hrt.1 hi hl, ihe k LA L A ρ F wl o (by rw [← he]; exact h) hout hrt.2 hi hl⟩
    · cases h
end
end Rx

namespace Rx
open Go
def AE.zero : AE := ⟨fun _ => 0, fun _ => false, fun _ => .no, 0⟩
def Env.zero : Env := { i := fun _ => 0, b := fun _ => false, v := fun _ => .bool false, k := fun _ => 0, g := fun _ => .bool false, f := fun _ => default, vo := fun _ => rfl }
def outR : Out → Option (List Dat)
  | .ret rs => some rs
  | .cont _ _ => none
/-- A function's run over data. -/
noncomputable def fnOf (G : GT) (K : FuncId → Option Sg) (H : List Fv → Nat → LSh) (os : List Bn) (pats : List SV) (T : Tree) (ds : List Dat) : Option (List Dat) :=
  bindK AE.zero ((leavesL pats).map fun _ => .ro false) (leavesL pats) ds fun A => (T.eval G K H os 0 [] A).bind outR

section
variable {P : Program} {G : GT} {K : FuncId → Option Sg} {H : List Fv → Nat → LSh} {C : Ctx}

theorem start_inv (w : World) : InvF w.heap.size 0 (fun b => b < w.heap.size) Env.zero AE.zero w :=
  ⟨rfl, rfl, fun _ _ => rfl, fun b hb => ⟨hb, by simp [ids], (fun n hn => by cases hn)⟩, (fun n fr rows hv => by cases hv), (fun n e sz fr rows hv => by cases hv), (fun n s i sz hv => by cases hv), (fun n m b hn => by cases hn), (fun id hid => by omega), Nat.le_refl _⟩

/-- **What a function does to data, out of its tree.** -/
theorem fn_ok (hC : CtxOK P C) (hG : GOK P G) (hK : ∀ f s, K f = some s → FnOK P f s) {f : FuncId} {fn : Func} (hf : P.funcs[f]? = some fn) {n keep : Nat} {st : St} (hst : st.hp = [] ∧ st.pc = [] ∧ st.lv = 0 ∧ st.df = [] ∧ st.ri = []) {pats : List SV} (hnd : (fvOfL (leavesL pats)).Nodup) {T : Tree}
    (hT : runF C n keep fn st pats = T) {s : Sg} (hos : ∀ b ∈ s.os, b.ok = true) (hargs : pats.map SV.shp = s.args) (hres : T.rets s.res = true) (hfn : ∀ ds, s.fn ds = fnOf G K H s.os pats T ds) : FnOK P f s := by
  refine ⟨hos, fun w args us ds rs hus hlen hrep hrun => ?_⟩
  rw [hfn ds] at hrun
  unfold fnOf at hrun
  rw [bindK_eq] at hrun
  cases hb : bindE AE.zero ((leavesL pats).map fun _ => .ro false) (leavesL pats) ds with
  | none => rw [hb] at hrun; cases hrun
  | some A =>
    rw [hb] at hrun
    simp only [Option.bind_some] at hrun
    cases he : T.eval G K H s.os 0 [] A with
    | none => rw [he] at hrun; cases hrun
    | some o =>
      rw [he] at hrun
      simp only [Option.bind_some] at hrun
      cases o with
      | cont _ _ => cases hrun
      | ret rs' =>
        cases hrun
        obtain ⟨hl1, hl2, hb'⟩ := bindE_take hb
        have h0 := start_inv w
        have hl3 : us.length = (leavesL pats).length := by
          have h1 := hus
          rw [← hargs] at h1
          have key : ∀ (l : List SV) (vs : List Value) (us : List Value), shpsOf (l.map SV.shp) vs = some us → us.length = (leavesL l).length := by
            intro l
            induction l with
            | nil => intro vs us h; cases vs <;> simp [shpsOf] at h; subst h; rfl
            | cons x r ih =>
              intro vs us h
              cases vs with
              | nil => simp [shpsOf] at h
              | cons v vs =>
                simp only [List.map_cons, shpsOf] at h
                split at h
                · rename_i a b ha hb
                  cases h
                  have := Shp.of_len ha
                  simp only [leavesL, List.length_append, ih vs b hb, this]
                  cases x <;> rfl
                · cases h
          exact key _ _ _ h1
        obtain ⟨ρ, hbnd, hden⟩ := bindE_ok h0 hb' hnd (us := us) (LB.ro (fr := false) (by omega) (by rw [List.length_take]; omega) (fun j u d hu hd => by
          have hj := (List.getElem?_eq_some_iff.1 hd).1
          rw [List.length_take] at hj
          rw [List.getElem?_take, if_pos (by omega)] at hd
          exact (hrep j u d hu hd).mono (fun b hb => ⟨hb, fun h => by cases h⟩))) (fun b hb => by rw [ownsIn_ro] at hb; cases hb)
        have hh := eval_sound (w0 := w) (B := w.heap.size) (os := s.os) (v0 := s.res) (PostD := fun ds => ds = rs) (Post := fun v w' => Fr [] w w' ∧ ResOK w' w.heap.size s v rs) hG hK rfl
          (fun v ρ w' S ds h1 h2 h3 h4 h5 => by
            subst h2
            exact ⟨h5, _, by rw [← h1]; exact rshp_den ρ v, S, h3, h4⟩)
          T 0 [] [] A ρ _ w (.ret rs) he rfl hres hbnd.inv ⟨rfl, fun j la l h1 => by simp at h1⟩
        rw [← hT] at hh
        have hargs' : denL ρ pats = args := by
          have h1 := shps_den ρ pats
          rw [hden, hargs] at h1
          exact shpsOf_inj h1 hus
        obtain ⟨e1, e2, e3, e4, e5⟩ := hst
        have := run_sound hC hf hh ⟨fun id blk h => by rw [e1] at h; simp at h, fun i j hi => by rw [e1] at hi; simp at hi⟩ (fun id hid => by rw [e1] at hid; simp at hid) (fun x hx => by rw [e2] at hx; cases hx) e3 e4 e5
        rw [hargs'] at this
        refine this.mono (fun e w' he => ?_)
        obtain ⟨v, rfl, hfr, h1⟩ := he
        exact ⟨v, rfl, hfr, h1⟩
end
end Rx

namespace Rx
open Go
/-- Functions by number. -/
def Kof : List (FuncId × Sg) → FuncId → Option Sg
  | [], _ => none
  | p :: r, f => if p.1 = f then some p.2 else Kof r f
def Sof : List (FuncId × SV) → FuncId → Option SV
  | [], _ => none
  | p :: r, f => if p.1 = f then some p.2 else Sof r f
/-- Loops' shapes, by the loop's variables and the number of blocks ahead of it. -/
def Hof : List (Nat × LSh) → List Fv → Nat → LSh
  | [], _, _ => ⟨[], [], []⟩
  | p :: r, fv, k => if p.1 = k ∧ p.2.fv = fv then p.2 else Hof r fv k
def Lof : List (List Nat × List (Nat × Nat)) → List Nat → List (Nat × Nat)
  | [], _ => []
  | p :: r, ms => if p.1 = ms then p.2 else Lof r ms
def Uof (l : List (List Nat)) (ms : List Nat) : Bool := l.contains ms
def mkC (P : Program) (eqt : TypeId → Bool) (sigs : List (FuncId × SV)) (lp : List (List Nat × List (Nat × Nat))) (un : List (List Nat)) : Ctx :=
  { T := tiOf P, eqT := eqt, F := fun f => P.funcs[f]?, sig := Sof sigs, lp := Lof lp, un := Uof un }
/-- What is asked of a program. -/
structure ProgOK (P : Program) (eqt : TypeId → Bool) (G : GT) : Prop where
  M : P.follows .mixedOrders = true
  F : ∀ (f : FuncId) (fn : Func), P.funcs[f]? = some fn → (fn.name == "runtime.NumGoroutine") = false
  E : ∀ t, eqt t = true → EqOK P t
  G : GOK P G
section
variable {P : Program} {eqt : TypeId → Bool} {G : GT}
theorem ctx_ok (h : ProgOK P eqt G) {sigs : List (FuncId × SV)} (hs : (sigs.all fun p => match P.funcs[p.1]? with | some fn => fn.body.isSome | none => false) = true) (lp : List (List Nat × List (Nat × Nat))) (un : List (List Nat)) : CtxOK P (mkC P eqt sigs lp un) := by
  refine ⟨fun t ti h => h, h.E, fun f fn hf => ⟨hf, h.F f fn hf⟩, h.M, fun f fn t hf hsig => ?_⟩
  have hsig' : Sof sigs f = some t := hsig
  have hf' : P.funcs[f]? = some fn := hf
  clear hsig hf
  induction sigs with
  | nil => cases hsig'
  | cons p r ih =>
    simp only [List.all_cons, Bool.and_eq_true] at hs
    simp only [Sof] at hsig'
    split at hsig'
    · rename_i he
      subst he
      rw [hf'] at hs
      exact Option.isSome_iff_exists.1 hs.1
    · exact ih hs.2 hsig'
theorem kof_nil : ∀ f s, Kof [] f = some s → FnOK P f s := fun _ _ h => by cases h
theorem kof_cons {f : FuncId} {s : Sg} {l : List (FuncId × Sg)} (h : FnOK P f s) (hl : ∀ f s, Kof l f = some s → FnOK P f s) : ∀ f' s', Kof ((f, s) :: l) f' = some s' → FnOK P f' s' := by
  intro f' s' hk
  simp only [Kof] at hk
  split at hk
  · rename_i he
    cases hk
    subst he
    exact h
  · exact hl f' s' hk
/-- A function of a program, by what the kernel reckons. -/
theorem fn_of (h : ProgOK P eqt G) {f : FuncId} {fn : Func} (hf : P.funcs[f]? = some fn) {sigs : List (FuncId × SV)} {K : List (FuncId × Sg)} {H : List (Nat × LSh)} {lp : List (List Nat × List (Nat × Nat))} {un : List (List Nat)}
    (hs : (sigs.all fun p => match P.funcs[p.1]? with | some fn => fn.body.isSome | none => false) = true) (hK : ∀ f s, Kof K f = some s → FnOK P f s) {pats : List SV} (ni nb nv : Nat) (hnd : (fvOfL (leavesL pats)).Nodup) {T : Tree}
    (hT : runF (mkC P eqt sigs lp un) 400 1000 fn { hp := [], ni := ni, nb := nb, nv := nv, ng := 0, lv := 0, pc := [], log := [], stack := [] } pats = T) {s : Sg} (hos : (s.os.all Bn.ok) = true) (hargs : pats.map SV.shp = s.args) (hres : T.rets s.res = true) (hfn : ∀ ds, s.fn ds = fnOf G (Kof K) (Hof H) s.os pats T ds) : FnOK P f s :=
  fn_ok (ctx_ok h hs lp un) h.G hK hf ⟨rfl, rfl, rfl, rfl, rfl⟩ hnd hT (fun b hb => List.all_eq_true.1 hos b hb) hargs hres hfn
end
end Rx

namespace Rx
open Go
/-! ### what is asked of a program, reckoned -/
def eqokB (P : Program) (t : TypeId) : Bool :=
  match P.underlying t with
  | some (.struct fs) => (List.range fs.size).all (fun j => match fs[j]? with
      | some f => f.name != "_" && f.offset == j && (match P.underlying f.type with | some (.int _) => true | _ => false)
      | none => true) && !(P.eqGuardType P.depth t) && !(P.stoodInHeld t)
  | _ => false
theorem eqok_of {P : Program} {t : TypeId} (h : eqokB P t = true) : EqOK P t := by
  unfold eqokB at h
  split at h
  · rename_i fs hu
    simp only [Bool.and_eq_true, Bool.not_eq_true'] at h
    obtain ⟨⟨h1, h2⟩, h3⟩ := h
    refine ⟨⟨fs, hu, fun j f hf => ?_⟩, h2, h3⟩
    have hj := (Array.getElem?_eq_some_iff.1 hf).1
    have := List.all_eq_true.1 h1 j (List.mem_range.2 hj)
    rw [hf] at this
    simp only [Bool.and_eq_true, bne_iff_ne, beq_iff_eq] at this
    obtain ⟨⟨h4, h5⟩, h6⟩ := this
    refine ⟨h4, h5, ?_⟩
    split at h6
    · rename_i k hk; exact ⟨k, hk⟩
    · cases h6
  · cases h
def cellsB : List Value → List Dat → Bool
  | [], [] => true
  | .int k n :: r, .int k' n' :: s => decide (k = k') && decide (n = n') && cellsB r s
  | .bool b :: r, .bool b' :: s => b == b' && cellsB r s
  | .slice none 0 0 :: r, .sl [] :: s => cellsB r s
  | _, _ => false
theorem cellsB_rep : ∀ {us : List Value} {ds : List Dat}, cellsB us ds = true → us.length = ds.length ∧ ∀ (j : Nat) u d, us[j]? = some u → ds[j]? = some d → ∀ w S, Rep w S u d := by
  intro us
  induction us with
  | nil =>
    intro ds h
    cases ds with
    | nil => exact ⟨rfl, fun j u d h => by simp at h⟩
    | cons _ _ => simp [cellsB] at h
  | cons x r ih =>
    intro ds h
    cases ds with
    | nil => cases x <;> simp [cellsB] at h
    | cons y s =>
      unfold cellsB at h
      have go : cellsB r s = true → (∀ w S, Rep w S x y) → (x :: r).length = (y :: s).length ∧ ∀ (j : Nat) u d, (x :: r)[j]? = some u → (y :: s)[j]? = some d → ∀ w S, Rep w S u d := by
        intro h1 h2
        obtain ⟨h3, h4⟩ := ih h1
        refine ⟨by simp [h3], fun j u d hu hd => ?_⟩
        cases j with
        | zero => simp at hu hd; subst hu hd; exact h2
        | succ j => exact h4 j u d (by simpa using hu) (by simpa using hd)
      split at h
      · rename_i h1 h2; cases h1
      · rename_i k n r' k' n' s' h1 h2
        cases h1; cases h2
        simp only [Bool.and_eq_true, decide_eq_true_eq] at h
        obtain ⟨⟨rfl, rfl⟩, h⟩ := h
        exact go h (fun w S => .int _ _)
      · rename_i b r' b' s' h1 h2
        cases h1; cases h2
        simp only [Bool.and_eq_true, beq_iff_eq] at h
        obtain ⟨rfl, h⟩ := h
        exact go h (fun w S => .bool _)
      · rename_i r' s' h1 h2
        cases h1; cases h2
        exact go h (fun w S => .nil)
      · cases h
abbrev GL := List (TypeId × TypeId × Nat × List Dat)
def Gof : GL → GT
  | [], _ => none
  | p :: r, t => if p.1 = t then some p.2 else Gof r t
def gokB (P : Program) (p : TypeId × TypeId × Nat × List Dat) : Bool :=
  match P.underlying p.1, P.info? p.2.1 with
  | some (.slice e), some i => match i.zero with
    | some zv => decide (e = p.2.1) && decide (i.size = p.2.2.1) && decide (0 < p.2.2.1) && decide (i.bytes ≤ 1000000) && decide (zv.cells.size = p.2.2.1) && cellsB zv.cells.toList p.2.2.2
    | none => false
  | _, _ => false
theorem gok_of {P : Program} {l : GL} (h : (l.all (gokB P)) = true) : GOK P (Gof l) := by
  refine ⟨fun t e sz z hg => ?_⟩
  induction l with
  | nil => cases hg
  | cons p r ih =>
    simp only [List.all_cons, Bool.and_eq_true] at h
    simp only [Gof] at hg
    split at hg
    · rename_i he
      subst he
      have h1 := h.1
      have hg' := Option.some.inj hg
      unfold gokB at h1
      rw [hg'] at h1
      split at h1
      · rename_i e' i hu hi
        split at h1
        · rename_i zv hz
          simp only [Bool.and_eq_true, decide_eq_true_eq] at h1
          obtain ⟨⟨⟨⟨⟨rfl, h3⟩, h4⟩, h5⟩, h6⟩, h7⟩ := h1
          obtain ⟨h8, h9⟩ := cellsB_rep h7
          refine ⟨i, zv, hu, hi, hz, h3, h4, h5, h6, ?_, fun j u d hu hd w S => h9 j u d (by simpa using hu) hd w S⟩
          rw [← h8]; simpa using h6
        · cases h1
      · cases h1
    · exact ih h.2 hg
def progB (P : Program) (eqts : List TypeId) (l : GL) : Bool :=
  P.follows .mixedOrders && P.funcs.toList.all (fun fn => !(fn.name == "runtime.NumGoroutine")) && eqts.all (eqokB P) && l.all (gokB P)
theorem progOK_of {P : Program} {eqts : List TypeId} {l : GL} (h : progB P eqts l = true) : ProgOK P (fun t => eqts.contains t) (Gof l) := by
  unfold progB at h
  simp only [Bool.and_eq_true] at h
  obtain ⟨⟨⟨h1, h2⟩, h3⟩, h4⟩ := h
  refine ⟨h1, fun f fn hf => ?_, fun t ht => ?_, gok_of h4⟩
  · have := List.all_eq_true.1 h2 fn (by simpa using Array.mem_of_getElem? hf)
    simpa using this
  · exact eqok_of (List.all_eq_true.1 h3 t (by simpa using ht))
end Rx

namespace Rx
open Go Go.ChangeShapes Go.WideShapes Go.ChangeAt Go.RowKit
/-! ### a law's row, out of what it does to data -/
/-- Types of cells. -/
inductive CT where
  | int (k : IntKind)
  | bool
  | sl (l : List CT)
mutual
/-- A datum is of a type. -/
def OKD : CT → Dat → Prop
  | .int k, .int k' n => k' = k ∧ (Lit.int k n).wf = true
  | .bool, .bool _ => True
  | .sl l, .sl rows => rows.length ≤ maxLen ∧ ∀ row ∈ rows, OKDs l row
  | _, _ => False
def OKDs : List CT → List Dat → Prop
  | [], [] => True
  | c :: r, d :: s => OKD c d ∧ OKDs r s
  | _, _ => False
end
theorem OKDs.len : ∀ {l : List CT} {ds : List Dat}, OKDs l ds → ds.length = l.length
  | [], [], _ => rfl
  | _ :: r, _ :: s, h => by simp only [OKDs] at h; simp [OKDs.len h.2]
  | [], _ :: _, h => by simp [OKDs] at h
  | _ :: _, [], h => by simp [OKDs] at h
theorem OKDs.app : ∀ {l l' : List CT} {ds ds' : List Dat}, OKDs l ds → OKDs l' ds' → OKDs (l ++ l') (ds ++ ds')
  | [], _, [], _, _, h' => h'
  | _ :: r, _, _ :: s, _, h, h' => by simp only [OKDs] at h; exact ⟨h.1, OKDs.app h.2 h'⟩
  | [], _, _ :: _, _, h, _ => by simp [OKDs] at h
  | _ :: _, _, [], _, h, _ => by simp [OKDs] at h

def ctFields (P : Program) (ct : TypeId → Option (List CT)) : List Field → Nat → Option (List CT)
  | [], _ => some []
  | f :: r, off => match ct f.type with
    | some l => if f.offset = off ∧ l.length = P.cellsOf f.type then (ctFields P ct r (off + l.length)).map fun s => l ++ s else none
    | none => none
def ctOf (P : Program) : Nat → TypeId → Option (List CT)
  | 0, _ => none
  | m + 1, t =>
    match P.underlying t with
    | some (.int k) => some [.int k]
    | some .bool => some [.bool]
    | some (.slice e) => match ctOf P m e with
      | some l => if l.length = P.cellsOf e ∧ 0 < l.length then some [.sl l] else none
      | none => none
    | some (.struct fs) => match ctFields P (ctOf P m) fs.toList 0 with
      | some l => if l.length = P.cellsOf t then some l else none
      | none => none
    | _ => none
def shpT (P : Program) (t : TypeId) : Shp :=
  match P.underlying t with
  | some (.struct _) => .agg (P.cellsOf t)
  | _ => .leaf
def ctL (P : Program) (m : Nat) : List TypeId → Option (List CT)
  | [] => some []
  | t :: r => match ctOf P m t, ctL P m r with
    | some a, some b => some (a ++ b)
    | _, _ => none

structure LRep (w : World) (us : List Value) (ds : List Dat) : Prop where
  len : us.length = ds.length
  rep : ∀ (j : Nat) u d, us[j]? = some u → ds[j]? = some d → Rep w (fun b => b < w.heap.size) u d
theorem LRep.app {w : World} {us us' : List Value} {ds ds' : List Dat} (h : LRep w us ds) (h' : LRep w us' ds') : LRep w (us ++ us') (ds ++ ds') := by
  refine ⟨by simp [h.len, h'.len], fun j u d hu hd => ?_⟩
  rcases Nat.lt_or_ge j us.length with hj | hj
  · rw [List.getElem?_append_left hj] at hu
    rw [List.getElem?_append_left (by rw [← h.len]; exact hj)] at hd
    exact h.rep j u d hu hd
  · rw [List.getElem?_append_right hj] at hu
    rw [List.getElem?_append_right (by rw [← h.len]; exact hj), ← h.len] at hd
    exact h'.rep _ u d hu hd
theorem LRep.one {w : World} {u : Value} {d : Dat} (h : Rep w (fun b => b < w.heap.size) u d) : LRep w [u] [d] := by
  refine ⟨rfl, fun j u' d' hu hd => ?_⟩
  cases j with
  | zero => simp at hu hd; subst hu hd; exact h
  | succ j => simp at hu

section
variable {P : Program} {w : World} {H : Type} {enc : TypeId × Value → H} {spare : Nat → Bool} {held : Bool}

theorem mapM_range_get {β : Type} {f : Nat → Option β} {n : Nat} {l : List β} (h : (List.range n).mapM f = some l) : l.length = n ∧ ∀ i, i < n → f i = l[i]? := by
  have hl := mapM_len h
  rw [List.length_range] at hl
  refine ⟨hl, fun i hi => ?_⟩
  induction n generalizing l with
  | zero => omega
  | succ n ih =>
    rw [List.range_succ, List.mapM_append] at h
    cases h1 : (List.range n).mapM f with
    | none => rw [h1] at h; cases h
    | some l1 =>
      rw [h1] at h
      cases h2 : f n with
      | none => simp [h2] at h
      | some x =>
        simp [h2] at h
        subst h
        have hl1 := mapM_len h1
        rw [List.length_range] at hl1
        rcases Nat.lt_or_ge i n with hin | hin
        · rw [List.getElem?_append_left (by omega)]
          exact ih h1 hl1 hin
        · have : i = n := by omega
          subst this
          rw [h2, List.getElem?_append_right (by omega), hl1]
          simp

theorem lookup_field {ct : TypeId → Option (List CT)} : ∀ {fs : List Field} {off : Nat} {l : List CT}, ctFields P ct fs off = some l → ∀ (w : World) (cs : List Value), off + l.length ≤ cs.length →
    (∀ (i : Nat) (f : Field), fs[i]? = some f → ∀ l', ct f.type = some l' → ∃ ds, OKDs l' ds ∧ LRep w ((cs.drop f.offset).take (P.cellsOf f.type)) ds) → ∃ ds, OKDs l ds ∧ LRep w ((cs.drop off).take l.length) ds
  | [], off, l, h, w, cs, _, _ => by
    simp only [ctFields, Option.some.injEq] at h
    subst h
    exact ⟨[], trivial, ⟨by simp, fun j u d hu => by simp at hu⟩⟩
  | f :: r, off, l, h, w, cs, hle, hf => by
    simp only [ctFields] at h
    cases hc : ct f.type with
    | none => rw [hc] at h; cases h
    | some l1 =>
      rw [hc] at h
      simp only at h
      split at h
      · rename_i hcond
        obtain ⟨ho, hl⟩ := hcond
        cases hr : ctFields P ct r (off + l1.length) with
        | none => rw [hr] at h; cases h
        | some l2 =>
          rw [hr] at h
          cases h
          simp only [List.length_append] at hle
          obtain ⟨ds1, h1, h2⟩ := hf 0 f rfl l1 hc
          obtain ⟨ds2, h3, h4⟩ := lookup_field hr w cs (by omega) (fun i f' hi => hf (i + 1) f' (by simpa using hi))
          refine ⟨ds1 ++ ds2, h1.app h3, ?_⟩
          have e : (cs.drop off).take (l1 ++ l2).length = (cs.drop f.offset).take (P.cellsOf f.type) ++ (cs.drop (off + l1.length)).take l2.length := by
            rw [ho, ← hl, List.length_append, List.take_add, List.drop_drop]
          rw [e]
          exact h2.app h4
      · cases h

theorem trod_rep : ∀ (fuel : Nat) (t : TypeId) (cs : List Value) (x : DataW H × List MemPlace) (m : Nat) (cts : List CT), DataW.trod enc P w 0 spare held fuel t cs = some x → ctOf P m t = some cts →
    cs.length = cts.length ∧ ∃ ds, OKDs cts ds ∧ LRep w cs ds := by
  intro fuel
  induction fuel with
  | zero => intro t cs x m cts h; simp [DataW.trod] at h
  | succ fuel ih =>
    intro t cs x m cts h hc
    cases m with
    | zero => simp [ctOf] at hc
    | succ m =>
      simp only [ctOf] at hc
      split at hc
      · rename_i k hu
        cases hc
        obtain ⟨n, rfl, _, hw⟩ := DataW.trod_int hu h
        exact ⟨rfl, [.int k n], ⟨⟨rfl, hw⟩, trivial⟩, .one (.int _ _)⟩
      · rename_i hu
        cases hc
        obtain ⟨b, rfl, _⟩ := DataW.trod_bool hu h
        exact ⟨rfl, [.bool b], ⟨trivial, trivial⟩, .one (.bool _)⟩
      · rename_i e hu
        cases hce : ctOf P m e with
        | none => rw [hce] at hc; cases hc
        | some l =>
          rw [hce] at hc
          simp only at hc
          split at hc
          case isFalse => cases hc
          rename_i hlen
          obtain ⟨hl, hpos⟩ := hlen
          cases hc
          rcases DataW.trod_slice hu h with ⟨rfl, _⟩ | ⟨a, len, cap, elems, rest, n, hn, rfl, _, _, hcap, hmax, hel, hget, _⟩
          · exact ⟨rfl, [.sl []], ⟨⟨by simp, by simp⟩, trivial⟩, .one .nil⟩
          · cases hn
            -- each row
            have hrow : ∀ i, ∃ p : List Value × List Dat, i < len → p.1.length = l.length ∧ OKDs l p.2 ∧ LRep w p.1 p.2 ∧ ∀ j, j < l.length → w.cell? (a.add (i * l.length + j)) = p.1[j]? := by
              intro i
              by_cases hi : i < len
              · have h1 := hget i hi
                rw [List.getElem?_eq_getElem (by omega)] at h1
                cases hcell : w.cells? 0 (a.add (i * P.cellsOf e)) (P.cellsOf e) with
                | none => rw [hcell] at h1; cases h1
                | some us =>
                  rw [hcell] at h1
                  simp only [Option.bind_some] at h1
                  obtain ⟨h2, ds, h3, h4⟩ := ih e us _ m l h1 hce
                  unfold World.cells? at hcell
                  rw [if_pos (Nat.zero_le _)] at hcell
                  obtain ⟨h5, h6⟩ := mapM_range_get hcell
                  refine ⟨(us, ds), fun _ => ⟨h2, h3, h4, fun j hj => ?_⟩⟩
                  rw [← h6 j (by omega), addr_add_add, hl]
              · exact ⟨([], []), fun h => absurd h hi⟩
            obtain ⟨g, hg⟩ := Classical.axiomOfChoice hrow
            refine ⟨rfl, [.sl ((List.range len).map fun i => (g i).2)], ⟨⟨by simp; omega, fun row hr => ?_⟩, trivial⟩, .one ?_⟩
            · obtain ⟨i, hi, rfl⟩ := List.mem_map.1 hr
              exact (hg i (List.mem_range.1 hi)).2.1
            · have hget2 : ∀ (i : Nat) (row : List Dat), ((List.range len).map fun i => (g i).2)[i]? = some row → i < len ∧ row = (g i).2 := by
                intro i row h
                have hi := (List.getElem?_eq_some_iff.1 h).1
                simp at hi
                simp [hi] at h
                exact ⟨hi, h.symm⟩
              have r := Rep.sl (w := w) (S := fun b => b < w.heap.size) a cap ((List.range len).map fun i => (g i).2) l.length (fun i j => ((g i).1[j]?).getD default) (by simp; omega)
                (fun hne => by
                  have h0 : 0 < len := by
                    rcases Nat.eq_zero_or_pos len with h0 | h0
                    · subst h0; simp at hne
                    · exact h0
                  have h1 := (hg 0 h0).2.2.2 0 hpos
                  rw [List.getElem?_eq_getElem (by rw [(hg 0 h0).1]; exact hpos)] at h1
                  have h2 : w.heap[(a.add (0 * l.length + 0)).block]? ≠ none := by
                    intro hn
                    simp only [World.cell?, hn] at h1
                    cases h1
                  rw [add_block] at h2
                  rcases Nat.lt_or_ge a.block w.heap.size with h3 | h3
                  · exact h3
                  · exact absurd (Array.getElem?_eq_none h3) h2)
                (fun i row h => by
                  obtain ⟨hi, rfl⟩ := hget2 i row h
                  exact (hg i hi).2.1.len)
                (fun i row j d h1 h2 => by
                  obtain ⟨hi, rfl⟩ := hget2 i row h1
                  have hj := (List.getElem?_eq_some_iff.1 h2).1
                  rw [(hg i hi).2.1.len] at hj
                  rw [(hg i hi).2.2.2 j hj, List.getElem?_eq_getElem (by rw [(hg i hi).1]; exact hj)]
                  rfl)
                (fun i row j d h1 h2 => by
                  obtain ⟨hi, rfl⟩ := hget2 i row h1
                  have hj := (List.getElem?_eq_some_iff.1 h2).1
                  rw [(hg i hi).2.1.len] at hj
                  rw [List.getElem?_eq_getElem (by rw [(hg i hi).1]; exact hj)]
                  exact (hg i hi).2.2.1.rep j _ d (List.getElem?_eq_getElem (by rw [(hg i hi).1]; exact hj)) h2)
              rw [List.length_map, List.length_range] at r
              exact r
      · rename_i fs hu
        cases hcf : ctFields P (ctOf P m) fs.toList 0 with
        | none => rw [hcf] at hc; cases hc
        | some l =>
          rw [hcf] at hc
          simp only at hc
          split at hc
          case isFalse => cases hc
          rename_i hl
          cases hc
          obtain ⟨xs, n, hn, _, hcl, hxl, hget⟩ := DataW.trod_struct hu h
          cases hn
          refine ⟨by rw [hcl, hl], ?_⟩
          obtain ⟨ds, h1, h2⟩ := lookup_field hcf w cs (by omega) (fun i f hf l' hl' => by
            have hf' : fs[i]? = some f := by simpa using hf
            have h3 := hget i f hf'
            have hi := (Array.getElem?_eq_some_iff.1 hf').1
            rw [List.getElem?_eq_getElem (by omega)] at h3
            exact (ih _ _ _ m l' h3 hl').2)
          refine ⟨ds, h1, ?_⟩
          have : (cs.drop 0).take cts.length = cs := by rw [List.drop_zero, hl, ← hcl, List.take_length]
          rw [this] at h2
          exact h2
      · cases hc

theorem cells_shp {t : TypeId} {v : Value} {base : Nat} {r : Reach} (hok : Value.okWide P w r base t v) {m : Nat} {cts : List CT} (hc : ctOf P m t = some cts) : (shpT P t).of v = some v.cells.toList := by
  unfold shpT
  cases m with
  | zero => simp [ctOf] at hc
  | succ m =>
    simp only [ctOf] at hc
    split at hc
    · rename_i k hu
      obtain ⟨n, rfl⟩ := okWide_int hu hok
      rw [hu]; simp [Shp.of, Value.cells]
    · rename_i hu
      obtain ⟨n, rfl⟩ := okWide_bool hu hok
      rw [hu]; simp [Shp.of, Value.cells]
    · rename_i e hu
      obtain ⟨a, l, c, rfl⟩ := okWide_slice hu hok
      rw [hu]; simp [Shp.of, Value.cells]
    · rename_i fs hu
      unfold Value.okWide at hok
      rw [hu] at hok ⊢
      obtain ⟨cs, rfl, hsz, _⟩ := hok
      simp only [Shp.of, hsz, if_true, Value.cells]
    · cases hc

theorem args_rep {m : Nat} {base : Nat} {r : Reach} : ∀ {ts : List TypeId} {vs : List Value} {ds : List (DataW H)} {ps : List MemPlace} {cts : List CT}, DataW.TrodAll enc P w 0 spare held ts vs ds ps → ctL P m ts = some cts →
    (∀ (j : Nat) t v, ts[j]? = some t → vs[j]? = some v → Value.okWide P w r base t v) → ∃ us dd, shpsOf (ts.map (shpT P)) vs = some us ∧ OKDs cts dd ∧ LRep w us dd
  | [], [], [], ps, cts, _, hc, _ => by
    simp only [ctL, Option.some.injEq] at hc
    subst hc
    exact ⟨[], [], rfl, trivial, ⟨rfl, fun j u d h => by simp at h⟩⟩
  | t :: ts, v :: vs, d :: ds, ps, cts, h, hc, hok => by
    obtain ⟨p, q, ⟨fuel, hf⟩, hr, _⟩ := h
    simp only [ctL] at hc
    split at hc
    · rename_i a b ha hb
      cases hc
      obtain ⟨us, dd, h1, h2, h3⟩ := args_rep hr hb (fun j t' v' h4 h5 => hok (j + 1) t' v' (by simpa using h4) (by simpa using h5))
      obtain ⟨h4, d0, h5, h6⟩ := trod_rep fuel t _ _ m a hf ha
      refine ⟨v.cells.toList ++ us, d0 ++ dd, ?_, h5.app h2, h6.app h3⟩
      simp only [List.map_cons, shpsOf, cells_shp (hok 0 t v rfl rfl) ha, h1]
    · cases hc
  | [], _ :: _, _, _, _, h, _, _ => by cases h
  | [], [], _ :: _, _, _, h, _, _ => by cases h
  | _ :: _, [], _, _, _, h, _, _ => by cases h
  | _ :: _, _ :: _, [], _, _, h, _, _ => by cases h

theorem trodAll_below (hl : laidOutB P = true) {W W' : World} (hb : Below W.heap.size W W') : ∀ {ts : List TypeId} {vs : List Value} {ds : List (DataW H)} {ps : List MemPlace}, (ts.all fun t => P.readableRec t && decide (t < P.types.size)) = true → DataW.TrodAll enc P W 0 (fun _ => true) true ts vs ds ps →
    DataW.TrodAll enc P W' 0 (fun b => decide (b < W.heap.size)) true ts vs ds ps
  | [], [], [], ps, _, h => h
  | t :: ts, v :: vs, d :: ds, ps, hr, h => by
    simp only [List.all_cons, Bool.and_eq_true, decide_eq_true_eq] at hr
    obtain ⟨p, q, h1, h2, rfl⟩ := h
    have hlt : ∀ x ∈ p, x.block < W.heap.size := by
      obtain ⟨m, hm⟩ := h1
      exact DataW.trod_lt m _ _ _ hm
    exact ⟨p, q, Below.trod hl hr.1.1 hr.1.2 h1 hb hlt, trodAll_below hl hb hr.2 h2, rfl⟩
  | [], _ :: _, _, _, _, h => by cases h
  | [], [], _ :: _, _, _, h => by cases h
  | _ :: _, [], _, _, _, h => by cases h
  | _ :: _, _ :: _, [], _, _, h => by cases h
end

/-- **A law's contract, out of what it does to data.** -/
theorem law_calls {P : Program} (hl : laidOutB P = true) {f : FuncId} {fn : Func} {s : Sg} (hs : FnOK P f s) {spec : ChangeSpec} {H : Type} {enc : TypeId × Value → H} (hv : spec.vars = []) {tb : TypeId} (hrt : fn.resultTypes.toList = [tb]) (htb : P.underlying tb = some .bool)
    {cts : List CT} (hct : ctL P 30 fn.params.toList = some cts) (hsh : fn.params.toList.map (shpT P) = s.args) (hres : s.res = .one .leaf) (hread : (fn.params.toList.all fun t => P.readableRec t && decide (t < P.types.size)) = true)
    (hspec : ∀ ds : List (DataW H), ds.length = fn.params.toList.length → (spec.fn H (ds ++ [])).results = [.lit (.bool true)] ∧ (spec.fn H (ds ++ [])).args = ds ∧ (spec.fn H (ds ++ [])).vars = [])
    (hlaw : ∀ ds, OKDs cts ds → s.fn ds = some [.bool true])
    (W : World) (base : Nat) (args : Array Value) (ds gs : List (DataW H)) (before : List MemPlace)
    (hval : ∀ (j : Nat) t v, fn.params[j]? = some t → args[j]? = some v → Value.okWide P W .any base t v)
    (hW : DataW.Whole enc P fn.params.toList spec.vars false W args.toList ds gs before) :
    Calls P f args W fun e W' => ∃ v, e = .returned v ∧ spec.post enc P fn false true false false W args v W' := by
  have hW' := hW
  obtain ⟨p, q, hA, hV, rfl, hfz, hnd⟩ := hW
  rw [hv] at hV
  obtain ⟨rfl, rfl⟩ := trodVars_none hV
  obtain ⟨us, dd, h1, h2, h3⟩ := args_rep (m := 30) hA hct (fun j t v ht hv => hval j t v (by simpa using ht) (by simpa using hv))
  rw [hsh] at h1
  have hlen : ds.length = fn.params.toList.length := by
    have : ∀ {ts : List TypeId} {vs : List Value} {ds : List (DataW H)} {ps : List MemPlace}, DataW.TrodAll enc P W 0 (fun _ => true) true ts vs ds ps → ds.length = ts.length := by
      intro ts
      induction ts with
      | nil => intro vs ds ps h; cases vs <;> cases ds <;> first | rfl | cases h
      | cons t ts ih =>
        intro vs ds ps h
        cases vs with
        | nil => cases h
        | cons v vs =>
          cases ds with
          | nil => cases h
          | cons d ds =>
            obtain ⟨p, q, _, h2, _⟩ := h
            simp [ih h2]
    exact this hA
  obtain ⟨e1, e2, e3⟩ := hspec ds hlen
  refine (hs.2 W args.toList us dd [.bool true] h1 h3.len h3.rep (hlaw dd h2)).mono (fun e W' he => ?_)
  obtain ⟨v, rfl, hfr, us', hu, S, hS, hleaf⟩ := he
  rw [hres] at hu
  simp only [RS.of, Shp.of, Option.some.injEq] at hu
  subst hu
  have hvb : v = .bool true := by
    cases hos : s.os with
    | nil => rw [hos] at hleaf; exact hleaf.elim
    | cons b bs =>
      rw [hos] at hleaf
      cases b with
      | no => have := hleaf.1; cases this; rfl
      | ro _ => have := hleaf.1; cases this; rfl
      | own _ _ _ => obtain ⟨⟨rows, hh, _⟩, _⟩ := hleaf; cases hh
  subst hvb
  have hb : Below W.heap.size W W' := ⟨hfr.os, hfr.tape, hfr.output, hfr.size, fun k hk => hfr.block k hk (fun h => by cases h)⟩
  refine ⟨_, rfl, ds, [], _, [], p, [], hW', ?_, ?_, ?_, hb.frame _, fun h => by cases h⟩
  · have hsz : fn.resultTypes.size = 1 := by rw [← Array.length_toList, hrt]; rfl
    rw [hrt, e1, hsz]
    exact trodAll_mk1 (shut_bool htb _)
  · rw [e2]
    exact trodAll_below hl hb hread hA
  · rw [hv, e3]
    rfl
end Rx
