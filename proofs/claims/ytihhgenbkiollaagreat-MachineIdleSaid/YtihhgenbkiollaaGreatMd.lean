/- batch.All, batch.Priors: loops over an iterator. No condition. -/
import Derived.Test.YtihhgenbkiollaaGreatMc
import Derived.RangeFuncBox
import Derived.RangeFuncLeaves
import Derived.RangeFuncWrites
import Derived.WalkKit
import Derived.OwnWalkIn
import Derived.TacticsInMore
import Derived.LoopNIn
import Derived.LoopIn
import Derived.Maps.AppendAt
import Derived.Shelf.Spec.SlicesGrow
/- batch.All, batch.Priors: loops over an iterator. No condition. -/
namespace Go.Proofs.YtihhgenbkiollaaGreat
open Go Go.Proofs Go.RowKit
attribute [local go_sem] Oper.semAt_some
set_option maxRecDepth 100000
set_option maxHeartbeats 2000000
theorem ent_at {w : World} {D : Nat → Nat → Prop} {a0 : Option Addr} {cap : Nat} {xs : List Ent} {v : Value} (h : PL w D v (.list .ent xs)) (hv : v = .slice a0 xs.length cap) (k : Nat) (hk : k < xs.length) :
    ∃ b o, a0 = some ⟨b, o, none⟩ ∧ (Instr.indexAt 54 (.slice a0 xs.length cap) (.int .i64 k)).run Tryz.prog w = .ok (.pointer (some ⟨b, o + k * 3, none⟩)) w ∧
      w.cell? ⟨b, o + k * 3, none⟩ = some (.int .i64 (xs.getD k Kd.ent.dflt).thread) ∧ w.cell? ⟨b, o + k * 3 + 1, none⟩ = some (.int .i64 (xs.getD k Kd.ent.dflt).op.tag) ∧ w.cell? ⟨b, o + k * 3 + 2, none⟩ = some (.int .i64 (xs.getD k Kd.ent.dflt).op.v) := by
  subst hv
  obtain ⟨ad, cap', cs, hv, _, hs, hrr⟩ := h.list_inv
  cases hv
  obtain ⟨b, o, had, _, _⟩ := hs k 0 hk (by decide)
  refine ⟨b, o, had, ?_, ?_⟩
  · have hu := ti54.und
    simp [Instr.indexAt, asIntOf, Sem.run_bind, run_underlying hu w, had, hk, ti160.size_run w, addr_add]
  · have hc : ∀ j, j < 3 → w.cell? ⟨b, o + k * 3 + j, none⟩ = some (cs k j) := fun j hj => by
      obtain ⟨b', o', had', _, hc⟩ := hs k j hk hj
      rw [had] at had'; cases had'; exact hc
    have hp : ∀ j, j < 3 → PL w D (cs k j) ((Kd.ent.cells (xs.getD k Kd.ent.dflt)).getD j .nils) := fun j hj => hrr k j hk hj
    have p0 := hp 0 (by decide)
    have p1 := hp 1 (by decide)
    have p2 := hp 2 (by decide)
    have h0 := hc 0 (by decide)
    have h1 := hc 1 (by decide)
    have h2 := hc 2 (by decide)
    generalize cs k 0 = c0 at *
    generalize cs k 1 = c1 at *
    generalize cs k 2 = c2 at *
    cases p0; cases p1; cases p2
    exact ⟨h0, h1, h2⟩
theorem call154 (F : Opn → Int → Int → Int → Option (Int × Bool)) (hF : Ctr.Ok Tryz.prog 154 ⟨[.d .opn, .d .int, .d .int, .d .int], .two (.d .int) (.d .bool), F⟩) {tg v x lo hi y : Int} {q : Bool} (h : F ⟨tg, v⟩ x lo hi = some (y, q)) (w : World) :
    CallsIn Fence.wide 0 Tryz.prog 154 #[.agg #[.int .i64 tg, .int .i64 v], .int .i64 x, .int .i64 lo, .int .i64 hi] w fun e w' => e = .returned (.tuple #[.int .i64 y, .bool q]) ∧ Below w.heap.size w w' := by
  refine callsIn_wide.2 ((hF ⟨tg, v⟩ x lo hi (y, q) h w (fun _ _ => False) [.agg #[.int .i64 tg, .int .i64 v], .int .i64 x, .int .i64 lo, .int .i64 hi] (fun _ _ h => h.elim) ?_).mono ?_)
  · have hi : ∀ n : Int, RL (frz fun _ _ => False) w (.int .i64 n) (.int .i64 n) := fun n => RL.of_pl (.int _ _)
    exact ⟨⟨_, rfl, hi _, hi _, trivial⟩, ⟨_, rfl, hi _⟩, ⟨_, rfl, hi _⟩, ⟨_, rfl, hi _⟩, trivial⟩
  · rintro e w' ⟨r, rfl, hb, D', _, _, _, vs, rfl, hr⟩
    match vs, hr with
    | [a, b], ⟨⟨l, hl, ha⟩, ⟨m, hm, hb'⟩, _⟩ =>
      cases hl; cases hm
      exact ⟨by rw [ha.int, hb'.bool], hb⟩

theorem blk_lt {w : World} {a : Addr} {v : Value} (h : w.cell? a = some v) : a.block < w.heap.size := by
  obtain ⟨o, ho, _⟩ := not_walk_of_cell h
  exact (Array.getElem?_eq_some_iff.1 ho).1
theorem it255 (F : Opn → Int → Int → Int → Option (Int × Bool)) (hF : Ctr.Ok Tryz.prog 154 ⟨[.d .opn, .d .int, .d .int, .d .int], .two (.d .int) (.d .bool), F⟩) (h154 : Enters Tryz.prog 154)
  (l b1 bx b3 b4 : Nat) (a0 : Option Addr) (cap : Nat) (xs : List Ent) (ys : Nat → Int) (lo hi : Int) (N : Nat) (hN : xs.length = N) (hNs : N < 1048576) (W : World)
  (hys : ∀ k, k < N → ∃ q, F (xs.getD k Kd.ent.dflt).op (ys k) lo hi = some (ys (k + 1), q))
  (J : Nat → World → Prop)
  (hst : ∀ k A B, J k A → A.grownBy B (some bx) → (∀ v, Boxed A bx 3 v → ∃ v', Boxed B bx 3 v') → J k B)
  (hfix : ∀ k W, J k W → W.cell? ⟨b1, 0, none⟩ = some (.slice a0 N cap) ∧ W.cell? ⟨b3, 0, none⟩ = some (.int .i64 lo) ∧ W.cell? ⟨b4, 0, none⟩ = some (.int .i64 hi) ∧ (∃ v, Boxed W bx 3 v) ∧ ∃ D, PL W D (.slice a0 N cap) (.list .ent xs))
  (hY : ∀ k W, k < N → J k W → W.cell? ⟨bx, 0, none⟩ = some (.int .i64 (ys k)) → YieldAt Fence.wide 0 Tryz.prog l #[.int .i64 (ys k), .int .i64 (ys (k + 1))] W fun e W' => e = .returned (.bool true) ∧ J (k + 1) W' ∧ W'.cell? ⟨bx, 0, none⟩ = some (.int .i64 (ys k)))
  (h0 : J 0 W) (hx0 : W.cell? ⟨bx, 0, none⟩ = some (.int .i64 (ys 0))) :
  CallsIn Fence.wide 0 Tryz.prog 255 #[.func (.yield l) #[] #[], .pointer (some ⟨b1, 0, none⟩), .pointer (some ⟨bx, 0, none⟩), .pointer (some ⟨b3, 0, none⟩), .pointer (some ⟨b4, 0, none⟩)] W fun e W' => (∃ v, e = .returned v) ∧ J N W' := by
  refine callsIn_of_wp Tryz.func255 rfl trivial ?_ rfl
  simp only [Tryz.ntmps255, List.size_toArray, List.length_cons, List.length_nil, Nat.reduceAdd, Nat.reduceSub, Array.replicate_succ, Array.replicate_zero, List.push_toArray, List.append_toArray, List.nil_append, List.cons_append]
  have hf0 := hfix 0 W h0
  gi_wp2
  gi_loopw [12] (fun i wr => ∃ k : Nat, k ≤ N ∧ i = .int .i64 k ∧ J k wr ∧ wr.cell? ⟨bx, 0, none⟩ = some (.int .i64 (ys k)))
    (fun i _ => N - (intOf i).toNat)
  case atStart => exact ⟨0, Nat.zero_le _, rfl, h0, hx0⟩
  case round =>
    obtain ⟨k, hk, rfl, hJ, hbx⟩ := hrel
    obtain ⟨f1, f3, f4, ⟨vx, hvx⟩, D, hPL⟩ := hfix k wr hJ
    have ff := hvx.frozen
    by_cases hlt : k < N
    · obtain ⟨b, o, had, e1, e2, e3, e4⟩ := ent_at hPL (by rw [hN]) k (by omega)
      rw [hN] at e1
      clear had
      obtain ⟨q, hq⟩ := hys k hlt
      generalize xs.getD k Kd.ent.dflt = en at *
      obtain ⟨th, tg, vv⟩ := en
      have s1 := blk_lt hbx
      have s3 := blk_lt f3
      have s4 := blk_lt f4
      have g2 : ∀ o, (wr.alloc o).cell? ⟨bx, 0, none⟩ = some (.int .i64 (ys k)) := fun o => (((Below.refl _ wr).alloc (Nat.le_refl _) o).cell s1).trans hbx
      have g3 : ∀ o, (wr.alloc o).cell? ⟨b3, 0, none⟩ = some (.int .i64 lo) := fun o => (((Below.refl _ wr).alloc (Nat.le_refl _) o).cell s3).trans f3
      have g4 : ∀ o, (wr.alloc o).cell? ⟨b4, 0, none⟩ = some (.int .i64 hi) := fun o => (((Below.refl _ wr).alloc (Nat.le_refl _) o).cell s4).trans f4
      gi_wp2
      refine ⟨trivial, rfl, (call154 F hF hq _).mono ?_⟩
      rintro e wc ⟨rfl, hB⟩
      have hBw : Below wr.heap.size wr wc := ((Below.refl _ wr).alloc (Nat.le_refl _) _).trans (hB.mono (by simp))
      have hbx' := (hBw.cell s1).trans hbx
      have hJ' := hst k wr wc hJ ⟨hBw.os, hBw.tape, hBw.output, hBw.size, fun k hk _ => hBw.block k hk⟩ (fun v h => ⟨v, (hBw.block _ s1).trans h⟩)
      obtain ⟨fn, tmps, assign, body, hy, hR⟩ := hY k wc hlt hJ' hbx'
      gi_wp2
      refine ⟨rfl, hR.mono ?_⟩
      rintro e W3 ⟨rfl, hJ3, hk3⟩
      obtain ⟨_, _, _, ⟨_, hv3⟩, _⟩ := hfix _ W3 hJ3
      have ff3 := hv3.frozen
      gi_wp2
      go_roundw
      case rel =>
        refine ⟨k + 1, by omega, by simp, hst (k + 1) W3 _ hJ3 (grownBy_setCell' W3 bx _) (fun v h => ⟨_, h.set _⟩), ?_⟩
        exact World.cell?_setCell_same' _ _ _ (by rw [hk3]; rfl)
      case measure => simp [intOf]; omega
    · obtain rfl : k = N := by omega
      gi_wp2
      go_end0
      exact ⟨⟨_, rfl⟩, hJ⟩

/-- what an iterator leaves as it lay -/
structure Like (n bx : Nat) (A B : World) : Prop where
  below : Below n A B
  cells : ∀ j cs t m, j ≠ bx → A.heap[j]? = some (.cells cs t m) → B.heap[j]? = some (.cells cs t m)
theorem Like.trans {n bx : Nat} {A B C : World} (h : Like n bx A B) (k : Like n bx B C) : Like n bx A C := ⟨h.below.trans k.below, fun j cs t m hj ha => k.cells j cs t m hj (h.cells j cs t m hj ha)⟩
theorem Like.put {n bx : Nat} {A : World} {l : Nat} {o : Go.Obj} (o' : Go.Obj) (hl : n ≤ l) (ho : A.heap[l]? = some o) (hc : o.isCells = false) : Like n bx A (A.putObj l o') :=
  ⟨⟨rfl, rfl, rfl, by simp, fun k hk => World.putObj_heap_other (by omega)⟩, fun j cs t m _ ha => (World.putObj_heap_other (fun e => by rw [e, ho] at ha; cases ha; cases hc)).trans ha⟩
theorem Like.grown {n bx : Nat} {A B : World} (hx : n ≤ bx) (hs : n ≤ A.heap.size) (hg : A.grownBy B (some bx)) : Like n bx A B :=
  ⟨⟨hg.1, hg.2, hg.3, hg.size, fun k hk => hg.block k (by omega) (fun e => by cases e; omega)⟩, fun j cs t m hj ha => (hg.block j (Array.getElem?_eq_some_iff.1 ha).1 (fun e => hj (by cases e; rfl))).trans ha⟩

theorem range255 (F : Opn → Int → Int → Int → Option (Int × Bool)) (hF : Ctr.Ok Tryz.prog 154 ⟨[.d .opn, .d .int, .d .int, .d .int], .two (.d .int) (.d .bool), F⟩) (h154 : Enters Tryz.prog 154)
    {g : Operand} {ps : Array Tmp} {assign body : Code} {Q : Exit → Act → World → Prop} {a : Act} {w : World} {n0 b1 bx b3 b4 t1 : Nat} {a0 : Option Addr} {cap : Nat} {xs : List Ent} {ys : Nat → Int} {lo hi : Int} {N : Nat}
    (hg : a.eval g = .func (.func 255) #[] #[.pointer (some ⟨b1, 0, none⟩), .pointer (some ⟨bx, 0, none⟩), .pointer (some ⟨b3, 0, none⟩), .pointer (some ⟨b4, 0, none⟩)])
    (hN : xs.length = N) (hNs : N < 1048576) (hys : ∀ k, k < N → ∃ q, F (xs.getD k Kd.ent.dflt).op (ys k) lo hi = some (ys (k + 1), q))
    (B1 : Boxed w b1 t1 (.slice a0 N cap)) (Bx : Boxed w bx 3 (.int .i64 (ys 0))) (B3 : Boxed w b3 3 (.int .i64 lo)) (B4 : Boxed w b4 3 (.int .i64 hi)) (hn : n0 ≤ bx) (n1 : b1 ≠ bx) (n3 : b3 ≠ bx) (n4 : b4 ≠ bx)
    {D : Nat → Nat → Prop} (hD : ∀ b o, D b o → b < n0) (hPL : PL w D (.slice a0 N cap) (.list .ent xs))
    (I : Nat → World → Prop) (hI : ∀ k A B, I k A → Like n0 bx A B → I k B) (h0 : I 0 w) (hIb : ∀ k A, I k A → Below n0 w A) (a₁ : Nat → Act) (hps : ps.size = 2)
    (hassign : ∀ (l k : Nat) (W : World) (K : Act → World → Prop), K (a₁ k) W →
      assign.wpIn (Fence.wide.inRound l) 0 Tryz.prog (Exit.then K (fun _ _ _ => False)) { tmps := (ps.zip #[.int .i64 (ys k), .int .i64 (ys (k + 1))]).foldl (fun t (p, v) => t.setIfInBounds p v) a.tmps, defers := [] } W)
    (hbody : ∀ (l k : Nat) (W : World), I k W → k < N → body.wpIn (Fence.wide.inRound l) 0 Tryz.prog (fun e _ W' => e = .normal ∧ I (k + 1) W' ∧ KeepsOthers W W' ∧ ∀ b v t, b = b1 ∨ b = bx ∨ b = b3 ∨ b = b4 → Boxed W b t v → Boxed W' b t v) (a₁ k) W)
    (hdone : ∀ (M : Nat) (W : World), w.heap.size ≤ M → I N W → W.heap[M]? = some (.deferred (some [])) → Q .normal { a with defers := { target := .collected M, args := #[] } :: a.defers } W) :
    (Code.rangeFunc g ps assign body).wpIn Fence.wide 0 Tryz.prog Q a w := by
  refine wpIn_rangeFunc ?_
  intro fn hfn
  have hn0 : n0 ≤ w.heap.size := by have := Bx.lt; omega
  obtain ⟨rec, hrec⟩ : ∃ rec : LoopState → Option Code → Loop, rec = fun st pe => { state := st, pending := pe, fn, tmps := a.tmps, params := ps, assign, body, defers := w.heap.size } := ⟨_, rfl⟩
  obtain ⟨W1, hW1⟩ : ∃ W1, (w.alloc (.deferred (some []))).alloc (.loop (rec .ready none)) = W1 := ⟨_, rfl⟩
  have hL1 : W1.heap[w.heap.size + 1]? = some (.loop (rec .ready none)) := by
    rw [← hW1]; have := World.alloc_heap_new (w.alloc (.deferred (some []))) (.loop (rec .ready none)); rwa [World.size_alloc] at this
  have hK1 : W1.heap[w.heap.size]? = some (.deferred (some [])) := by
    rw [← hW1]; exact (Below.heap_alloc _ _ _ (by simp)).trans (World.alloc_heap_new w _)
  have hb1 : Below w.heap.size w W1 := by
    rw [← hW1]; exact ((Below.refl _ w).alloc (Nat.le_refl _) _).alloc (by simp) _
  have hI1 : I 0 W1 := hI 0 w W1 h0 ⟨hb1.mono hn0, fun j cs t m _ ha => (hb1.block j (Array.getElem?_eq_some_iff.1 ha).1).trans ha⟩
  have old : ∀ {b : Nat} {t : TypeId} {v : Value}, Boxed w b t v → Boxed W1 b t v := fun h => (hb1.block _ h.lt).trans h
  -- what holds at the start of a round
  let J : Nat → World → Prop := fun k W => I k W ∧ W.heap[w.heap.size + 1]? = some (.loop (rec .ready none)) ∧ W.heap[w.heap.size]? = some (.deferred (some [])) ∧
    Boxed W b1 t1 (.slice a0 N cap) ∧ Boxed W b3 3 (.int .i64 lo) ∧ Boxed W b4 3 (.int .i64 hi) ∧ (∃ v, Boxed W bx 3 v)
  have hlt1 : w.heap.size + 1 ≠ bx := by have := Bx.lt; omega
  have hlt0 : w.heap.size ≠ bx := by have := Bx.lt; omega
  refine ⟨w.heap.size + 1, [{ target := .collected w.heap.size, args := #[] }], W1, { target := .fn (.func 255) #[.pointer (some ⟨b1, 0, none⟩), .pointer (some ⟨bx, 0, none⟩), .pointer (some ⟨b3, 0, none⟩), .pointer (some ⟨b4, 0, none⟩)], args := #[.func (.yield (w.heap.size + 1)) #[] #[]] }, W1, 255,
    #[.func (.yield (w.heap.size + 1)) #[] #[], .pointer (some ⟨b1, 0, none⟩), .pointer (some ⟨bx, 0, none⟩), .pointer (some ⟨b3, 0, none⟩), .pointer (some ⟨b4, 0, none⟩)], W1, ?_, ?_, fun _ _ => trivial, ?_, (fun h => by cases h), ?_⟩
  · rw [← hW1, hrec]; exact run_enterLoop_outer _ _ _ _ _
  · simp only [resolve, hg]
    simp [go_sem]
  · have := callFunc_enters (enters Tryz.func255 (by kernel_rfl) rfl)
    simp [invoke, go_sem, this]
  · refine (it255 F hF h154 (w.heap.size + 1) b1 bx b3 b4 a0 cap xs ys lo hi N hN hNs W1 hys J ?_ ?_ ?_ ⟨hI1, hL1, hK1, old B1, old B3, old B4, _, old Bx⟩ (old Bx).cell).mono ?_
    · rintro k A B ⟨hi, hl, hk, c1, c3, c4, v, cx⟩ hg hfx
      have hA : n0 ≤ A.heap.size := by have := cx.lt; omega
      have keep : ∀ (j : Nat) (o : Go.Obj), j ≠ bx → A.heap[j]? = some o → B.heap[j]? = some o := fun j o hj ho => (hg.block j (Array.getElem?_eq_some_iff.1 ho).1 (fun e => hj (by cases e; rfl))).trans ho
      refine ⟨hI k A B hi (Like.grown hn hA hg), keep _ _ hlt1 hl, keep _ _ hlt0 hk, keep _ _ n1 c1, keep _ _ n3 c3, keep _ _ n4 c4, hfx v cx⟩
    · rintro k W ⟨hi, hl, hk, c1, c3, c4, v, cx⟩
      have hb := hIb k W hi
      exact ⟨c1.cell, c3.cell, c4.cell, ⟨v, cx⟩, D, hPL.mono (fun _ _ h => h) (fun b o h => hb.cell (hD b o h))⟩
    · rintro k W hlt ⟨hi, hl, hk, c1, c3, c4, v, cx⟩ hcx
      have hy := run_yield (P := Tryz.prog) (args := #[.int .i64 (ys k), .int .i64 (ys (k + 1))]) hl (by rw [hrec]; exact hps.symm)
      rw [hrec] at hy
      refine ⟨fn, _, assign, body, hy, roundIn_of_wpIn hfn (hassign _ k W _ ⟨_, run_beginRound hl (by rw [hrec]), ?_⟩)⟩
      have hlt : w.heap.size + 1 < W.heap.size := (Array.getElem?_eq_some_iff.1 hl).1
      have hl2 : (W.putObj (w.heap.size + 1) (.loop { rec .ready none with state := .busy })).heap[w.heap.size + 1]? = some (.loop { rec .ready none with state := .busy }) := World.putObj_heap_same hlt
      have hk2 : (W.putObj (w.heap.size + 1) (.loop { rec .ready none with state := .busy })).heap[w.heap.size]? = some (.deferred (some [])) := (World.putObj_heap_other (by omega)).trans hk
      have hW2 := hI k W _ hi (Like.put (n := n0) (bx := bx) (.loop { rec .ready none with state := .busy }) (by omega) hl rfl)
      have nb : ∀ {b : Nat} {t : TypeId} {v : Value} {W : World} {o : Go.Obj}, Boxed W b t v → W.heap[w.heap.size + 1]? = some o → o.isCells = false → ∀ o', Boxed (W.putObj (w.heap.size + 1) o') b t v := fun h ho hc o' =>
        (World.putObj_heap_other (fun e => by rw [e] at h; rw [show _ = _ from h] at ho; cases ho; cases hc)).trans h
      refine wpIn_mono (hbody _ k _ hW2 (by omega)) ?_
      rintro e a3 W3 ⟨rfl, hi3, hk3, hbs⟩
      have hl3 := hk3.same _ _ hl2 rfl
      have he := run_endRound (P := Tryz.prog) none hl3
      rw [hrec] at he
      refine ⟨_, _, he, rfl, ⟨hI _ _ _ hi3 (Like.put _ (by omega) hl3 rfl), ?_, (World.putObj_heap_other (by omega)).trans (hk3.same _ _ hk2 rfl), ?_, ?_, ?_, v, ?_⟩, ?_⟩
      · rw [World.putObj_heap_same (Array.getElem?_eq_some_iff.1 hl3).1, hrec]; rfl
      · exact nb (hbs _ _ _ (.inl rfl) (nb c1 hl rfl _)) hl3 rfl _
      · exact nb (hbs _ _ _ (.inr (.inr (.inl rfl))) (nb c3 hl rfl _)) hl3 rfl _
      · exact nb (hbs _ _ _ (.inr (.inr (.inr rfl))) (nb c4 hl rfl _)) hl3 rfl _
      · exact nb (hbs _ _ _ (.inr (.inl rfl)) (nb cx hl rfl _)) hl3 rfl _
      · have := (nb (hbs _ _ _ (.inr (.inl rfl)) (nb cx hl rfl (.loop { rec .ready none with state := .busy }))) hl3 rfl (.loop { rec .ready none with state := .ready, pending := none })).cell
        rw [cx.cell] at hcx
        cases hcx
        rw [hrec] at this
        exact this
    · rintro e W2 ⟨⟨v, rfl⟩, hi, hl, hk, _⟩
      exact ⟨none, _, by have := run_endLoop (P := Tryz.prog) hl (by rw [hrec]; simp); rw [hrec] at this; exact this, hdone _ _ (Nat.le_refl _) (hI _ _ _ hi (Like.put _ (by omega) hl rfl)) ((World.putObj_heap_other (by omega)).trans hk)⟩

theorem call210 (a0 : Option Addr) (n cap : Nat) (x lo hi : Int) (w : World) :
    CallsIn Fence.wide 0 Tryz.prog 210 #[.slice a0 n cap, .int .i64 x, .int .i64 lo, .int .i64 hi] w fun e w' =>
      e = .returned (.func (.func 255) #[] #[.pointer (some ⟨w.heap.size, 0, none⟩), .pointer (some ⟨w.heap.size + 1, 0, none⟩), .pointer (some ⟨w.heap.size + 2, 0, none⟩), .pointer (some ⟨w.heap.size + 3, 0, none⟩)]) ∧
      w' = (((w.alloc (.cells #[.slice a0 n cap] 54)).alloc (.cells #[.int .i64 x] 3)).alloc (.cells #[.int .i64 lo] 3)).alloc (.cells #[.int .i64 hi] 3) := by
  refine callsIn_of_wp Tryz.func210 rfl trivial ?_ rfl
  simp only [Tryz.ntmps210, List.size_toArray, List.length_cons, List.length_nil, Nat.reduceAdd, Nat.reduceSub, Array.replicate_succ, Array.replicate_zero, List.push_toArray, List.append_toArray, List.nil_append, List.cons_append]
  gi_wp2
  go_ret
  exact ⟨rfl, rfl⟩
def allF (F : Opn → Int → Int → Int → Option (Int × Bool)) : List Ent → Int → Int → Int → Option Int
  | [], x, _, _ => some x
  | e :: r, x, lo, hi => (F e.op x lo hi).bind fun p => allF F r p.1 lo hi
theorem allF_ys (F : Opn → Int → Int → Int → Option (Int × Bool)) (lo hi : Int) : ∀ (xs : List Ent) (x y : Int), allF F xs x lo hi = some y →
    ∃ ys : Nat → Int, ys 0 = x ∧ ys xs.length = y ∧ ∀ k, k < xs.length → ∃ q, F (xs.getD k Kd.ent.dflt).op (ys k) lo hi = some (ys (k + 1), q)
  | [], x, y, h => ⟨fun _ => x, rfl, by simpa [allF] using h, fun k hk => absurd hk (by simp)⟩
  | e :: r, x, y, h => by
    simp only [allF] at h
    obtain ⟨p, hp, h⟩ := Option.bind_eq_some_iff.1 h
    obtain ⟨ys, h0, h1, h2⟩ := allF_ys F lo hi r p.1 y h
    refine ⟨fun | 0 => x | k + 1 => ys k, rfl, by simpa using h1, fun k hk => ?_⟩
    match k, hk with
    | 0, _ => exact ⟨p.2, by simp [h0, hp]⟩
    | k + 1, hk => simpa using h2 k (by simpa using hk)
theorem call178 (F : Opn → Int → Int → Int → Option (Int × Bool)) (hF : Ctr.Ok Tryz.prog 154 ⟨[.d .opn, .d .int, .d .int, .d .int], .two (.d .int) (.d .bool), F⟩) (h154 : Enters Tryz.prog 154)
    (a0 : Option Addr) (cap : Nat) (xs : List Ent) (x lo hi y : Int) (hNs : xs.length < 1048576) (hy : allF F xs x lo hi = some y) (w : World) {D : Nat → Nat → Prop} (hD : ∀ b o, D b o → b < w.heap.size) (hPL : PL w D (.slice a0 xs.length cap) (.list .ent xs)) :
    CallsIn Fence.wide 0 Tryz.prog 178 #[.slice a0 xs.length cap, .int .i64 x, .int .i64 lo, .int .i64 hi] w fun e w' => e = .returned (.int .i64 y) ∧ Below w.heap.size w w' := by
  refine callsIn_of_wp_marks Tryz.func178 rfl trivial ?_ rfl
  simp only [Tryz.ntmps178, List.size_toArray, List.length_cons, List.length_nil, Nat.reduceAdd, Nat.reduceSub, Array.replicate_succ, Array.replicate_zero, List.push_toArray, List.append_toArray, List.nil_append, List.cons_append]
  gi_wp2
  refine ⟨trivial, rfl, (call210 a0 xs.length cap x lo hi _).mono ?_⟩
  rintro e w' ⟨rfl, rfl⟩
  obtain ⟨ys, y0, y1, y2⟩ := allF_ys F lo hi xs x y hy
  have hB0 : Below w.heap.size w ((((w.alloc (.cells #[.int .i64 x] 3)).alloc (.cells #[.slice a0 xs.length cap] 54)).alloc (.cells #[.int .i64 x] 3)).alloc (.cells #[.int .i64 lo] 3) |>.alloc (.cells #[.int .i64 hi] 3)) :=
    (((((Below.refl _ w).alloc (Nat.le_refl _) _).alloc (by simp) _).alloc (by simp; omega) _).alloc (by simp; omega) _).alloc (by simp; omega) _
  have bR := Boxed.new w 3 (.int .i64 x)
  have b1 := Boxed.new (w.alloc (.cells #[.int .i64 x] 3)) 54 (.slice a0 xs.length cap)
  have b2 := Boxed.new ((w.alloc (.cells #[.int .i64 x] 3)).alloc (.cells #[.slice a0 xs.length cap] 54)) 3 (.int .i64 x)
  have b3 := Boxed.new (((w.alloc (.cells #[.int .i64 x] 3)).alloc (.cells #[.slice a0 xs.length cap] 54)).alloc (.cells #[.int .i64 x] 3)) 3 (.int .i64 lo)
  have b4 := Boxed.new ((((w.alloc (.cells #[.int .i64 x] 3)).alloc (.cells #[.slice a0 xs.length cap] 54)).alloc (.cells #[.int .i64 x] 3)).alloc (.cells #[.int .i64 lo] 3)) 3 (.int .i64 hi)
  simp only [World.size_alloc] at b1 b2 b3 b4
  gi_wp2
  refine range255 F hF h154 (n0 := w.heap.size) (b1 := w.heap.size + 1) (bx := w.heap.size + 1 + 1) (b3 := w.heap.size + 1 + 1 + 1) (b4 := w.heap.size + 1 + 1 + 1 + 1) (xs := xs) (ys := ys) (lo := lo) (hi := hi) (N := xs.length) (D := D) rfl rfl hNs y2 (((b1.alloc _).alloc _).alloc _) (by rw [y0]; exact (b2.alloc _).alloc _) (b3.alloc _) b4 (by omega) (by omega) (by omega) (by omega)
    hD (hPL.mono (fun _ _ h => h) (fun b o h => hB0.cell (hD b o h))) (fun k A => Below w.heap.size _ A ∧ Boxed A w.heap.size 3 (.int .i64 (ys k))) ?st ⟨Below.refl _ _, by rw [y0]; exact (((bR.alloc _).alloc _).alloc _).alloc _⟩ ?below
    (fun k => { tmps := #[.slice a0 xs.length cap, .int .i64 x, .int .i64 lo, .int .i64 hi, undef, .pointer (some ⟨w.heap.size, 0, none⟩), undef, undef, .int .i64 0, undef, .int .i64 (ys (k + 1)), .slice a0 xs.length cap, .int .i64 x, .int .i64 lo, .int .i64 hi,
      .func (.func 255) #[] #[.pointer (some ⟨w.heap.size + 1, 0, none⟩), .pointer (some ⟨w.heap.size + 2, 0, none⟩), .pointer (some ⟨w.heap.size + 3, 0, none⟩), .pointer (some ⟨w.heap.size + 4, 0, none⟩)], .int .i64 (ys k), .int .i64 (ys (k + 1)), undef, undef], defers := [] }) rfl ?assign ?body ?done
  case st => exact fun k A B h hl => ⟨h.1.trans hl.below, hl.cells _ _ _ _ (by omega) h.2⟩
  case below => exact fun k A h => h.1
  case assign =>
    intro l k W K hK
    gi_wp2
    exact hK
  case body =>
    rintro l k W ⟨hB, hc⟩ hk
    have hc' := hc.cell
    have hf' := hc.frozen
    gi_wp2
    exact ⟨⟨hB.setCell (p := ⟨w.heap.size, 0, none⟩) (Nat.le_refl _) _, hc.set _⟩, KeepsOthers.setCell _ _ _, fun b v t hb h => h.kept (grownBy_setCell' W _ _) (fun e => by cases e; omega)⟩
  case done =>
    rintro M W hM ⟨hB, hc⟩ hK
    have hc' := hc.cell
    have hf' := hc.frozen
    gi_wp2
    refine ⟨by simp, .inl ⟨_, _, rfl, run_takeDeferred hK, ?_⟩⟩
    exact ⟨_, results_tmp rfl _ _ _, rfl, (hB0.trans hB).trans (belowK_b (w := w) (Nat.le_refl _) W M _ _ (by simp at hM; omega) hK rfl rfl)⟩

def priorsF (F : Opn → Int → Int → Int → Option (Int × Bool)) : List Ent → Int → Int → Int → Option (List Int)
  | [], _, _, _ => some []
  | e :: r, x, lo, hi => (F e.op x lo hi).bind fun p => (priorsF F r p.1 lo hi).bind fun l => some (x :: l)
theorem priorsF_ys (F : Opn → Int → Int → Int → Option (Int × Bool)) (lo hi : Int) : ∀ (xs : List Ent) (x : Int) (l : List Int), priorsF F xs x lo hi = some l →
    ∃ ys : Nat → Int, ys 0 = x ∧ (List.range xs.length).map ys = l ∧ ∀ k, k < xs.length → ∃ q, F (xs.getD k Kd.ent.dflt).op (ys k) lo hi = some (ys (k + 1), q)
  | [], x, l, h => ⟨fun _ => x, rfl, by simpa [priorsF] using h, fun k hk => absurd hk (by simp)⟩
  | e :: r, x, l, h => by
    simp only [priorsF] at h
    obtain ⟨p, hp, h⟩ := Option.bind_eq_some_iff.1 h
    obtain ⟨l', hl, h⟩ := Option.bind_eq_some_iff.1 h
    cases h
    obtain ⟨ys, h0, h1, h2⟩ := priorsF_ys F lo hi r p.1 l' hl
    refine ⟨fun | 0 => x | k + 1 => ys k, rfl, by simp [List.range_succ_eq_map, ← h1, Function.comp_def], fun k hk => ?_⟩
    match k, hk with
    | 0, _ => exact ⟨p.2, by simp [h0, hp]⟩
    | k + 1, hk => simpa using h2 k (by simpa using hk)
theorem info3 : (Tryz.prog.info? 3).map (fun i => (i.zero, i.size, i.bytes)) = some (some (.int .i64 0), 1, 8) := by kernel_rfl
theorem ownsRow_like {n bx base k : Nat} {e : TypeId} {v : Value} {xs : List Value} {A B : World} (hb : bx < base) (h : A.ownsRow base e 1 v k xs) (hl : Like n bx A B) : B.ownsRow base e 1 v k xs := by
  refine ⟨h.1, ?_⟩
  rcases h.2 with h' | ⟨g, cap, cur, h1, h2, h3, h4⟩
  · exact .inl h'
  · exact .inr ⟨g, cap, cur, h1, h2, hl.cells g _ _ _ (by omega) h3, h4⟩
theorem call180 (F : Opn → Int → Int → Int → Option (Int × Bool)) (hF : Ctr.Ok Tryz.prog 154 ⟨[.d .opn, .d .int, .d .int, .d .int], .two (.d .int) (.d .bool), F⟩) (h154 : Enters Tryz.prog 154)
    (a0 : Option Addr) (cap : Nat) (xs : List Ent) (x lo hi : Int) (zs : List Int) (hNs : xs.length < 1048576) (hy : priorsF F xs x lo hi = some zs) (w : World) {D : Nat → Nat → Prop} (hD : ∀ b o, D b o → b < w.heap.size) (hPL : PL w D (.slice a0 xs.length cap) (.list .ent xs)) :
    CallsIn Fence.wide 0 Tryz.prog 180 #[.slice a0 xs.length cap, .int .i64 x, .int .i64 lo, .int .i64 hi] w fun e w' => ∃ v, e = .returned v ∧ Below w.heap.size w w' ∧ w'.ownsRow w.heap.size 3 1 v zs.length (zs.map (Value.int .i64)) := by
  obtain ⟨i0, hi0, hz0, hz1, hz2⟩ := info_parts info3
  refine callsIn_of_wp_marks Tryz.func180 rfl trivial ?_ rfl
  simp only [Tryz.ntmps180, List.size_toArray, List.length_cons, List.length_nil, Nat.reduceAdd, Nat.reduceSub, Array.replicate_succ, Array.replicate_zero, List.push_toArray, List.append_toArray, List.nil_append, List.cons_append]
  gi_wp2
  refine ⟨trivial, rfl, (call210 a0 xs.length cap x lo hi _).mono ?_⟩
  rintro e w' ⟨rfl, rfl⟩
  obtain ⟨ys, y0, y1, y2⟩ := priorsF_ys F lo hi xs x zs hy
  have hB0 : Below w.heap.size w ((((w.alloc (.cells #[.slice none 0 0] 25)).alloc (.cells #[.slice a0 xs.length cap] 54)).alloc (.cells #[.int .i64 x] 3)).alloc (.cells #[.int .i64 lo] 3) |>.alloc (.cells #[.int .i64 hi] 3)) :=
    (((((Below.refl _ w).alloc (Nat.le_refl _) _).alloc (by simp) _).alloc (by simp; omega) _).alloc (by simp; omega) _).alloc (by simp; omega) _
  have bR := Boxed.new w 25 (.slice none 0 0)
  have b1 := Boxed.new (w.alloc (.cells #[.slice none 0 0] 25)) 54 (.slice a0 xs.length cap)
  have b2 := Boxed.new ((w.alloc (.cells #[.slice none 0 0] 25)).alloc (.cells #[.slice a0 xs.length cap] 54)) 3 (.int .i64 x)
  have b3 := Boxed.new (((w.alloc (.cells #[.slice none 0 0] 25)).alloc (.cells #[.slice a0 xs.length cap] 54)).alloc (.cells #[.int .i64 x] 3)) 3 (.int .i64 lo)
  have b4 := Boxed.new ((((w.alloc (.cells #[.slice none 0 0] 25)).alloc (.cells #[.slice a0 xs.length cap] 54)).alloc (.cells #[.int .i64 x] 3)).alloc (.cells #[.int .i64 lo] 3)) 3 (.int .i64 hi)
  simp only [World.size_alloc] at b1 b2 b3 b4
  gi_wp2
  refine range255 F hF h154 (n0 := w.heap.size) (b1 := w.heap.size + 1) (bx := w.heap.size + 1 + 1) (b3 := w.heap.size + 1 + 1 + 1) (b4 := w.heap.size + 1 + 1 + 1 + 1) (xs := xs) (ys := ys) (lo := lo) (hi := hi) (N := xs.length) (D := D) rfl rfl hNs y2 (((b1.alloc _).alloc _).alloc _) (by rw [y0]; exact (b2.alloc _).alloc _) (b3.alloc _) b4 (by omega) (by omega) (by omega) (by omega)
    hD (hPL.mono (fun _ _ h => h) (fun b o h => hB0.cell (hD b o h))) (fun k A => Below w.heap.size _ A ∧ ∃ v, Boxed A w.heap.size 25 v ∧ A.ownsRow (w.heap.size + 5) 3 1 v k ((List.range k).map fun i => .int .i64 (ys i))) ?st ⟨Below.refl _ _, _, (((bR.alloc _).alloc _).alloc _).alloc _, World.ownsRow_nil _ _ _ _⟩ ?below
    (fun k => { tmps := #[.slice a0 xs.length cap, .int .i64 x, .int .i64 lo, .int .i64 hi, undef, undef, undef, undef, .pointer (some ⟨w.heap.size, 0, none⟩), .int .i64 (ys k), .slice a0 xs.length cap, .int .i64 x, .int .i64 lo, .int .i64 hi,
      .func (.func 255) #[] #[.pointer (some ⟨w.heap.size + 1, 0, none⟩), .pointer (some ⟨w.heap.size + 2, 0, none⟩), .pointer (some ⟨w.heap.size + 3, 0, none⟩), .pointer (some ⟨w.heap.size + 4, 0, none⟩)], .int .i64 (ys k), .int .i64 (ys (k + 1)), undef, undef, undef, undef, undef], defers := [] }) rfl ?assign ?body ?done
  case st => exact fun k A B ⟨h1, v, h2, h3⟩ hl => ⟨h1.trans hl.below, v, hl.cells _ _ _ _ (by omega) h2, ownsRow_like (by omega) h3 hl⟩
  case below => exact fun k A h => h.1
  case assign =>
    intro l k W K hK
    gi_wp2
    exact hK
  case body =>
    rintro l k W ⟨hB, v, hc, hrow⟩ hk
    have hc' := hc.cell
    have hf' := hc.frozen
    have hWs := hB.size
    simp only [World.size_alloc] at hWs
    have hBs : w.heap.size < W.heap.size := hc.lt
    have rne : ∀ j, j < w.heap.size + 5 → some j ≠ v.ownBlock := fun j hj e => by
      have := (hrow.lt j e.symm).1; omega
    gi_wp2_with (gi_at_builtin; refine wpListIn_append_own _ rfl _ _ 25 rfl (w.heap.size + 5) 3 i0 (.int .i64 0) 1 8 Tryz.underlying25 hi0 hz0 hz1 hz2 rfl (by decide) _ _ _ rfl (hrow.alloc _) ⟨W.heap.size, 0, none⟩ 1 1 [.int .i64 (ys k)] rfl rfl (cell_one_new _ _ _) (by simp [Value.oneCell']) (by simp only [maxLen]; omega) (by omega) (by simp; omega) ?_; intro v' w3 hown' hg3 hnil3
                 have hv3 : Boxed w3 w.heap.size 25 v := (hg3.block _ (by simp; omega) (rne _ (by omega))).trans (hc.alloc _)
                 have hc3 := hv3.cell
                 have hf3 := hv3.frozen
                 obtain ⟨g', cap', cur', rfl, hbase', hgb', hr1, hr2, hr3, hr4⟩ : ∃ g' cap' cur', v' = .slice (some ⟨g', 0, none⟩) (k + 1) cap' ∧ w.heap.size + 5 ≤ g' ∧ w3.heap[g']? = some (.cells cur' 3 (0, 0)) ∧ k + 1 ≤ cap' ∧ cap' ≤ maxLen ∧ cur'.size = cap' * 1 ∧ cur'.toList.take ((k + 1) * 1) = (List.range k).map (fun i => Value.int .i64 (ys i)) ++ [.int .i64 (ys k)] := by
                   rcases hown'.2 with ⟨_, h0⟩ | h'
                   · exact absurd h0 (by omega)
                   · exact h')
    have hB3 : Below w.heap.size W w3 := ⟨hg3.os, hg3.tape, hg3.output, Nat.le_trans (by simp) hg3.size, fun j hj => (hg3.block j (by simp; omega) (rne _ (by omega))).trans (Below.heap_alloc _ _ j (by omega))⟩
    have hne : g' ≠ w.heap.size := by omega
    refine ⟨⟨(hB.trans hB3).setCell (p := ⟨w.heap.size, 0, none⟩) (Nat.le_refl _) _, _, hv3.set _, ?_⟩, ?_, ?_⟩
    · have := hown'.kept (grownBy_setCell' w3 w.heap.size (.slice (some ⟨g', 0, none⟩) (k + 1) cap')) (.inr (fun e => hne (by simpa [Value.ownBlock] using e)))
      simpa [List.range_succ] using this
    · refine (⟨by have := hg3.size; simp at this; omega, fun j o hj ho => ?_⟩ : KeepsOthers W w3).trans (KeepsOthers.setCell _ _ _)
      refine (hg3.block j (by have := (Array.getElem?_eq_some_iff.1 hj).1; simp; omega) (fun e => ?_)).trans ((Below.heap_alloc _ _ j (Array.getElem?_eq_some_iff.1 hj).1).trans hj)
      rcases hrow.2 with ⟨rfl, _⟩ | ⟨g, cap, cur, rfl, _, hgb, _⟩
      · cases e
      · cases e; rw [hgb] at hj; cases hj; cases ho
    · intro b v2 t hb h
      refine (Boxed.kept ?_ (grownBy_setCell' w3 w.heap.size _) (fun e => by cases e; omega) : Boxed _ b t v2)
      exact (hg3.block b (by have := h.lt; simp; omega) (rne _ (by omega))).trans (h.alloc _)
  case done =>
    rintro M W hM ⟨hB, v, hc, hrow⟩ hK
    have hc' := hc.cell
    have hf' := hc.frozen
    have hv : ∃ ad n cap, v = .slice ad n cap := by
      rcases hrow.2 with ⟨rfl, _⟩ | ⟨g, cap, cur, rfl, _⟩
      · exact ⟨_, _, _, rfl⟩
      · exact ⟨_, _, _, rfl⟩
    obtain ⟨ad, n, cap, rfl⟩ := hv
    gi_wp2
    have hK' := (KeepsOthers.setCell W ⟨w.heap.size, 0, none⟩ (.slice ad n cap)).same M _ hK rfl
    refine ⟨by simp, .inl ⟨_, _, rfl, run_takeDeferred hK', ?_⟩⟩
    have hc5 := cell_kept (World.cell?_setCell_same' W ⟨w.heap.size, 0, none⟩ (.slice ad n cap) (by rw [hc']; rfl)) (grownBy_putObj' _ M (.deferred none)) (fun r e => by cases e; exact ⟨_, hK', rfl⟩)
    have hlz : zs.length = xs.length := by rw [← y1]; simp
    have hnb : (Value.slice ad n cap).ownBlock ≠ some w.heap.size := fun e => by have := (hrow.lt _ e).1; omega
    have hr5 := ownsRow_putObj (hrow.kept (grownBy_setCell' W w.heap.size (.slice ad n cap)) (.inr hnb)) (.deferred none) hK' rfl
    refine ⟨.slice ad n cap, ?_, _, rfl, ((hB0.trans hB).setCell (p := ⟨w.heap.size, 0, none⟩) (Nat.le_refl _) _).trans (belowK_b (w := w) (Nat.le_refl _) _ M _ _ (by simp at hM; omega) hK' rfl rfl), ?_⟩
    · simp [results, Tryz.f180, go_sem, hc5]
    · rw [hlz, ← y1, List.map_map]
      refine ⟨hr5.1, ?_⟩
      rcases hr5.2 with h' | ⟨g, cap', cur, h1, h2, h3⟩
      · exact .inl h'
      · exact .inr ⟨g, cap', cur, h1, by omega, h3⟩

theorem RL.entList {w : World} {D : Nat → Nat → Prop} {v : Value} {xs : List Ent} (h : RL (frz D) w v (.list .ent xs)) : PL w D v (.list .ent xs) := h.list
def Fall (F : Opn → Int → Int → Int → Option (Int × Bool)) (x0 : List Ent) (x1 x2 x3 : Int) : Option Int := cond (decide (x0.length < 1048576)) (allF F x0 x1 x2 x3) none
def Fpri (F : Opn → Int → Int → Int → Option (Int × Bool)) (x0 : List Ent) (x1 x2 x3 : Int) : Option (List Int) := cond (decide (x0.length < 1048576)) (priorsF F x0 x1 x2 x3) none
theorem rs4 {w : World} {D : Nat → Nat → Prop} {vs : List Value} {xs : List Ent} {x lo hi : Int} (h : Rs (RA (frz D) w) vs [Ty.enc (.l .ent) xs, Ty.enc (.d .int) x, Ty.enc (.d .int) lo, Ty.enc (.d .int) hi]) :
    ∃ a0 cap, vs = [.slice a0 xs.length cap, .int .i64 x, .int .i64 lo, .int .i64 hi] ∧ PL w D (.slice a0 xs.length cap) (.list .ent xs) := by
  match vs, h with
  | [v0, v1, v2, v3], ⟨⟨_, rfl, h0⟩, ⟨_, rfl, h1⟩, ⟨_, rfl, h2⟩, ⟨_, rfl, h3⟩, _⟩ =>
    have hp := RL.entList h0
    obtain ⟨ad, cap, _, rfl, _⟩ := hp.list_inv
    exact ⟨ad, cap, by rw [h1.int, h2.int, h3.int], hp⟩
theorem all_ok {F : Opn → Int → Int → Int → Option (Int × Bool)} (h : Enters Tryz.prog 154 ∧ Ctr.Ok Tryz.prog 154 ⟨[.d .opn, .d .int, .d .int, .d .int], .two (.d .int) (.d .bool), F⟩) :
    Enters Tryz.prog 178 ∧ Ctr.Ok Tryz.prog 178 ⟨[.l .ent, .d .int, .d .int, .d .int], .one (.d .int), Fall F⟩ := by
  refine ⟨enters Tryz.func178 (by kernel_rfl) rfl, fun xs x lo hi y hy w D vs hD hvs => ?_⟩
  obtain ⟨a0, cap, rfl, hp⟩ := rs4 hvs
  have hn : xs.length < 1048576 := by
    cases hd : decide (xs.length < 1048576) with
    | true => exact of_decide_eq_true hd
    | false => simp only [Fall, hd] at hy; cases hy
  simp only [Fall, hn, decide_true, cond_true] at hy
  refine (callsIn_wide.1 (call178 F h.2 h.1 a0 cap xs x lo hi y hn hy w hD hp)).mono ?_
  rintro e w' ⟨rfl, hb⟩
  exact ⟨_, rfl, hb, D, fun _ _ h => h, fun b o h => Nat.lt_of_lt_of_le (hD b o h) hb.size, fun _ _ h _ => h, _, rfl, RL.of_pl (.int _ _)⟩
theorem pri_ok {F : Opn → Int → Int → Int → Option (Int × Bool)} (h : Enters Tryz.prog 154 ∧ Ctr.Ok Tryz.prog 154 ⟨[.d .opn, .d .int, .d .int, .d .int], .two (.d .int) (.d .bool), F⟩) :
    Enters Tryz.prog 180 ∧ Ctr.Ok Tryz.prog 180 ⟨[.l .ent, .d .int, .d .int, .d .int], .one (.l .int), Fpri F⟩ := by
  refine ⟨enters Tryz.func180 (by kernel_rfl) rfl, fun xs x lo hi zs hy w D vs hD hvs => ?_⟩
  obtain ⟨a0, cap, rfl, hp⟩ := rs4 hvs
  have hn : xs.length < 1048576 := by
    cases hd : decide (xs.length < 1048576) with
    | true => exact of_decide_eq_true hd
    | false => simp only [Fpri, hd] at hy; cases hy
  simp only [Fpri, hn, decide_true, cond_true] at hy
  refine (callsIn_wide.1 (call180 F h.2 h.1 a0 cap xs x lo hi zs hn hy w hD hp)).mono ?_
  rintro e w' ⟨v, rfl, hb, hrow⟩
  have keepD : ∀ b o, D b o → b < w'.heap.size := fun b o h => Nat.lt_of_lt_of_le (hD b o h) hb.size
  rcases hrow.2 with ⟨rfl, h0⟩ | ⟨g, cap', cur, rfl, hg, hgb, hle, _, hsz, htk⟩
  · obtain rfl : zs = [] := List.length_eq_zero_iff.1 h0
    exact ⟨_, rfl, hb, D, fun _ _ h => h, keepD, fun _ _ h _ => h, _, rfl, RL.of_pl (PL.co .nils (.nils .int))⟩
  · have hc : ∀ i, i < zs.length → w'.cell? ⟨g, i, none⟩ = some (.int .i64 (zs.getD i 0)) := fun i hi => by
      have h1 := hrow.cells (g := g) rfl i (.int .i64 (zs.getD i 0)) (by simp [hi])
      simpa [addr_add] using h1
    have hgl : g < w'.heap.size := (Array.getElem?_eq_some_iff.1 hgb).1
    refine ⟨_, rfl, hb, fun b o => D b o ∨ (b = g ∧ o < zs.length), fun _ _ h => .inl h, fun b o h => h.elim (keepD b o) (fun h => by omega), fun b o h hlt => h.elim id (fun h => by omega), _, rfl, RL.of_pl ?_⟩
    refine PL.list .int zs (some ⟨g, 0, none⟩) cap' hle (fun i _ => .int .i64 (zs.getD i 0)) (fun i j hi hj => ?_) (fun i j hi hj => ?_)
    · obtain rfl : j = 0 := by have : Kd.int.sz = 1 := rfl; omega
      exact ⟨g, 0, rfl, .inr ⟨rfl, by show 0 + i * 1 + 0 < _; omega⟩, by show w'.cell? ⟨g, 0 + i * 1 + 0, none⟩ = _; rw [show 0 + i * 1 + 0 = i by omega]; exact hc i hi⟩
    · obtain rfl : j = 0 := by have : Kd.int.sz = 1 := rfl; omega
      exact .int .i64 _
end Go.Proofs.YtihhgenbkiollaaGreat

/- slices.Clone. No condition. -/
namespace Go.Proofs.YtihhgenbkiollaaGreat
open Go Go.Proofs
set_option maxRecDepth 100000
theorem n72 : (Tryz.f72.name == "runtime.NumGoroutine") = false := by kernel_rfl
def ra72 {α : Type} : FuncId → Nat → Option (Run (List α)) := fun g b => cond (Nat.beq g 72 && Nat.beq b 2) (some (nilRun 0 3 4)) none
def F72 (x0 : List Int) : Option (List Int) := cloneF x0
theorem e72 (x0 : List Int) : evalFn (cfgR (R := List Int) [] [] [] [(72, Tryz.f72)] (fun _ _ => none) ra72) 8 72 [Ty.enc (.l .int) x0] (RT.dec (.own .int)) = F72 x0 := by
  cases x0 with
  | nil => kernel_rfl
  | cons y ys => kernel_rfl
theorem h72 {α : Type} : HandAll Tryz.f72.ntmps (ra72 (α := α)) 72 (handsOf Tryz.f72) :=
  And.intro (fun run h => nomatch (show (none : Option (Run (List α))) = some run from h)) (And.intro (fun run h => by
    have e : nilRun 0 3 4 = run := Option.some.inj (show some (nilRun 0 3 4) = some run from h)
    rw [← e]; exact nilRun_ok Tryz.underlying25 rfl rfl rfl rfl rfl rfl (by decide) (by decide))
    (And.intro (fun run h => nomatch (show (none : Option (Run (List α))) = some run from h)) (And.intro (fun run h => nomatch (show (none : Option (Run (List α))) = some run from h)) trivial)))
@[reducible] def k72 : Ctr := ⟨[.l .int], .own .int, F72⟩
theorem c72 : Enters Tryz.prog 72 ∧ Ctr.Ok Tryz.prog 72 k72 :=
  ⟨enters Tryz.func72 n72 rfl, fun x0 y h => valid_of_evalR (ρ := .own .int) .nil .nil .nil (.cons Tryz.func72 n72 .nil) (.none fun _ _ _ h => by cases h) (handIn h72) ((e72 x0).trans h)⟩
theorem n211 : (Tryz.f211.name == "runtime.NumGoroutine") = false := by kernel_rfl
def ra211 {α : Type} : FuncId → Nat → Option (Run (List α)) := fun g b => cond (Nat.beq g 211 && Nat.beq b 2) (some (nilRun 0 3 4)) none
def F211 (x0 : List Ent) : Option (List Ent) := cloneF x0
theorem e211 (x0 : List Ent) : evalFn (cfgR (R := List Ent) [] [] [] [(211, Tryz.f211)] (fun _ _ => none) ra211) 8 211 [Ty.enc (.l .ent) x0] (RT.dec (.own .ent)) = F211 x0 := by
  cases x0 with
  | nil => kernel_rfl
  | cons y ys => kernel_rfl
theorem h211 {α : Type} : HandAll Tryz.f211.ntmps (ra211 (α := α)) 211 (handsOf Tryz.f211) :=
  And.intro (fun run h => nomatch (show (none : Option (Run (List α))) = some run from h)) (And.intro (fun run h => by
    have e : nilRun 0 3 4 = run := Option.some.inj (show some (nilRun 0 3 4) = some run from h)
    rw [← e]; exact nilRun_ok Tryz.underlying54 rfl rfl rfl rfl rfl rfl (by decide) (by decide))
    (And.intro (fun run h => nomatch (show (none : Option (Run (List α))) = some run from h)) (And.intro (fun run h => nomatch (show (none : Option (Run (List α))) = some run from h)) trivial)))
@[reducible] def k211 : Ctr := ⟨[.l .ent], .own .ent, F211⟩
theorem c211 : Enters Tryz.prog 211 ∧ Ctr.Ok Tryz.prog 211 k211 :=
  ⟨enters Tryz.func211 n211 rfl, fun x0 y h => valid_of_evalR (ρ := .own .ent) .nil .nil .nil (.cons Tryz.func211 n211 .nil) (.none fun _ _ _ h => by cases h) (handIn h211) ((e211 x0).trans h)⟩
theorem n260 : (Tryz.f260.name == "runtime.NumGoroutine") = false := by kernel_rfl
def ra260 {α : Type} : FuncId → Nat → Option (Run (List α)) := fun g b => cond (Nat.beq g 260 && Nat.beq b 2) (some (nilRun 0 3 4)) none
def F260 (x0 : List (List Ent)) : Option (List (List Ent)) := cloneF x0
theorem e260 (x0 : List (List Ent)) : evalFn (cfgR (R := List (List Ent)) [] [] [] [(260, Tryz.f260)] (fun _ _ => none) ra260) 8 260 [Ty.enc (.l .box) x0] (RT.dec (.own .box)) = F260 x0 := by
  cases x0 with
  | nil => kernel_rfl
  | cons y ys => kernel_rfl
theorem h260 {α : Type} : HandAll Tryz.f260.ntmps (ra260 (α := α)) 260 (handsOf Tryz.f260) :=
  And.intro (fun run h => nomatch (show (none : Option (Run (List α))) = some run from h)) (And.intro (fun run h => by
    have e : nilRun 0 3 4 = run := Option.some.inj (show some (nilRun 0 3 4) = some run from h)
    rw [← e]; exact nilRun_ok Tryz.underlying29 rfl rfl rfl rfl rfl rfl (by decide) (by decide))
    (And.intro (fun run h => nomatch (show (none : Option (Run (List α))) = some run from h)) (And.intro (fun run h => nomatch (show (none : Option (Run (List α))) = some run from h)) trivial)))
@[reducible] def k260 : Ctr := ⟨[.l .box], .own .box, F260⟩
theorem c260 : Enters Tryz.prog 260 ∧ Ctr.Ok Tryz.prog 260 k260 :=
  ⟨enters Tryz.func260 n260 rfl, fun x0 y h => valid_of_evalR (ρ := .own .box) .nil .nil .nil (.cons Tryz.func260 n260 .nil) (.none fun _ _ _ h => by cases h) (handIn h260) ((e260 x0).trans h)⟩
theorem n121 : (Tryz.f121.name == "runtime.NumGoroutine") = false := by kernel_rfl
def ra121 {α : Type} : FuncId → Nat → Option (Run (List α)) := fun g b => cond (Nat.beq g 121 && Nat.beq b 2) (some (nilRun 0 3 4)) none
def F121 (x0 : List Thr) : Option (List Thr) := cloneF x0
theorem e121 (x0 : List Thr) : evalFn (cfgR (R := List Thr) [] [] [] [(121, Tryz.f121)] (fun _ _ => none) ra121) 8 121 [Ty.enc (.l .thr) x0] (RT.dec (.own .thr)) = F121 x0 := by
  cases x0 with
  | nil => kernel_rfl
  | cons y ys => kernel_rfl
theorem h121 {α : Type} : HandAll Tryz.f121.ntmps (ra121 (α := α)) 121 (handsOf Tryz.f121) :=
  And.intro (fun run h => nomatch (show (none : Option (Run (List α))) = some run from h)) (And.intro (fun run h => by
    have e : nilRun 0 3 4 = run := Option.some.inj (show some (nilRun 0 3 4) = some run from h)
    rw [← e]; exact nilRun_ok Tryz.underlying32 rfl rfl rfl rfl rfl rfl (by decide) (by decide))
    (And.intro (fun run h => nomatch (show (none : Option (Run (List α))) = some run from h)) (And.intro (fun run h => nomatch (show (none : Option (Run (List α))) = some run from h)) trivial)))
@[reducible] def k121 : Ctr := ⟨[.l .thr], .own .thr, F121⟩
theorem c121 : Enters Tryz.prog 121 ∧ Ctr.Ok Tryz.prog 121 k121 :=
  ⟨enters Tryz.func121 n121 rfl, fun x0 y h => valid_of_evalR (ρ := .own .thr) .nil .nil .nil (.cons Tryz.func121 n121 .nil) (.none fun _ _ _ h => by cases h) (handIn h121) ((e121 x0).trans h)⟩
theorem n122 : (Tryz.f122.name == "runtime.NumGoroutine") = false := by kernel_rfl
def ra122 {α : Type} : FuncId → Nat → Option (Run (List α)) := fun g b => cond (Nat.beq g 122 && Nat.beq b 2) (some (nilRun 0 3 4)) none
def F122 (x0 : List Mark) : Option (List Mark) := cloneF x0
theorem e122 (x0 : List Mark) : evalFn (cfgR (R := List Mark) [] [] [] [(122, Tryz.f122)] (fun _ _ => none) ra122) 8 122 [Ty.enc (.l .mark) x0] (RT.dec (.own .mark)) = F122 x0 := by
  cases x0 with
  | nil => kernel_rfl
  | cons y ys => kernel_rfl
theorem h122 {α : Type} : HandAll Tryz.f122.ntmps (ra122 (α := α)) 122 (handsOf Tryz.f122) :=
  And.intro (fun run h => nomatch (show (none : Option (Run (List α))) = some run from h)) (And.intro (fun run h => by
    have e : nilRun 0 3 4 = run := Option.some.inj (show some (nilRun 0 3 4) = some run from h)
    rw [← e]; exact nilRun_ok Tryz.underlying35 rfl rfl rfl rfl rfl rfl (by decide) (by decide))
    (And.intro (fun run h => nomatch (show (none : Option (Run (List α))) = some run from h)) (And.intro (fun run h => nomatch (show (none : Option (Run (List α))) = some run from h)) trivial)))
@[reducible] def k122 : Ctr := ⟨[.l .mark], .own .mark, F122⟩
theorem c122 : Enters Tryz.prog 122 ∧ Ctr.Ok Tryz.prog 122 k122 :=
  ⟨enters Tryz.func122 n122 rfl, fun x0 y h => valid_of_evalR (ρ := .own .mark) .nil .nil .nil (.cons Tryz.func122 n122 .nil) (.none fun _ _ _ h => by cases h) (handIn h122) ((e122 x0).trans h)⟩
theorem n123 : (Tryz.f123.name == "runtime.NumGoroutine") = false := by kernel_rfl
def ra123 {α : Type} : FuncId → Nat → Option (Run (List α)) := fun g b => cond (Nat.beq g 123 && Nat.beq b 2) (some (nilRun 0 3 4)) none
def F123 (x0 : List Evt) : Option (List Evt) := cloneF x0
theorem e123 (x0 : List Evt) : evalFn (cfgR (R := List Evt) [] [] [] [(123, Tryz.f123)] (fun _ _ => none) ra123) 8 123 [Ty.enc (.l .evt) x0] (RT.dec (.own .evt)) = F123 x0 := by
  cases x0 with
  | nil => kernel_rfl
  | cons y ys => kernel_rfl
theorem h123 {α : Type} : HandAll Tryz.f123.ntmps (ra123 (α := α)) 123 (handsOf Tryz.f123) :=
  And.intro (fun run h => nomatch (show (none : Option (Run (List α))) = some run from h)) (And.intro (fun run h => by
    have e : nilRun 0 3 4 = run := Option.some.inj (show some (nilRun 0 3 4) = some run from h)
    rw [← e]; exact nilRun_ok Tryz.underlying36 rfl rfl rfl rfl rfl rfl (by decide) (by decide))
    (And.intro (fun run h => nomatch (show (none : Option (Run (List α))) = some run from h)) (And.intro (fun run h => nomatch (show (none : Option (Run (List α))) = some run from h)) trivial)))
@[reducible] def k123 : Ctr := ⟨[.l .evt], .own .evt, F123⟩
theorem c123 : Enters Tryz.prog 123 ∧ Ctr.Ok Tryz.prog 123 k123 :=
  ⟨enters Tryz.func123 n123 rfl, fun x0 y h => valid_of_evalR (ρ := .own .evt) .nil .nil .nil (.cons Tryz.func123 n123 .nil) (.none fun _ _ _ h => by cases h) (handIn h123) ((e123 x0).trans h)⟩
end Go.Proofs.YtihhgenbkiollaaGreat

/- slices.Grow, of nil. No condition. -/
namespace Go.Proofs.YtihhgenbkiollaaGreat
open Go Go.Proofs Go.RowKit Go.Shelf
set_option maxRecDepth 100000
theorem n274 : (Tryz.f274.name == "runtime.NumGoroutine") = false := by kernel_rfl
theorem n278 : (Tryz.f278.name == "runtime.NumGoroutine") = false := by kernel_rfl
def ren274 : Ren := ⟨fun _ => 274, fun t => match t with | 22 => 55 | 25 => 202 | t => t, fun x => x⟩
def ren278 : Ren := ⟨fun _ => 278, fun t => match t with | 22 => 54 | 25 => 160 | t => t, fun x => x⟩
theorem lays274 : Lays8.n4 Tryz.prog ren274 where
  mixed := mix_ok
  f4 := ⟨Tryz.f274.name, n274, by kernel_rfl⟩
  t0 := Tryz.underlying0
  a0 := Tryz.isAgg0
  z0 := Tryz.sizeOf0
  v0 := Tryz.zeroValue0
  t3 := Tryz.underlying3
  a3 := Tryz.isAgg3
  z3 := Tryz.sizeOf3
  v3 := Tryz.zeroValue3
  t4 := Tryz.underlying4
  a4 := Tryz.isAgg4
  z4 := Tryz.sizeOf4
  v4 := Tryz.zeroValue4
  t9 := Tryz.underlying9
  a9 := Tryz.isAgg9
  z9 := Tryz.sizeOf9
  v9 := Tryz.zeroValue9
  t20 := Tryz.underlying20
  a20 := Tryz.isAgg20
  z20 := Tryz.sizeOf20
  v20 := Tryz.zeroValue20
  t22 := Tryz.underlying55
  a22 := Tryz.isAgg55
  z22 := Tryz.sizeOf55
  v22 := Tryz.zeroValue55
theorem lays278 : Lays8.n4 Tryz.prog ren278 where
  mixed := mix_ok
  f4 := ⟨Tryz.f278.name, n278, by kernel_rfl⟩
  t0 := Tryz.underlying0
  a0 := Tryz.isAgg0
  z0 := Tryz.sizeOf0
  v0 := Tryz.zeroValue0
  t3 := Tryz.underlying3
  a3 := Tryz.isAgg3
  z3 := Tryz.sizeOf3
  v3 := Tryz.zeroValue3
  t4 := Tryz.underlying4
  a4 := Tryz.isAgg4
  z4 := Tryz.sizeOf4
  v4 := Tryz.zeroValue4
  t9 := Tryz.underlying9
  a9 := Tryz.isAgg9
  z9 := Tryz.sizeOf9
  v9 := Tryz.zeroValue9
  t20 := Tryz.underlying20
  a20 := Tryz.isAgg20
  z20 := Tryz.sizeOf20
  v20 := Tryz.zeroValue20
  t22 := Tryz.underlying54
  a22 := Tryz.isAgg54
  z22 := Tryz.sizeOf54
  v22 := Tryz.zeroValue54
theorem zeroCells_size (z : Array Value) (n : Nat) : (Builtin.zeroCells z n).size = n * z.size := by simp [Builtin.zeroCells]
theorem grow_ok {ρ : Ren} (L : Lays8.n4 Tryz.prog ρ) {k : Kd} {i0 : TypeInfo} {z : Value} (hi0 : Tryz.prog.info? (ρ.t 25) = some i0) (hz0 : i0.zero = some z) (hs0 : i0.size = k.sz) (hz : z.cells.size = k.sz) (hb : i0.bytes ≤ 64) (n : Nat) (hn : n < 1099511627776) :
    Valid Tryz.prog (ρ.f 4) [⟨false, [.nils]⟩, ⟨false, [li (n : Int)]⟩] (.arr k []) := by
  intro w D vs hD hvs
  match vs, hvs with
  | [v1, v2], ⟨⟨l1, e1, h1⟩, ⟨l2, e2, h2⟩, _⟩ =>
    cases e1; cases e2
    have := h1.nils; subst this
    have := h2.int; subst this
    by_cases h0 : n = 0
    · subst h0
      refine (Any8.slices_Grow_room L none 0 0 0 w (Nat.le_refl _) (by omega) (by omega) (by omega)).mono fun e w' => ?_
      rintro ⟨rfl, rfl⟩
      exact ⟨_, rfl, Below.refl _ _, D, fun _ _ h => h, hD, fun _ _ h _ => h, none, 0, rfl, (fun _ h => by cases h), rfl, Nat.le_refl _, .inl ⟨rfl, rfl⟩⟩
    · have hbig : (0 + n) * i0.bytes ≤ 140737488355328 := by
        have : (0 + n) * i0.bytes ≤ (0 + n) * 64 := Nat.mul_le_mul_left _ hb
        omega
      refine (Any8.slices_Grow_grow L i0 z hi0 hz0 (by rw [hs0]; exact k.sz_pos) none 0 0 n [] w (Nat.le_refl _) (by omega) hbig (by omega) (by simp) (fun _ => rfl) (fun a h => by cases h)).mono fun e w' => ?_
      rintro ⟨rfl, rfl⟩
      have hG := grownCap_ge w (0 + n) 0 (ρ.t 25)
      have hsz : (w.drew.alloc (.cells (([] : List Value).toArray ++ Builtin.zeroCells z.cells (0 + n - 0) ++ Builtin.zeroCells z.cells (grownCap w (0 + n) 0 (ρ.t 25) - (0 + n))) (ρ.t 25))).heap.size = w.heap.size + 1 := by
        show (w.heap.push _).size = _
        exact Array.size_push ..
      refine ⟨_, rfl, ((Below.refl _ w).drew).alloc (Nat.le_refl _) _, D, fun _ _ h => h, fun b o h => ?_, fun _ _ h _ => h, some w.heap.size, _, rfl, fun blk h => ?_, rfl, Nat.zero_le _, .inr ⟨w.heap.size, (([] : List Value).toArray ++ Builtin.zeroCells z.cells (0 + n - 0) ++ Builtin.zeroCells z.cells (grownCap w (0 + n) 0 (ρ.t 25) - (0 + n))), ρ.t 25, rfl, ?_, ?_, fun i j hi => absurd hi (by simp), fun _ o h => ?_, fun h => by cases h⟩⟩
      · rw [hsz]; have := hD b o h; omega
      · cases h; rw [hsz]; omega
      · show (w.heap.push _)[w.heap.size]? = _
        exact Array.getElem?_push_size
      · simp only [Array.size_append, zeroCells_size, hz]
        simp only [List.size_toArray, List.length_nil, Nat.zero_add, Nat.sub_zero, ← Nat.add_mul]
        congr 1
        have : n ≤ grownCap w (0 + n) 0 (ρ.t 25) := by simpa using hG
        simp at this ⊢; omega
      · have := hD _ o h; omega
def growF {α : Type} (n : Int) : Option (List α) := cond (decide (0 ≤ n) && decide (n < 1099511627776)) (some []) none
def F274 (_ : Unit) (x1 : Int) : Option (List Kid) := growF x1
@[reducible] def k274 : Ctr := ⟨[.nils, .d .int], .own .kid, F274⟩
theorem c274 : Enters Tryz.prog 274 ∧ Ctr.Ok Tryz.prog 274 k274 := by
  refine ⟨enters Tryz.func274 n274 rfl, fun x0 x1 y h => ?_⟩
  obtain ⟨hc, h⟩ := cond_some (show cond _ (some ([] : List Kid)) none = some y from h)
  cases h
  simp only [Bool.and_eq_true, decide_eq_true_eq] at hc
  obtain ⟨n, rfl⟩ := Int.eq_ofNat_of_zero_le hc.1
  exact grow_ok (k := .kid) lays274 (show Tryz.prog.info? 202 = some Tryz.t202 by kernel_rfl) rfl rfl rfl (by decide) n (by omega)
def F278 (_ : Unit) (x1 : Int) : Option (List Ent) := growF x1
@[reducible] def k278 : Ctr := ⟨[.nils, .d .int], .own .ent, F278⟩
theorem c278 : Enters Tryz.prog 278 ∧ Ctr.Ok Tryz.prog 278 k278 := by
  refine ⟨enters Tryz.func278 n278 rfl, fun x0 x1 y h => ?_⟩
  obtain ⟨hc, h⟩ := cond_some (show cond _ (some ([] : List Ent)) none = some y from h)
  cases h
  simp only [Bool.and_eq_true, decide_eq_true_eq] at hc
  obtain ⟨n, rfl⟩ := Int.eq_ofNat_of_zero_le hc.1
  exact grow_ok (k := .ent) lays278 (show Tryz.prog.info? 160 = some Tryz.t160 by kernel_rfl) rfl rfl rfl (by decide) n (by omega)
end Go.Proofs.YtihhgenbkiollaaGreat

/- The functions of the program, part gc: what they answer. No condition. -/
namespace Go.Proofs.YtihhgenbkiollaaGreat
open Go Go.Proofs
set_option maxRecDepth 100000
theorem n30 : (Tryz.f30.name == "runtime.NumGoroutine") = false := by kernel_rfl
/- millstreamlaw16.big -/
def S30_0 (v : Bool × Int × Turn × Unit) : Option ((Bool × Int × Turn × Unit) ⊕ (Bool × Bool × Int × Turn × Unit)) := match v with
  | (v0, v1, v2, ()) =>
  bif decide (v1 < (v2.m.boxes.length : Int)) then
    bif decide (v1 < 20) then
      bif decide (0 ≤ v1) && decide (v1 < (v2.m.boxes.length : Int)) then
        bif decide (((List.length (v2.m.boxes.getD v1.toNat Kd.box.dflt)) : Int) > 20) then
          some (Sum.inr (true, true, v1, v2, ()))
        else
          some (Sum.inl (v0, IntKind.i64.wrap (v1 + 1), v2, ()))
      else
        none
    else
      some (Sum.inr (false, v0, v1, v2, ()))
  else
    some (Sum.inr (false, v0, v1, v2, ()))
def X30_0 : Bool × Int × Turn × Unit → Option (Bool × Bool × Int × Turn × Unit) := loopF S30_0 bigN
def a30_0 {R : Type} : Ann R := annOf [.sv 2 (.d .bool), .sv 3 (.d .int), .bv 0 .turn []] [.s 1 ⟨false, [.ptr (.box 0 0)]⟩] 1000 X30_0 (fun k e => cond e.1 (k (.ret) e.2) (k (.exit 0) e.2))
theorem r30_0 {R : Type} : RunOk Tryz.prog Tryz.f30.ntmps (.loop (bodyAt Tryz.f30 0)) (evalAnn (a30_0 (R := R))) :=
  loop_ok (cs := [.sv 2 (.d .bool), .sv 3 (.d .int), .bv 0 .turn []]) (fs := [.s 1 ⟨false, [.ptr (.box 0 0)]⟩]) (nx := 1000) (S := S30_0) (X := X30_0) rfl (kx := fun k e => cond e.1 (k (.ret) e.2) (k (.exit 0) e.2)) (run_of_eval (R := R) (cs := []) (fs := []) (ds := []) (fns := []) (la := fun _ _ => none) .nil .nil .nil .nil (.none fun _ _ _ h => by cases h) 8 _ 30 (bodyAt Tryz.f30 0) 0 (dstB (by kernel_rfl)) (fun _ _ _ h => by cases h)) fun rec k v => by
    obtain ⟨v0, v1, v2, ⟨⟩⟩ := v; symm; (conv => lhs; simp only [S30_0, need_cond, need_obind, need_val, need_none, onOut_inl, onOut_inr])
    kernel_rfl
def F30 (x0 : Turn) : Option Bool :=
  (X30_0 (false, 0, x0, ())).bind fun y2 =>
    bif y2.fst then
      some (y2.2.1)
    else
      bif decide ((y2.2.2.2.1.m.words.length : Int) > 400) then
        some (true)
      else
        bif decide ((y2.2.2.2.1.m.boxes.length : Int) > 16) then
          some (true)
        else
          bif decide ((y2.2.2.2.1.th.batch.length : Int) > 20) then
            some (true)
          else
            bif decide ((y2.2.2.2.1.th.kids.length : Int) > 20) then
              some (true)
            else
              bif decide ((y2.2.2.2.1.th.held.length : Int) > 20) then
                some (true)
              else
                bif decide ((y2.2.2.2.1.tape.l.length : Int) > 100) then
                  some (true)
                else
                  some (decide ((y2.2.2.2.1.log.length : Int) > 50))
def la30 {R : Type} : FuncId → Nat → Option (LAnn R) := fun g b => cond (Nat.beq g 30) (cond (Nat.beq b 0) (some (.ann a30_0)) none) none
theorem e30 (x0 : Turn) : evalFn (cfg (R := Bool) [] [] [] [(30, Tryz.f30)] (la30)) 8 30 [Ty.enc (.d .turn) x0] (RT.dec (.one (.d .bool))) = F30 x0 := by kernel_rfl
@[reducible] def k30 : Ctr := ⟨[.d .turn], .one (.d .bool), F30⟩
theorem c30 : Enters Tryz.prog 30 ∧ Ctr.Ok Tryz.prog 30 k30 :=
  ⟨enters Tryz.func30 n30 rfl, fun x0 y h => valid_of_eval (ρ := .one (.d .bool)) (la := la30) .nil .nil .nil (.cons Tryz.func30 n30 .nil) (.cons (ls := [(0, bodyAt Tryz.f30 0)]) (by kernel_rfl) ⟨(fun a ha => by have e := annEq ha (show (la30) 30 0 = some (LAnn.ann a30_0) from rfl); subst e; exact r30_0), trivial⟩ .nil) ((e30 x0).trans h)⟩
theorem n22 : (Tryz.f22.name == "runtime.NumGoroutine") = false := by kernel_rfl
/- millstreamref06.Nodes -/
def S22_0 (v : Int × Int × Cfg × Unit) : Option ((Int × Int × Cfg × Unit) ⊕ (Int × Int × Cfg × Unit)) := match v with
  | (v0, v1, v2, ()) =>
  bif decide (v1 < v2.depth) then
    some (Sum.inl (IntKind.i64.wrap (2 * v0), IntKind.i64.wrap (v1 + 1), v2, ()))
  else
    some (Sum.inr (v0, v1, v2, ()))
def X22_0 : Int × Int × Cfg × Unit → Option (Int × Int × Cfg × Unit) := loopF S22_0 bigN
def a22_0 {R : Type} : Ann R := annOf [.sv 3 (.d .int), .sv 4 (.d .int), .bv 0 .cfg []] [.s 1 ⟨false, [.ptr (.box 0 0)]⟩] 1000 X22_0 (fun k e => k (.exit 0) e)
theorem r22_0 {R : Type} : RunOk Tryz.prog Tryz.f22.ntmps (.loop (bodyAt Tryz.f22 0)) (evalAnn (a22_0 (R := R))) :=
  loop_ok (cs := [.sv 3 (.d .int), .sv 4 (.d .int), .bv 0 .cfg []]) (fs := [.s 1 ⟨false, [.ptr (.box 0 0)]⟩]) (nx := 1000) (S := S22_0) (X := X22_0) rfl (kx := fun k e => k (.exit 0) e) (run_of_eval (R := R) (cs := []) (fs := []) (ds := []) (fns := []) (la := fun _ _ => none) .nil .nil .nil .nil (.none fun _ _ _ h => by cases h) 8 _ 22 (bodyAt Tryz.f22 0) 0 (dstB (by kernel_rfl)) (fun _ _ _ h => by cases h)) fun rec k v => by
    obtain ⟨v0, v1, v2, ⟨⟩⟩ := v; symm; (conv => lhs; simp only [S22_0, need_cond, need_obind, need_val, need_none, onOut_inl, onOut_inr])
    kernel_rfl
def F22 (x0 : Cfg) : Option Int :=
  (X22_0 (1, 0, x0, ())).bind fun y2 =>
    some (IntKind.i64.wrap (y2.1 - 1))
def la22 {R : Type} : FuncId → Nat → Option (LAnn R) := fun g b => cond (Nat.beq g 22) (cond (Nat.beq b 0) (some (.ann a22_0)) none) none
theorem e22 (x0 : Cfg) : evalFn (cfg (R := Int) [] [] [] [(22, Tryz.f22)] (la22)) 8 22 [Ty.enc (.d .cfg) x0] (RT.dec (.one (.d .int))) = F22 x0 := by kernel_rfl
@[reducible] def k22 : Ctr := ⟨[.d .cfg], .one (.d .int), F22⟩
theorem c22 : Enters Tryz.prog 22 ∧ Ctr.Ok Tryz.prog 22 k22 :=
  ⟨enters Tryz.func22 n22 rfl, fun x0 y h => valid_of_eval (ρ := .one (.d .int)) (la := la22) .nil .nil .nil (.cons Tryz.func22 n22 .nil) (.cons (ls := [(0, bodyAt Tryz.f22 0)]) (by kernel_rfl) ⟨(fun a ha => by have e := annEq ha (show (la22) 22 0 = some (LAnn.ann a22_0) from rfl); subst e; exact r22_0), trivial⟩ .nil) ((e22 x0).trans h)⟩
theorem n68 : (Tryz.f68.name == "runtime.NumGoroutine") = false := by kernel_rfl
/- millstreamref06.block -/
def F68 (x0 : Cfg) : Option Int :=
  (F22 x0).bind fun y2 =>
    some (IntKind.i64.wrap (IntKind.i64.wrap (1 + y2) + IntKind.i64.wrap (x0.layers * x0.width)))
theorem e68 (x0 : Cfg) : evalFn (cfg (R := Int) [(22, k22)] [] [] [(68, Tryz.f68)] (fun _ _ => none)) 8 68 [Ty.enc (.d .cfg) x0] (RT.dec (.one (.d .int))) = F68 x0 := by kernel_rfl
@[reducible] def k68 : Ctr := ⟨[.d .cfg], .one (.d .int), F68⟩
theorem c68 : Enters Tryz.prog 68 ∧ Ctr.Ok Tryz.prog 68 k68 :=
  ⟨enters Tryz.func68 n68 rfl, fun x0 y h => valid_of_eval (ρ := .one (.d .int)) (.cons c22 .nil) .nil .nil (.cons Tryz.func68 n68 .nil) (.none fun _ _ _ h => by cases h) ((e68 x0).trans h)⟩
theorem n21 : (Tryz.f21.name == "runtime.NumGoroutine") = false := by kernel_rfl
/- millstreamref06.Size -/
def F21 (x0 : Cfg) : Option Int :=
  (F68 x0).bind fun y2 =>
    some (IntKind.i64.wrap (IntKind.i64.wrap (x0.items * y2) + IntKind.i64.wrap (2 * x0.threads)))
theorem e21 (x0 : Cfg) : evalFn (cfg (R := Int) [(68, k68)] [] [] [(21, Tryz.f21)] (fun _ _ => none)) 8 21 [Ty.enc (.d .cfg) x0] (RT.dec (.one (.d .int))) = F21 x0 := by kernel_rfl
@[reducible] def k21 : Ctr := ⟨[.d .cfg], .one (.d .int), F21⟩
theorem c21 : Enters Tryz.prog 21 ∧ Ctr.Ok Tryz.prog 21 k21 :=
  ⟨enters Tryz.func21 n21 rfl, fun x0 y h => valid_of_eval (ρ := .one (.d .int)) (.cons c68 .nil) .nil .nil (.cons Tryz.func21 n21 .nil) (.none fun _ _ _ h => by cases h) ((e21 x0).trans h)⟩
theorem n37 : (Tryz.f37.name == "runtime.NumGoroutine") = false := by kernel_rfl
/- millstreamref05.Check -/
def F37 (x0 : Cfg) : Option Int :=
  bif decide (x0.threads < 1) then
    some (50)
  else
    bif decide (x0.threads > 16) then
      some (50)
    else
      bif decide (x0.items < 1) then
        some (51)
      else
        bif decide (x0.items > 4) then
          some (51)
        else
          bif decide (x0.backend < 1) then
            some (52)
          else
            bif decide (x0.backend > 3) then
              some (52)
            else
              bif decide (x0.depth < 0) then
                some (53)
              else
                bif decide (x0.depth > 4) then
                  some (53)
                else
                  bif decide (x0.layers < 0) then
                    some (54)
                  else
                    bif decide (x0.layers > 3) then
                      some (54)
                    else
                      bif decide (x0.width < 1) then
                        some (55)
                      else
                        bif decide (x0.width > 8) then
                          some (55)
                        else
                          bif decide (x0.spin < 0) then
                            some (56)
                          else
                            bif decide (x0.spin > 20) then
                              some (56)
                            else
                              bif decide (x0.wait < 0) then
                                some (57)
                              else
                                bif decide (x0.wait > 1000) then
                                  some (57)
                                else
                                  bif x0.bounded then
                                    bif decide (x0.lo > x0.init) then
                                      some (58)
                                    else
                                      bif decide (x0.init > x0.hi) then
                                        some (58)
                                      else
                                        some (0)
                                  else
                                    some (0)
theorem e37 (x0 : Cfg) : evalFn (cfg (R := Int) [] [] [] [(37, Tryz.f37)] (fun _ _ => none)) 8 37 [Ty.enc (.d .cfg) x0] (RT.dec (.one (.d .int))) = F37 x0 := by kernel_rfl
@[reducible] def k37 : Ctr := ⟨[.d .cfg], .one (.d .int), F37⟩
theorem c37 : Enters Tryz.prog 37 ∧ Ctr.Ok Tryz.prog 37 k37 :=
  ⟨enters Tryz.func37 n37 rfl, fun x0 y h => valid_of_eval (ρ := .one (.d .int)) .nil .nil .nil (.cons Tryz.func37 n37 .nil) (.none fun _ _ _ h => by cases h) ((e37 x0).trans h)⟩
theorem n31 : (Tryz.f31.name == "runtime.NumGoroutine") = false := by kernel_rfl
/- millstreamlaw16.may -/
def F31 (x0 : Turn) : Option Bool :=
  (F37 x0.c).bind fun y2 =>
    bif y2 == 0 then
      bif decide (x0.t ≥ 0) then
        bif decide (x0.t < x0.c.threads) then
          (F21 x0.c).bind fun y3 =>
            bif (x0.m.words.length : Int) == y3 then
              bif (x0.m.boxes.length : Int) == x0.c.threads then
                bif decide (x0.th.item ≥ 0) then
                  some (decide (x0.th.item < x0.c.items))
                else
                  some (false)
              else
                some (false)
            else
              some (false)
        else
          some (false)
      else
        some (false)
    else
      some (false)
theorem e31 (x0 : Turn) : evalFn (cfg (R := Bool) [(21, k21), (37, k37)] [] [] [(31, Tryz.f31)] (fun _ _ => none)) 8 31 [Ty.enc (.d .turn) x0] (RT.dec (.one (.d .bool))) = F31 x0 := by kernel_rfl
@[reducible] def k31 : Ctr := ⟨[.d .turn], .one (.d .bool), F31⟩
theorem c31 : Enters Tryz.prog 31 ∧ Ctr.Ok Tryz.prog 31 k31 :=
  ⟨enters Tryz.func31 n31 rfl, fun x0 y h => valid_of_eval (ρ := .one (.d .bool)) (.cons c21 (.cons c37 .nil)) .nil .nil (.cons Tryz.func31 n31 .nil) (.none fun _ _ _ h => by cases h) ((e31 x0).trans h)⟩
theorem n26 : (Tryz.f26.name == "runtime.NumGoroutine") = false := by kernel_rfl
/- thread.Busy -/
def F26 (x0 : Thr) : Option Bool :=
  some (x0.phase != 0)
theorem e26 (x0 : Thr) : evalFn (cfg (R := Bool) [] [] [] [(26, Tryz.f26)] (fun _ _ => none)) 8 26 [Ty.enc (.d .thr) x0] (RT.dec (.one (.d .bool))) = F26 x0 := by kernel_rfl
@[reducible] def k26 : Ctr := ⟨[.d .thr], .one (.d .bool), F26⟩
theorem c26 : Enters Tryz.prog 26 ∧ Ctr.Ok Tryz.prog 26 k26 :=
  ⟨enters Tryz.func26 n26 rfl, fun x0 y h => valid_of_eval (ρ := .one (.d .bool)) .nil .nil .nil (.cons Tryz.func26 n26 .nil) (.none fun _ _ _ h => by cases h) ((e26 x0).trans h)⟩
theorem n75 : (Tryz.f75.name == "runtime.NumGoroutine") = false := by kernel_rfl
/- machine.Start -/
def F75 (x0 : Turn) : Option Turn :=
  bif x0.c.backend == 2 then
    bif decide (x0.c.depth > 0) then
      some ({ x0 with th := { x0.th with phase := 4 } })
    else
      bif x0.c.backend == 3 then
        bif decide (x0.c.layers > 0) then
          some ({ x0 with th := { x0.th with phase := 17, layer := 1 } })
        else
          some ({ x0 with th := { x0.th with phase := 2 } })
      else
        some ({ x0 with th := { x0.th with phase := 2 } })
  else
    bif x0.c.backend == 3 then
      bif decide (x0.c.layers > 0) then
        some ({ x0 with th := { x0.th with phase := 17, layer := 1 } })
      else
        some ({ x0 with th := { x0.th with phase := 2 } })
    else
      some ({ x0 with th := { x0.th with phase := 2 } })
theorem e75 (x0 : Turn) : evalFn (cfg (R := Turn) [] [] [] [(75, Tryz.f75)] (fun _ _ => none)) 8 75 [Ty.enc (.d .turn) x0] (RT.dec (.one (.d .turn))) = F75 x0 := by kernel_rfl
@[reducible] def k75 : Ctr := ⟨[.d .turn], .one (.d .turn), F75⟩
theorem c75 : Enters Tryz.prog 75 ∧ Ctr.Ok Tryz.prog 75 k75 :=
  ⟨enters Tryz.func75 n75 rfl, fun x0 y h => valid_of_eval (ρ := .one (.d .turn)) .nil .nil .nil (.cons Tryz.func75 n75 .nil) (.none fun _ _ _ h => by cases h) ((e75 x0).trans h)⟩
theorem n155 : (Tryz.f155.name == "runtime.NumGoroutine") = false := by kernel_rfl
/- wmem.at[int] -/
def F155 (x0 : (List Int)) (x1 : Int) : Option (Int × Int) :=
  bif decide (x1 < 0) then
    some ((0, 30))
  else
    bif decide (x1 ≥ (x0.length : Int)) then
      some ((0, 30))
    else
      bif decide (0 ≤ x1) && decide (x1 < (x0.length : Int)) then
        some ((x0.getD x1.toNat Kd.int.dflt, 0))
      else
        none
theorem e155 (x0 : (List Int)) (x1 : Int) : evalFn (cfg (R := (Int × Int)) [] [] [] [(155, Tryz.f155)] (fun _ _ => none)) 8 155 [Ty.enc (.l .int) x0, Ty.enc (.d .int) x1] (RT.dec (.two (.d .int) (.d .int))) = F155 x0 x1 := by kernel_rfl
@[reducible] def k155 : Ctr := ⟨[.l .int, .d .int], .two (.d .int) (.d .int), F155⟩
theorem c155 : Enters Tryz.prog 155 ∧ Ctr.Ok Tryz.prog 155 k155 :=
  ⟨enters Tryz.func155 n155 rfl, fun x0 x1 y h => valid_of_eval (ρ := .two (.d .int) (.d .int)) .nil .nil .nil (.cons Tryz.func155 n155 .nil) (.none fun _ _ _ h => by cases h) ((e155 x0 x1).trans h)⟩
theorem n125 : (Tryz.f125.name == "runtime.NumGoroutine") = false := by kernel_rfl
theorem n171 : (Tryz.f171.name == "runtime.NumGoroutine") = false := by kernel_rfl
theorem n172 : (Tryz.f172.name == "runtime.NumGoroutine") = false := by kernel_rfl
/- wmem.Store -/
def F125 (x0 : Mem) (x1 : Int) (x2 : Int) : Option (Mem × Int) :=
  (F155 x0.words x1).bind fun y4 =>
    bif y4.snd != 0 then
      some ((x0, y4.snd))
    else
      (F72 x0.words).bind fun y5 =>
        bif decide (0 ≤ x1) && decide (x1 < (y5.length : Int)) then
          some (({ x0 with words := y5.set x1.toNat x2 }, y4.snd))
        else
          none
theorem e125 (x0 : Mem) (x1 : Int) (x2 : Int) : evalFn (cfg (R := (Mem × Int)) [(72, k72), (155, k155)] [] [] [(125, Tryz.f125), (171, Tryz.f171), (172, Tryz.f172)] (fun _ _ => none)) 8 125 [Ty.enc (.d .mem) x0, Ty.enc (.d .int) x1, Ty.enc (.d .int) x2] (RT.dec (.two (.d .mem) (.d .int))) = F125 x0 x1 x2 := by kernel_rfl
@[reducible] def k125 : Ctr := ⟨[.d .mem, .d .int, .d .int], .two (.d .mem) (.d .int), F125⟩
theorem c125 : Enters Tryz.prog 125 ∧ Ctr.Ok Tryz.prog 125 k125 :=
  ⟨enters Tryz.func125 n125 rfl, fun x0 x1 x2 y h => valid_of_eval (ρ := .two (.d .mem) (.d .int)) (.cons c72 (.cons c155 .nil)) .nil .nil (.cons Tryz.func125 n125 (.cons Tryz.func171 n171 (.cons Tryz.func172 n172 .nil))) (.none fun _ _ _ h => by cases h) ((e125 x0 x1 x2).trans h)⟩
theorem n183 : (Tryz.f183.name == "runtime.NumGoroutine") = false := by kernel_rfl
/- arena.Nodes -/
def F183 (x0 : Cfg) : Option Int :=
  bif decide (0 ≤ x0.depth) then
    some (IntKind.i64.wrap (IntKind.i64.wrap (1 * 2 ^ min x0.depth.toNat IntKind.i64.bits) - 1))
  else
    none
theorem e183 (x0 : Cfg) : evalFn (cfg (R := Int) [] [] [] [(183, Tryz.f183)] (fun _ _ => none)) 8 183 [Ty.enc (.d .cfg) x0] (RT.dec (.one (.d .int))) = F183 x0 := by kernel_rfl
@[reducible] def k183 : Ctr := ⟨[.d .cfg], .one (.d .int), F183⟩
theorem c183 : Enters Tryz.prog 183 ∧ Ctr.Ok Tryz.prog 183 k183 :=
  ⟨enters Tryz.func183 n183 rfl, fun x0 y h => valid_of_eval (ρ := .one (.d .int)) .nil .nil .nil (.cons Tryz.func183 n183 .nil) (.none fun _ _ _ h => by cases h) ((e183 x0).trans h)⟩
theorem n149 : (Tryz.f149.name == "runtime.NumGoroutine") = false := by kernel_rfl
/- arena.of -/
def F149 (x0 : Cfg) : Option (Int × Int × Int × Int) :=
  (F183 x0).bind fun y2 =>
    some ((1, IntKind.i64.wrap (1 + y2), IntKind.i64.wrap (IntKind.i64.wrap (1 + y2) + IntKind.i64.wrap (x0.layers * x0.width)), IntKind.i64.wrap (x0.items * IntKind.i64.wrap (IntKind.i64.wrap (1 + y2) + IntKind.i64.wrap (x0.layers * x0.width)))))
theorem e149 (x0 : Cfg) : evalFn (cfg (R := (Int × Int × Int × Int)) [(183, k183)] [] [] [(149, Tryz.f149)] (fun _ _ => none)) 8 149 [Ty.enc (.d .cfg) x0] (RT.dec (.one (.d .int4))) = F149 x0 := by kernel_rfl
@[reducible] def k149 : Ctr := ⟨[.d .cfg], .one (.d .int4), F149⟩
theorem c149 : Enters Tryz.prog 149 ∧ Ctr.Ok Tryz.prog 149 k149 :=
  ⟨enters Tryz.func149 n149 rfl, fun x0 y h => valid_of_eval (ρ := .one (.d .int4)) (.cons c183 .nil) .nil .nil (.cons Tryz.func149 n149 .nil) (.none fun _ _ _ h => by cases h) ((e149 x0).trans h)⟩
theorem n150 : (Tryz.f150.name == "runtime.NumGoroutine") = false := by kernel_rfl
theorem n184 : (Tryz.f184.name == "runtime.NumGoroutine") = false := by kernel_rfl
/- arena.within -/
def F150 (x0 : Int) (x1 : Int) (x2 : Int) (x3 : (Int × Cfg × Int)) : Option Int :=
  bif decide (x0 < x1) then
    some (-1)
  else
    bif decide (x0 ≥ x2) then
      some (-1)
    else
      (F149 ([x3.snd.fst].getD 0 Kd.cfg.dflt)).bind fun y5 =>
        some (IntKind.i64.wrap (IntKind.i64.wrap ([x3.fst].getD 0 Kd.int.dflt * y5.snd.snd.fst) + [x3.snd.snd].getD 0 Kd.int.dflt))
theorem e150 (x0 : Int) (x1 : Int) (x2 : Int) (x3 : (Int × Cfg × Int)) : evalFn (cfg (R := Int) [(149, k149)] [] [] [(150, Tryz.f150), (184, Tryz.f184)] (fun _ _ => none)) 8 150 [Ty.enc (.d .int) x0, Ty.enc (.d .int) x1, Ty.enc (.d .int) x2, Ty.enc (.clo 184 .int .cfg .int) x3] (RT.dec (.one (.d .int))) = F150 x0 x1 x2 x3 := by kernel_rfl
@[reducible] def k150 : Ctr := ⟨[.d .int, .d .int, .d .int, .clo 184 .int .cfg .int], .one (.d .int), F150⟩
theorem c150 : Enters Tryz.prog 150 ∧ Ctr.Ok Tryz.prog 150 k150 :=
  ⟨enters Tryz.func150 n150 rfl, fun x0 x1 x2 x3 y h => valid_of_eval (ρ := .one (.d .int)) (.cons c149 .nil) .nil .nil (.cons Tryz.func150 n150 (.cons Tryz.func184 n184 .nil)) (.none fun _ _ _ h => by cases h) ((e150 x0 x1 x2 x3).trans h)⟩
theorem n126 : (Tryz.f126.name == "runtime.NumGoroutine") = false := by kernel_rfl
theorem n173 : (Tryz.f173.name == "runtime.NumGoroutine") = false := by kernel_rfl
/- arena.Line -/
def F126 (x0 : Cfg) (x1 : Int) : Option Int :=
  bif decide (x1 < 0) then
    some (-1)
  else
    bif decide (x1 ≥ x0.threads) then
      some (-1)
    else
      (F149 x0).bind fun y3 =>
        some (IntKind.i64.wrap (y3.snd.snd.snd + IntKind.i64.wrap (2 * x1)))
theorem e126 (x0 : Cfg) (x1 : Int) : evalFn (cfg (R := Int) [(149, k149)] [(150, k150)] [] [(126, Tryz.f126), (150, Tryz.f150), (173, Tryz.f173), (184, Tryz.f184)] (fun _ _ => none)) 8 126 [Ty.enc (.d .cfg) x0, Ty.enc (.d .int) x1] (RT.dec (.one (.d .int))) = F126 x0 x1 := by kernel_rfl
@[reducible] def k126 : Ctr := ⟨[.d .cfg, .d .int], .one (.d .int), F126⟩
theorem c126 : Enters Tryz.prog 126 ∧ Ctr.Ok Tryz.prog 126 k126 :=
  ⟨enters Tryz.func126 n126 rfl, fun x0 x1 y h => valid_of_eval (ρ := .one (.d .int)) (.cons c149 .nil) (.cons c150 .nil) .nil (.cons Tryz.func126 n126 (.cons Tryz.func150 n150 (.cons Tryz.func173 n173 (.cons Tryz.func184 n184 .nil)))) (.none fun _ _ _ h => by cases h) ((e126 x0 x1).trans h)⟩
theorem n83 : (Tryz.f83.name == "runtime.NumGoroutine") = false := by kernel_rfl
/- machine.clear -/
def F83 (x0 : Turn) : Option (Turn × Bool) :=
  bif x0.th.phase != 1 then
    some ((x0, false))
  else
    (F126 x0.c x0.t).bind fun y2 =>
      (F125 x0.m y2 0).bind fun y3 =>
        bif y3.snd != 0 then
          some ((x0, true))
        else
          (F75 { x0 with m := y3.fst }).bind fun y4 =>
            some ((y4, true))
theorem e83 (x0 : Turn) : evalFn (cfg (R := (Turn × Bool)) [(75, k75), (125, k125), (126, k126)] [] [] [(83, Tryz.f83)] (fun _ _ => none)) 8 83 [Ty.enc (.d .turn) x0] (RT.dec (.two (.d .turn) (.d .bool))) = F83 x0 := by kernel_rfl
@[reducible] def k83 : Ctr := ⟨[.d .turn], .two (.d .turn) (.d .bool), F83⟩
theorem c83 : Enters Tryz.prog 83 ∧ Ctr.Ok Tryz.prog 83 k83 :=
  ⟨enters Tryz.func83 n83 rfl, fun x0 y h => valid_of_eval (ρ := .two (.d .turn) (.d .bool)) (.cons c75 (.cons c125 (.cons c126 .nil))) .nil .nil (.cons Tryz.func83 n83 .nil) (.none fun _ _ _ h => by cases h) ((e83 x0).trans h)⟩
theorem n101 : (Tryz.f101.name == "runtime.NumGoroutine") = false := by kernel_rfl
/- wmem.Load -/
def F101 (x0 : Mem) (x1 : Int) : Option (Int × Int) :=
  (F155 x0.words x1).bind fun y3 =>
    some (y3)
theorem e101 (x0 : Mem) (x1 : Int) : evalFn (cfg (R := (Int × Int)) [(155, k155)] [] [] [(101, Tryz.f101)] (fun _ _ => none)) 8 101 [Ty.enc (.d .mem) x0, Ty.enc (.d .int) x1] (RT.dec (.two (.d .int) (.d .int))) = F101 x0 x1 := by kernel_rfl
@[reducible] def k101 : Ctr := ⟨[.d .mem, .d .int], .two (.d .int) (.d .int), F101⟩
theorem c101 : Enters Tryz.prog 101 ∧ Ctr.Ok Tryz.prog 101 k101 :=
  ⟨enters Tryz.func101 n101 rfl, fun x0 x1 y h => valid_of_eval (ρ := .two (.d .int) (.d .int)) (.cons c155 .nil) .nil .nil (.cons Tryz.func101 n101 .nil) (.none fun _ _ _ h => by cases h) ((e101 x0 x1).trans h)⟩
theorem n185 : (Tryz.f185.name == "runtime.NumGoroutine") = false := by kernel_rfl
/- (code.said).word -/
def F185 (x0 : (Int × Int)) : Option Int :=
  some (IntKind.i64.wrap (IntKind.i64.wrap (8 * IntKind.i64.wrap (x0.snd + 1)) + x0.fst))
theorem e185 (x0 : (Int × Int)) : evalFn (cfg (R := Int) [] [] [] [(185, Tryz.f185)] (fun _ _ => none)) 8 185 [Ty.enc (.d .int2) x0] (RT.dec (.one (.d .int))) = F185 x0 := by kernel_rfl
@[reducible] def k185 : Ctr := ⟨[.d .int2], .one (.d .int), F185⟩
theorem c185 : Enters Tryz.prog 185 ∧ Ctr.Ok Tryz.prog 185 k185 :=
  ⟨enters Tryz.func185 n185 rfl, fun x0 y h => valid_of_eval (ρ := .one (.d .int)) .nil .nil .nil (.cons Tryz.func185 n185 .nil) (.none fun _ _ _ h => by cases h) ((e185 x0).trans h)⟩
theorem n174 : (Tryz.f174.name == "runtime.NumGoroutine") = false := by kernel_rfl
/- code.Told -/
def F174  : Option Int :=
  (F185 (5, -1)).bind fun y1 =>
    some (y1)
theorem e174  : evalFn (cfg (R := Int) [(185, k185)] [] [] [(174, Tryz.f174)] (fun _ _ => none)) 8 174 [] (RT.dec (.one (.d .int))) = F174  := by kernel_rfl
@[reducible] def k174 : Ctr := ⟨[], .one (.d .int), F174⟩
theorem c174 : Enters Tryz.prog 174 ∧ Ctr.Ok Tryz.prog 174 k174 :=
  ⟨enters Tryz.func174 n174 rfl, fun  y h => valid_of_eval (ρ := .one (.d .int)) (.cons c185 .nil) .nil .nil (.cons Tryz.func174 n174 .nil) (.none fun _ _ _ h => by cases h) ((e174 ).trans h)⟩
theorem n127 : (Tryz.f127.name == "runtime.NumGoroutine") = false := by kernel_rfl
/- (share.turn).wait -/
def F127 (x0 : Turn) : Option Turn :=
  (F126 x0.c x0.t).bind fun y2 =>
    (F101 x0.m y2).bind fun y3 =>
      bif y3.snd == 0 then
        (F174).bind fun y4 =>
          bif y3.fst == y4 then
            some ({ x0 with th := { x0.th with phase := 14 } })
          else
            some (x0)
      else
        some (x0)
theorem e127 (x0 : Turn) : evalFn (cfg (R := Turn) [(101, k101), (126, k126), (174, k174)] [] [] [(127, Tryz.f127)] (fun _ _ => none)) 8 127 [Ty.enc (.d .turn) x0] (RT.dec (.one (.d .turn))) = F127 x0 := by kernel_rfl
@[reducible] def k127 : Ctr := ⟨[.d .turn], .one (.d .turn), F127⟩
theorem c127 : Enters Tryz.prog 127 ∧ Ctr.Ok Tryz.prog 127 k127 :=
  ⟨enters Tryz.func127 n127 rfl, fun x0 y h => valid_of_eval (ρ := .one (.d .turn)) (.cons c101 (.cons c126 (.cons c174 .nil))) .nil .nil (.cons Tryz.func127 n127 .nil) (.none fun _ _ _ h => by cases h) ((e127 x0).trans h)⟩
theorem n175 : (Tryz.f175.name == "runtime.NumGoroutine") = false := by kernel_rfl
theorem n209 : (Tryz.f209.name == "runtime.NumGoroutine") = false := by kernel_rfl
/- arena.Result -/
def F175 (x0 : Cfg) (x1 : Int) : Option Int :=
  bif decide (x1 < 0) then
    some (-1)
  else
    bif decide (x1 ≥ x0.threads) then
      some (-1)
    else
      (F149 x0).bind fun y3 =>
        some (IntKind.i64.wrap (IntKind.i64.wrap (y3.snd.snd.snd + IntKind.i64.wrap (2 * x1)) + 1))
theorem e175 (x0 : Cfg) (x1 : Int) : evalFn (cfg (R := Int) [(149, k149)] [(150, k150)] [] [(175, Tryz.f175), (150, Tryz.f150), (184, Tryz.f184), (209, Tryz.f209)] (fun _ _ => none)) 8 175 [Ty.enc (.d .cfg) x0, Ty.enc (.d .int) x1] (RT.dec (.one (.d .int))) = F175 x0 x1 := by kernel_rfl
@[reducible] def k175 : Ctr := ⟨[.d .cfg, .d .int], .one (.d .int), F175⟩
theorem c175 : Enters Tryz.prog 175 ∧ Ctr.Ok Tryz.prog 175 k175 :=
  ⟨enters Tryz.func175 n175 rfl, fun x0 x1 y h => valid_of_eval (ρ := .one (.d .int)) (.cons c149 .nil) (.cons c150 .nil) .nil (.cons Tryz.func175 n175 (.cons Tryz.func150 n150 (.cons Tryz.func184 n184 (.cons Tryz.func209 n209 .nil)))) (.none fun _ _ _ h => by cases h) ((e175 x0 x1).trans h)⟩
theorem n177 : (Tryz.f177.name == "runtime.NumGoroutine") = false := by kernel_rfl
/- (share.turn).kid -/
def F177 (x0 : Turn) : Option (Kid × Bool) :=
  bif decide (x0.th.at_ < 0) then
    some (({ thread := 0, ahead := 0 }, false))
  else
    bif decide (x0.th.at_ ≥ (x0.th.kids.length : Int)) then
      some (({ thread := 0, ahead := 0 }, false))
    else
      bif decide (0 ≤ x0.th.at_) && decide (x0.th.at_ < (x0.th.kids.length : Int)) then
        some ((x0.th.kids.getD x0.th.at_.toNat Kd.kid.dflt, true))
      else
        none
theorem e177 (x0 : Turn) : evalFn (cfg (R := (Kid × Bool)) [] [] [] [(177, Tryz.f177)] (fun _ _ => none)) 8 177 [Ty.enc (.d .turn) x0] (RT.dec (.two (.d .kid) (.d .bool))) = F177 x0 := by kernel_rfl
@[reducible] def k177 : Ctr := ⟨[.d .turn], .two (.d .kid) (.d .bool), F177⟩
theorem c177 : Enters Tryz.prog 177 ∧ Ctr.Ok Tryz.prog 177 k177 :=
  ⟨enters Tryz.func177 n177 rfl, fun x0 y h => valid_of_eval (ρ := .two (.d .kid) (.d .bool)) .nil .nil .nil (.cons Tryz.func177 n177 .nil) (.none fun _ _ _ h => by cases h) ((e177 x0).trans h)⟩
theorem n176 : (Tryz.f176.name == "runtime.NumGoroutine") = false := by kernel_rfl
/- share.Settle -/
def F176 (x0 : Turn) : Option Turn :=
  (F177 x0).bind fun y2 =>
    bif y2.snd then
      some ({ x0 with th := { x0.th with phase := 15 } })
    else
      some ({ x0 with th := { x0.th with phase := 0 }, done := true })
theorem e176 (x0 : Turn) : evalFn (cfg (R := Turn) [(177, k177)] [] [] [(176, Tryz.f176)] (fun _ _ => none)) 8 176 [Ty.enc (.d .turn) x0] (RT.dec (.one (.d .turn))) = F176 x0 := by kernel_rfl
@[reducible] def k176 : Ctr := ⟨[.d .turn], .one (.d .turn), F176⟩
theorem c176 : Enters Tryz.prog 176 ∧ Ctr.Ok Tryz.prog 176 k176 :=
  ⟨enters Tryz.func176 n176 rfl, fun x0 y h => valid_of_eval (ρ := .one (.d .turn)) (.cons c177 .nil) .nil .nil (.cons Tryz.func176 n176 .nil) (.none fun _ _ _ h => by cases h) ((e176 x0).trans h)⟩
theorem n128 : (Tryz.f128.name == "runtime.NumGoroutine") = false := by kernel_rfl
/- (share.turn).fetch -/
def F128 (x0 : Turn) : Option Turn :=
  (F175 x0.c x0.t).bind fun y2 =>
    (F101 x0.m y2).bind fun y3 =>
      bif y3.snd != 0 then
        some (x0)
      else
        (F176 { x0 with th := { x0.th with at_ := 0, x := y3.fst } }).bind fun y4 =>
          some (y4)
theorem e128 (x0 : Turn) : evalFn (cfg (R := Turn) [(101, k101), (175, k175), (176, k176)] [] [] [(128, Tryz.f128)] (fun _ _ => none)) 8 128 [Ty.enc (.d .turn) x0] (RT.dec (.one (.d .turn))) = F128 x0 := by kernel_rfl
@[reducible] def k128 : Ctr := ⟨[.d .turn], .one (.d .turn), F128⟩
theorem c128 : Enters Tryz.prog 128 ∧ Ctr.Ok Tryz.prog 128 k128 :=
  ⟨enters Tryz.func128 n128 rfl, fun x0 y h => valid_of_eval (ρ := .one (.d .turn)) (.cons c101 (.cons c175 (.cons c176 .nil))) .nil .nil (.cons Tryz.func128 n128 .nil) (.none fun _ _ _ h => by cases h) ((e128 x0).trans h)⟩
theorem n201 : (Tryz.f201.name == "runtime.NumGoroutine") = false := by kernel_rfl
/- oper.beyond -/
def F201 (x0 : Int) (x1 : Int) (x2 : Int) (x3 : Int) : Option Bool :=
  bif decide (x1 ≥ 0) then
    bif decide (IntKind.i64.wrap (x0 + x1) ≥ x0) then
      bif decide (IntKind.i64.wrap (x0 + x1) < x2) then
        some (true)
      else
        some (decide (IntKind.i64.wrap (x0 + x1) > x3))
    else
      bif decide (x1 < 0) then
        bif decide (IntKind.i64.wrap (x0 + x1) < x0) then
          bif decide (IntKind.i64.wrap (x0 + x1) < x2) then
            some (true)
          else
            some (decide (IntKind.i64.wrap (x0 + x1) > x3))
        else
          some (true)
      else
        some (true)
  else
    bif decide (x1 < 0) then
      bif decide (IntKind.i64.wrap (x0 + x1) < x0) then
        bif decide (IntKind.i64.wrap (x0 + x1) < x2) then
          some (true)
        else
          some (decide (IntKind.i64.wrap (x0 + x1) > x3))
      else
        some (true)
    else
      some (true)
theorem e201 (x0 : Int) (x1 : Int) (x2 : Int) (x3 : Int) : evalFn (cfg (R := Bool) [] [] [] [(201, Tryz.f201)] (fun _ _ => none)) 8 201 [Ty.enc (.d .int) x0, Ty.enc (.d .int) x1, Ty.enc (.d .int) x2, Ty.enc (.d .int) x3] (RT.dec (.one (.d .bool))) = F201 x0 x1 x2 x3 := by kernel_rfl
@[reducible] def k201 : Ctr := ⟨[.d .int, .d .int, .d .int, .d .int], .one (.d .bool), F201⟩
theorem c201 : Enters Tryz.prog 201 ∧ Ctr.Ok Tryz.prog 201 k201 :=
  ⟨enters Tryz.func201 n201 rfl, fun x0 x1 x2 x3 y h => valid_of_eval (ρ := .one (.d .bool)) .nil .nil .nil (.cons Tryz.func201 n201 .nil) (.none fun _ _ _ h => by cases h) ((e201 x0 x1 x2 x3).trans h)⟩
theorem n154 : (Tryz.f154.name == "runtime.NumGoroutine") = false := by kernel_rfl
/- oper.Apply -/
def F154 (x0 : Opn) (x1 : Int) (x2 : Int) (x3 : Int) : Option (Int × Bool) :=
  bif x0.tag == 2 then
    some ((IntKind.i64.wrap (x1 + IntKind.i64.wrap (0 - x0.v)), true))
  else
    bif x0.tag == 1 then
      some ((IntKind.i64.wrap (x1 + x0.v), true))
    else
      bif x0.tag == 3 then
        some ((IntKind.i64.wrap ((BitVec.ofInt IntKind.i64.bits x1 ||| BitVec.ofInt IntKind.i64.bits x0.v).toNat : Int), true))
      else
        bif x0.tag == 4 then
          some ((IntKind.i64.wrap ((BitVec.ofInt IntKind.i64.bits x1 &&& BitVec.ofInt IntKind.i64.bits x0.v).toNat : Int), true))
        else
          bif x0.tag == 5 then
            some ((if true = true then if x1 > x0.v then x1 else x0.v else if x1 < x0.v then x1 else x0.v, true))
          else
            bif x0.tag == 6 then
              some ((if false = true then if x1 > x0.v then x1 else x0.v else if x1 < x0.v then x1 else x0.v, true))
            else
              bif x0.tag == 7 then
                some ((x0.v, true))
              else
                bif x0.tag == 9 then
                  bif decide (x0.v < 0) then
                    some ((x1, false))
                  else
                    bif decide (x1 < x2) then
                      some ((x1, false))
                    else
                      bif decide (IntKind.i64.wrap (x1 - x0.v) ≤ x1) then
                        bif decide (IntKind.i64.wrap (x1 - x0.v) ≥ x2) then
                          some ((IntKind.i64.wrap (x1 - x0.v), true))
                        else
                          some ((x2, true))
                      else
                        some ((x2, true))
                else
                  bif x0.tag == 8 then
                    (F201 x1 x0.v x2 x3).bind fun y5 =>
                      bif !y5 then
                        some ((IntKind.i64.wrap (x1 + x0.v), true))
                      else
                        some ((x1, false))
                  else
                    some ((x1, false))
theorem e154 (x0 : Opn) (x1 : Int) (x2 : Int) (x3 : Int) : evalFn (cfg (R := (Int × Bool)) [(201, k201)] [] [] [(154, Tryz.f154)] (fun _ _ => none)) 8 154 [Ty.enc (.d .opn) x0, Ty.enc (.d .int) x1, Ty.enc (.d .int) x2, Ty.enc (.d .int) x3] (RT.dec (.two (.d .int) (.d .bool))) = F154 x0 x1 x2 x3 := by kernel_rfl
@[reducible] def k154 : Ctr := ⟨[.d .opn, .d .int, .d .int, .d .int], .two (.d .int) (.d .bool), F154⟩
theorem c154 : Enters Tryz.prog 154 ∧ Ctr.Ok Tryz.prog 154 k154 :=
  ⟨enters Tryz.func154 n154 rfl, fun x0 x1 x2 x3 y h => valid_of_eval (ρ := .two (.d .int) (.d .bool)) (.cons c201 .nil) .nil .nil (.cons Tryz.func154 n154 .nil) (.none fun _ _ _ h => by cases h) ((e154 x0 x1 x2 x3).trans h)⟩
/- batch.All -/
def F178 (x0 : (List Ent)) (x1 x2 x3 : Int) : Option Int := Fall F154 x0 x1 x2 x3
@[reducible] def k178 : Ctr := ⟨[.l .ent, .d .int, .d .int, .d .int], .one (.d .int), F178⟩
theorem c178 : Enters Tryz.prog 178 ∧ Ctr.Ok Tryz.prog 178 k178 := all_ok c154

theorem n179 : (Tryz.f179.name == "runtime.NumGoroutine") = false := by kernel_rfl
/- batch.Upto -/
def F179 (x0 : (List Ent)) (x1 : Int) : Option (List Ent) :=
  bif decide (0 ≤ 0) && decide (0 ≤ if true = true then if (if false = true then if (x0.length : Int) > x1 then (x0.length : Int) else x1 else if (x0.length : Int) < x1 then (x0.length : Int) else x1) > 0 then if false = true then if (x0.length : Int) > x1 then (x0.length : Int) else x1 else if (x0.length : Int) < x1 then (x0.length : Int) else x1 else 0 else if (if false = true then if (x0.length : Int) > x1 then (x0.length : Int) else x1 else if (x0.length : Int) < x1 then (x0.length : Int) else x1) < 0 then if false = true then if (x0.length : Int) > x1 then (x0.length : Int) else x1 else if (x0.length : Int) < x1 then (x0.length : Int) else x1 else 0) && decide ((if true = true then if (if false = true then if (x0.length : Int) > x1 then (x0.length : Int) else x1 else if (x0.length : Int) < x1 then (x0.length : Int) else x1) > 0 then if false = true then if (x0.length : Int) > x1 then (x0.length : Int) else x1 else if (x0.length : Int) < x1 then (x0.length : Int) else x1 else 0 else if (if false = true then if (x0.length : Int) > x1 then (x0.length : Int) else x1 else if (x0.length : Int) < x1 then (x0.length : Int) else x1) < 0 then if false = true then if (x0.length : Int) > x1 then (x0.length : Int) else x1 else if (x0.length : Int) < x1 then (x0.length : Int) else x1 else 0) ≤ (x0.length : Int)) then
    (F211 (List.drop (Int.toNat 0) (List.take (if true = true then if (if false = true then if (x0.length : Int) > x1 then (x0.length : Int) else x1 else if (x0.length : Int) < x1 then (x0.length : Int) else x1) > 0 then if false = true then if (x0.length : Int) > x1 then (x0.length : Int) else x1 else if (x0.length : Int) < x1 then (x0.length : Int) else x1 else 0 else if (if false = true then if (x0.length : Int) > x1 then (x0.length : Int) else x1 else if (x0.length : Int) < x1 then (x0.length : Int) else x1) < 0 then if false = true then if (x0.length : Int) > x1 then (x0.length : Int) else x1 else if (x0.length : Int) < x1 then (x0.length : Int) else x1 else 0).toNat x0))).bind fun y3 =>
      some (y3)
  else
    none
theorem e179 (x0 : (List Ent)) (x1 : Int) : evalFn (cfg (R := (List Ent)) [(211, k211)] [] [] [(179, Tryz.f179)] (fun _ _ => none)) 8 179 [Ty.enc (.l .ent) x0, Ty.enc (.d .int) x1] (RT.dec (.one (.l .ent))) = F179 x0 x1 := by kernel_rfl
@[reducible] def k179 : Ctr := ⟨[.l .ent, .d .int], .one (.l .ent), F179⟩
theorem c179 : Enters Tryz.prog 179 ∧ Ctr.Ok Tryz.prog 179 k179 :=
  ⟨enters Tryz.func179 n179 rfl, fun x0 x1 y h => valid_of_eval (ρ := .one (.l .ent)) (.cons c211 .nil) .nil .nil (.cons Tryz.func179 n179 .nil) (.none fun _ _ _ h => by cases h) ((e179 x0 x1).trans h)⟩
theorem n129 : (Tryz.f129.name == "runtime.NumGoroutine") = false := by kernel_rfl
/- (share.turn).share -/
def F129 (x0 : Turn) : Option Turn :=
  (F177 x0).bind fun y2 =>
    bif !y2.snd then
      some (x0)
    else
      (F179 x0.th.batch y2.fst.ahead).bind fun y3 =>
        (F178 y3 x0.th.x x0.c.lo x0.c.hi).bind fun y4 =>
          (F175 x0.c y2.fst.thread).bind fun y5 =>
            (F125 x0.m y5 y4).bind fun y6 =>
              bif y6.snd == 0 then
                some ({ x0 with m := y6.fst, th := { x0.th with phase := 16 } })
              else
                some (x0)
theorem e129 (x0 : Turn) : evalFn (cfg (R := Turn) [(125, k125), (175, k175), (177, k177), (178, k178), (179, k179)] [] [] [(129, Tryz.f129)] (fun _ _ => none)) 8 129 [Ty.enc (.d .turn) x0] (RT.dec (.one (.d .turn))) = F129 x0 := by kernel_rfl
@[reducible] def k129 : Ctr := ⟨[.d .turn], .one (.d .turn), F129⟩
theorem c129 : Enters Tryz.prog 129 ∧ Ctr.Ok Tryz.prog 129 k129 :=
  ⟨enters Tryz.func129 n129 rfl, fun x0 y h => valid_of_eval (ρ := .one (.d .turn)) (.cons c125 (.cons c175 (.cons c177 (.cons c178 (.cons c179 .nil))))) .nil .nil (.cons Tryz.func129 n129 .nil) (.none fun _ _ _ h => by cases h) ((e129 x0).trans h)⟩
theorem n130 : (Tryz.f130.name == "runtime.NumGoroutine") = false := by kernel_rfl
/- (share.turn).tell -/
def F130 (x0 : Turn) : Option Turn :=
  (F177 x0).bind fun y2 =>
    bif !y2.snd then
      some (x0)
    else
      (F126 x0.c y2.fst.thread).bind fun y3 =>
        (F174).bind fun y4 =>
          (F125 x0.m y3 y4).bind fun y5 =>
            bif y5.snd != 0 then
              some (x0)
            else
              (F176 { x0 with m := y5.fst, th := { x0.th with at_ := IntKind.i64.wrap (x0.th.at_ + 1) } }).bind fun y6 =>
                some (y6)
theorem e130 (x0 : Turn) : evalFn (cfg (R := Turn) [(125, k125), (126, k126), (174, k174), (176, k176), (177, k177)] [] [] [(130, Tryz.f130)] (fun _ _ => none)) 8 130 [Ty.enc (.d .turn) x0] (RT.dec (.one (.d .turn))) = F130 x0 := by kernel_rfl
@[reducible] def k130 : Ctr := ⟨[.d .turn], .one (.d .turn), F130⟩
theorem c130 : Enters Tryz.prog 130 ∧ Ctr.Ok Tryz.prog 130 k130 :=
  ⟨enters Tryz.func130 n130 rfl, fun x0 y h => valid_of_eval (ρ := .one (.d .turn)) (.cons c125 (.cons c126 (.cons c174 (.cons c176 (.cons c177 .nil))))) .nil .nil (.cons Tryz.func130 n130 .nil) (.none fun _ _ _ h => by cases h) ((e130 x0).trans h)⟩
theorem n84 : (Tryz.f84.name == "runtime.NumGoroutine") = false := by kernel_rfl
/- share.Step -/
def F84 (x0 : Turn) : Option (Turn × Bool) :=
  bif x0.th.phase == 13 then
    (F127 x0).bind fun y2 =>
      some ((y2, true))
  else
    bif x0.th.phase == 14 then
      (F128 x0).bind fun y2 =>
        some ((y2, true))
    else
      bif x0.th.phase == 15 then
        (F129 x0).bind fun y2 =>
          some ((y2, true))
      else
        bif x0.th.phase == 16 then
          (F130 x0).bind fun y2 =>
            some ((y2, true))
        else
          some ((x0, false))
theorem e84 (x0 : Turn) : evalFn (cfg (R := (Turn × Bool)) [(127, k127), (128, k128), (129, k129), (130, k130)] [] [] [(84, Tryz.f84)] (fun _ _ => none)) 8 84 [Ty.enc (.d .turn) x0] (RT.dec (.two (.d .turn) (.d .bool))) = F84 x0 := by kernel_rfl
@[reducible] def k84 : Ctr := ⟨[.d .turn], .two (.d .turn) (.d .bool), F84⟩
theorem c84 : Enters Tryz.prog 84 ∧ Ctr.Ok Tryz.prog 84 k84 :=
  ⟨enters Tryz.func84 n84 rfl, fun x0 y h => valid_of_eval (ρ := .two (.d .turn) (.d .bool)) (.cons c127 (.cons c128 (.cons c129 (.cons c130 .nil)))) .nil .nil (.cons Tryz.func84 n84 .nil) (.none fun _ _ _ h => by cases h) ((e84 x0).trans h)⟩
theorem n92 : (Tryz.f92.name == "runtime.NumGoroutine") = false := by kernel_rfl
theorem n151 : (Tryz.f151.name == "runtime.NumGoroutine") = false := by kernel_rfl
/- arena.Cell -/
def F92 (x0 : Cfg) (x1 : Int) : Option Int :=
  bif decide (x1 < 0) then
    some (-1)
  else
    bif decide (x1 ≥ x0.items) then
      some (-1)
    else
      (F149 x0).bind fun y3 =>
        some (IntKind.i64.wrap (x1 * y3.snd.snd.fst))
theorem e92 (x0 : Cfg) (x1 : Int) : evalFn (cfg (R := Int) [(149, k149)] [(150, k150)] [] [(92, Tryz.f92), (150, Tryz.f150), (151, Tryz.f151), (184, Tryz.f184)] (fun _ _ => none)) 8 92 [Ty.enc (.d .cfg) x0, Ty.enc (.d .int) x1] (RT.dec (.one (.d .int))) = F92 x0 x1 := by kernel_rfl
@[reducible] def k92 : Ctr := ⟨[.d .cfg, .d .int], .one (.d .int), F92⟩
theorem c92 : Enters Tryz.prog 92 ∧ Ctr.Ok Tryz.prog 92 k92 :=
  ⟨enters Tryz.func92 n92 rfl, fun x0 x1 y h => valid_of_eval (ρ := .one (.d .int)) (.cons c149 .nil) (.cons c150 .nil) .nil (.cons Tryz.func92 n92 (.cons Tryz.func150 n150 (.cons Tryz.func151 n151 (.cons Tryz.func184 n184 .nil)))) (.none fun _ _ _ h => by cases h) ((e92 x0 x1).trans h)⟩
theorem n131 : (Tryz.f131.name == "runtime.NumGoroutine") = false := by kernel_rfl
/- commit.look -/
def F131 (x0 : Turn) : Option ((Int × Int) × Int) :=
  (F92 x0.c x0.th.item).bind fun y2 =>
    (F101 x0.m y2).bind fun y3 =>
      (F178 x0.th.batch y3.fst x0.c.lo x0.c.hi).bind fun y4 =>
        some (((y3.fst, y4), y3.snd))
theorem e131 (x0 : Turn) : evalFn (cfg (R := ((Int × Int) × Int)) [(92, k92), (101, k101), (178, k178)] [] [] [(131, Tryz.f131)] (fun _ _ => none)) 8 131 [Ty.enc (.d .turn) x0] (RT.dec (.two (.d .int2) (.d .int))) = F131 x0 := by kernel_rfl
@[reducible] def k131 : Ctr := ⟨[.d .turn], .two (.d .int2) (.d .int), F131⟩
theorem c131 : Enters Tryz.prog 131 ∧ Ctr.Ok Tryz.prog 131 k131 :=
  ⟨enters Tryz.func131 n131 rfl, fun x0 y h => valid_of_eval (ρ := .two (.d .int2) (.d .int)) (.cons c92 (.cons c101 (.cons c178 .nil))) .nil .nil (.cons Tryz.func131 n131 .nil) (.none fun _ _ _ h => by cases h) ((e131 x0).trans h)⟩
/- batch.Priors -/
def F180 (x0 : (List Ent)) (x1 x2 x3 : Int) : Option (List Int) := Fpri F154 x0 x1 x2 x3
@[reducible] def k180 : Ctr := ⟨[.l .ent, .d .int, .d .int, .d .int], .one (.l .int), F180⟩
theorem c180 : Enters Tryz.prog 180 ∧ Ctr.Ok Tryz.prog 180 k180 := pri_ok c154

theorem n132 : (Tryz.f132.name == "runtime.NumGoroutine") = false := by kernel_rfl
/- commit.commit -/
def S132_0 (v : Int × (List Mark) × (List Int) × Int × Int × Turn × Turn × Unit) : Option ((Int × (List Mark) × (List Int) × Int × Int × Turn × Turn × Unit) ⊕ (Int × (List Mark) × (List Int) × Int × Int × Turn × Turn × Unit)) := match v with
  | (v0, v1, v2, v3, v4, v5, v6, ()) =>
  bif decide (v4 < v3) then
    bif decide (0 ≤ v4) && decide (v4 < (v2.length : Int)) then
      bif decide (0 ≤ v4) && decide (v4 < (v5.th.batch.length : Int)) then
        bif decide (v1.length + 1 < 4294967296) && true then
          some (Sum.inl (v0, v1 ++ [{ thread := (v5.th.batch.getD v4.toNat Kd.ent.dflt).thread, item := v5.th.item, op := (v5.th.batch.getD v4.toNat Kd.ent.dflt).op, prior := v2.getD v4.toNat Kd.int.dflt, step := 0 }], v2, v3, IntKind.i64.wrap (v4 + 1), v5, v6, ()))
        else
          none
      else
        none
    else
      none
  else
    some (Sum.inr (v0, v1, v2, v3, v4, v5, v6, ()))
def X132_0 : Int × (List Mark) × (List Int) × Int × Int × Turn × Turn × Unit → Option (Int × (List Mark) × (List Int) × Int × Int × Turn × Turn × Unit) := loopF S132_0 bigN
def a132_0 {R : Type} : Ann R := annOf [.sv 1 (.d .int), .so 6 .mark, .sv 25 (.l .int), .sv 26 (.d .int), .sv 27 (.d .int), .bv 0 .turn [], .bv 1 .turn []] [.s 2 ⟨false, [.ptr (.box 0 0)]⟩, .s 4 ⟨false, [.ptr (.box 1 0)]⟩, .s 5 ⟨false, [.ptr (.box 0 16)]⟩] 1000 X132_0 (fun k e => k (.exit 0) e)
theorem r132_0 {R : Type} : RunOk Tryz.prog Tryz.f132.ntmps (.loop (bodyAt Tryz.f132 0)) (evalAnn (a132_0 (R := R))) :=
  loop_ok (cs := [.sv 1 (.d .int), .so 6 .mark, .sv 25 (.l .int), .sv 26 (.d .int), .sv 27 (.d .int), .bv 0 .turn [], .bv 1 .turn []]) (fs := [.s 2 ⟨false, [.ptr (.box 0 0)]⟩, .s 4 ⟨false, [.ptr (.box 1 0)]⟩, .s 5 ⟨false, [.ptr (.box 0 16)]⟩]) (nx := 1000) (S := S132_0) (X := X132_0) rfl (kx := fun k e => k (.exit 0) e) (run_of_eval (R := R) (cs := [(176, k176), (180, k180)]) (fs := []) (ds := []) (fns := []) (la := fun _ _ => none) (.cons c176 (.cons c180 .nil)) .nil .nil .nil (.none fun _ _ _ h => by cases h) 8 _ 132 (bodyAt Tryz.f132 0) 0 (dstB (by kernel_rfl)) (fun _ _ _ h => by cases h)) fun rec k v => by
    obtain ⟨v0, v1, v2, v3, v4, v5, v6, ⟨⟩⟩ := v; symm; (conv => lhs; simp only [S132_0, need_cond, need_obind, need_val, need_none, onOut_inl, onOut_inr])
    kernel_rfl
def F132 (x0 : Turn) (x1 : Int) : Option Turn :=
  bif decide (x0.log.length < 4294967296) then
    bif x0.log.isEmpty then
      (F180 x0.th.batch x1 x0.c.lo x0.c.hi).bind fun y3 =>
        (X132_0 (x1, [], y3, (y3.length : Int), 0, x0, { c := { threads := 0, items := 0, backend := 0, depth := 0, layers := 0, width := 0, spin := 0, wait := 0, bounded := false, lo := 0, hi := 0, init := 0 }, t := 0, now := 0, m := { words := [], boxes := [] }, th := { phase := 0, item := 0, op := { tag := 0, v := 0 }, batch := [], kids := [], held := [], stop := 0, node := 0, at_ := 0, layer := 0, left := 0, width := 0, who := 0, x := 0, y := 0, til := 0 }, tape := { l := [], at_ := 0 }, log := [], done := false }, ())).bind fun y4 =>
          (F176 { y4.2.2.2.2.2.1 with th := { y4.2.2.2.2.2.1.th with at_ := 0, x := y4.1 }, log := y4.2.1 }).bind fun y5 =>
            some (y5)
    else
      (F180 x0.th.batch x1 x0.c.lo x0.c.hi).bind fun y3 =>
        (X132_0 (x1, x0.log, y3, (y3.length : Int), 0, x0, { c := { threads := 0, items := 0, backend := 0, depth := 0, layers := 0, width := 0, spin := 0, wait := 0, bounded := false, lo := 0, hi := 0, init := 0 }, t := 0, now := 0, m := { words := [], boxes := [] }, th := { phase := 0, item := 0, op := { tag := 0, v := 0 }, batch := [], kids := [], held := [], stop := 0, node := 0, at_ := 0, layer := 0, left := 0, width := 0, who := 0, x := 0, y := 0, til := 0 }, tape := { l := [], at_ := 0 }, log := [], done := false }, ())).bind fun y4 =>
          (F176 { y4.2.2.2.2.2.1 with th := { y4.2.2.2.2.2.1.th with at_ := 0, x := y4.1 }, log := y4.2.1 }).bind fun y5 =>
            some (y5)
  else
    none
def la132 {R : Type} : FuncId → Nat → Option (LAnn R) := fun g b => cond (Nat.beq g 132) (cond (Nat.beq b 0) (some (.ann a132_0)) none) none
theorem e132 (x0 : Turn) (x1 : Int) : evalFn (cfg (R := Turn) [(176, k176), (180, k180)] [] [] [(132, Tryz.f132)] (la132)) 8 132 [Ty.enc (.d .turn) x0, Ty.enc (.d .int) x1] (RT.dec (.one (.d .turn))) = F132 x0 x1 := by kernel_rfl
@[reducible] def k132 : Ctr := ⟨[.d .turn, .d .int], .one (.d .turn), F132⟩
theorem c132 : Enters Tryz.prog 132 ∧ Ctr.Ok Tryz.prog 132 k132 :=
  ⟨enters Tryz.func132 n132 rfl, fun x0 x1 y h => valid_of_eval (ρ := .one (.d .turn)) (la := la132) (.cons c176 (.cons c180 .nil)) .nil .nil (.cons Tryz.func132 n132 .nil) (.cons (ls := [(0, bodyAt Tryz.f132 0)]) (by kernel_rfl) ⟨(fun a ha => by have e := annEq ha (show (la132) 132 0 = some (LAnn.ann a132_0) from rfl); subst e; exact r132_0), trivial⟩ .nil) ((e132 x0 x1).trans h)⟩
theorem n181 : (Tryz.f181.name == "runtime.NumGoroutine") = false := by kernel_rfl
/- thread.Late -/
def F181 (x0 : Turn) : Option Bool :=
  bif decide (0 < x0.th.til) then
    some (decide (x0.th.til ≤ x0.now))
  else
    some (false)
theorem e181 (x0 : Turn) : evalFn (cfg (R := Bool) [] [] [] [(181, Tryz.f181)] (fun _ _ => none)) 8 181 [Ty.enc (.d .turn) x0] (RT.dec (.one (.d .bool))) = F181 x0 := by kernel_rfl
@[reducible] def k181 : Ctr := ⟨[.d .turn], .one (.d .bool), F181⟩
theorem c181 : Enters Tryz.prog 181 ∧ Ctr.Ok Tryz.prog 181 k181 :=
  ⟨enters Tryz.func181 n181 rfl, fun x0 y h => valid_of_eval (ρ := .one (.d .bool)) .nil .nil .nil (.cons Tryz.func181 n181 .nil) (.none fun _ _ _ h => by cases h) ((e181 x0).trans h)⟩
theorem n133 : (Tryz.f133.name == "runtime.NumGoroutine") = false := by kernel_rfl
/- commit.Onward -/
def F133 (x0 : Turn) : Option Turn :=
  bif decide (x0.th.layer < x0.c.layers) then
    (F181 { x0 with th := { x0.th with phase := 2 } }).bind fun y2 =>
      bif !y2 then
        some ({ x0 with th := { x0.th with phase := 17, layer := IntKind.i64.wrap (x0.th.layer + 1) } })
      else
        some ({ x0 with th := { x0.th with phase := 2 } })
  else
    some ({ x0 with th := { x0.th with phase := 2 } })
theorem e133 (x0 : Turn) : evalFn (cfg (R := Turn) [(181, k181)] [] [] [(133, Tryz.f133)] (fun _ _ => none)) 8 133 [Ty.enc (.d .turn) x0] (RT.dec (.one (.d .turn))) = F133 x0 := by kernel_rfl
@[reducible] def k133 : Ctr := ⟨[.d .turn], .one (.d .turn), F133⟩
theorem c133 : Enters Tryz.prog 133 ∧ Ctr.Ok Tryz.prog 133 k133 :=
  ⟨enters Tryz.func133 n133 rfl, fun x0 y h => valid_of_eval (ρ := .one (.d .turn)) (.cons c181 .nil) .nil .nil (.cons Tryz.func133 n133 .nil) (.none fun _ _ _ h => by cases h) ((e133 x0).trans h)⟩
theorem n139 : (Tryz.f139.name == "runtime.NumGoroutine") = false := by kernel_rfl
theorem n188 : (Tryz.f188.name == "runtime.NumGoroutine") = false := by kernel_rfl
/- wmem.Cas -/
def F139 (x0 : Mem) (x1 : Int) (x2 : Int) (x3 : Int) : Option (Mem × Bool × Int) :=
  (F155 x0.words x1).bind fun y5 =>
    bif y5.snd != 0 then
      some ((x0, false, y5.snd))
    else
      bif y5.fst == x2 then
        (F72 x0.words).bind fun y6 =>
          bif decide (0 ≤ x1) && decide (x1 < (y6.length : Int)) then
            some (({ x0 with words := y6.set x1.toNat x3 }, y5.fst == x2, y5.snd))
          else
            none
      else
        some ((x0, y5.fst == x2, y5.snd))
theorem e139 (x0 : Mem) (x1 : Int) (x2 : Int) (x3 : Int) : evalFn (cfg (R := (Mem × Bool × Int)) [(72, k72), (155, k155)] [] [] [(139, Tryz.f139), (171, Tryz.f171), (188, Tryz.f188)] (fun _ _ => none)) 8 139 [Ty.enc (.d .mem) x0, Ty.enc (.d .int) x1, Ty.enc (.d .int) x2, Ty.enc (.d .int) x3] (RT.dec (.three (.d .mem) (.d .bool) (.d .int))) = F139 x0 x1 x2 x3 := by kernel_rfl
@[reducible] def k139 : Ctr := ⟨[.d .mem, .d .int, .d .int, .d .int], .three (.d .mem) (.d .bool) (.d .int), F139⟩
theorem c139 : Enters Tryz.prog 139 ∧ Ctr.Ok Tryz.prog 139 k139 :=
  ⟨enters Tryz.func139 n139 rfl, fun x0 x1 x2 x3 y h => valid_of_eval (ρ := .three (.d .mem) (.d .bool) (.d .int)) (.cons c72 (.cons c155 .nil)) .nil .nil (.cons Tryz.func139 n139 (.cons Tryz.func171 n171 (.cons Tryz.func188 n188 .nil))) (.none fun _ _ _ h => by cases h) ((e139 x0 x1 x2 x3).trans h)⟩
theorem n134 : (Tryz.f134.name == "runtime.NumGoroutine") = false := by kernel_rfl
/- commit.compared -/
def F134 (x0 : Turn) : Option Turn :=
  (F92 x0.c x0.th.item).bind fun y2 =>
    (F139 x0.m y2 x0.th.x x0.th.y).bind fun y3 =>
      bif y3.snd.snd != 0 then
        some (x0)
      else
        bif y3.snd.fst then
          (F132 { x0 with m := y3.fst } x0.th.x).bind fun y4 =>
            some (y4)
        else
          bif decide (x0.th.width < x0.c.width) then
            some ({ x0 with th := { x0.th with phase := 2, width := if false = true then if x0.c.width > IntKind.i64.wrap (x0.th.width * 2) then x0.c.width else IntKind.i64.wrap (x0.th.width * 2) else if x0.c.width < IntKind.i64.wrap (x0.th.width * 2) then x0.c.width else IntKind.i64.wrap (x0.th.width * 2) } })
          else
            some ({ x0 with th := { x0.th with phase := 2, width := if false = true then if x0.c.width > x0.th.width then x0.c.width else x0.th.width else if x0.c.width < x0.th.width then x0.c.width else x0.th.width } })
theorem e134 (x0 : Turn) : evalFn (cfg (R := Turn) [(92, k92), (132, k132), (139, k139)] [] [] [(134, Tryz.f134)] (fun _ _ => none)) 8 134 [Ty.enc (.d .turn) x0] (RT.dec (.one (.d .turn))) = F134 x0 := by kernel_rfl
@[reducible] def k134 : Ctr := ⟨[.d .turn], .one (.d .turn), F134⟩
theorem c134 : Enters Tryz.prog 134 ∧ Ctr.Ok Tryz.prog 134 k134 :=
  ⟨enters Tryz.func134 n134 rfl, fun x0 y h => valid_of_eval (ρ := .one (.d .turn)) (.cons c92 (.cons c132 (.cons c139 .nil))) .nil .nil (.cons Tryz.func134 n134 .nil) (.none fun _ _ _ h => by cases h) ((e134 x0).trans h)⟩
theorem n85 : (Tryz.f85.name == "runtime.NumGoroutine") = false := by kernel_rfl
/- commit.Step -/
def F85 (x0 : Turn) : Option (Turn × Bool) :=
  bif x0.th.phase == 3 then
    (F134 x0).bind fun y2 =>
      some ((y2, true))
  else
    bif x0.th.phase != 2 then
      bif x0.th.phase != 25 then
        some ((x0, false))
      else
        (F131 x0).bind fun y2 =>
          bif y2.snd != 0 then
            some ((x0, true))
          else
            bif y2.fst.fst == y2.fst.fst && (y2.fst.snd == y2.fst.fst && true) then
              (F132 x0 y2.fst.fst).bind fun y3 =>
                some ((y3, true))
            else
              bif x0.th.phase == 25 then
                (F133 x0).bind fun y3 =>
                  some ((y3, true))
              else
                some (({ x0 with th := { x0.th with phase := 3, x := y2.fst.fst, y := y2.fst.snd } }, true))
    else
      (F131 x0).bind fun y2 =>
        bif y2.snd != 0 then
          some ((x0, true))
        else
          bif y2.fst.fst == y2.fst.fst && (y2.fst.snd == y2.fst.fst && true) then
            (F132 x0 y2.fst.fst).bind fun y3 =>
              some ((y3, true))
          else
            bif x0.th.phase == 25 then
              (F133 x0).bind fun y3 =>
                some ((y3, true))
            else
              some (({ x0 with th := { x0.th with phase := 3, x := y2.fst.fst, y := y2.fst.snd } }, true))
theorem e85 (x0 : Turn) : evalFn (cfg (R := (Turn × Bool)) [(131, k131), (132, k132), (133, k133), (134, k134)] [] [] [(85, Tryz.f85)] (fun _ _ => none)) 8 85 [Ty.enc (.d .turn) x0] (RT.dec (.two (.d .turn) (.d .bool))) = F85 x0 := by kernel_rfl
@[reducible] def k85 : Ctr := ⟨[.d .turn], .two (.d .turn) (.d .bool), F85⟩
theorem c85 : Enters Tryz.prog 85 ∧ Ctr.Ok Tryz.prog 85 k85 :=
  ⟨enters Tryz.func85 n85 rfl, fun x0 y h => valid_of_eval (ρ := .two (.d .turn) (.d .bool)) (.cons c131 (.cons c132 (.cons c133 (.cons c134 .nil)))) .nil .nil (.cons Tryz.func85 n85 .nil) (.none fun _ _ _ h => by cases h) ((e85 x0).trans h)⟩
theorem n135 : (Tryz.f135.name == "runtime.NumGoroutine") = false := by kernel_rfl
theorem n182 : (Tryz.f182.name == "runtime.NumGoroutine") = false := by kernel_rfl
/- arena.Node -/
def F135 (x0 : Cfg) (x1 : Int) (x2 : Int) : Option Int :=
  bif decide (x1 < 0) then
    some (-1)
  else
    bif decide (x1 ≥ x0.items) then
      some (-1)
    else
      (F183 x0).bind fun y4 =>
        (F150 x2 1 (IntKind.i64.wrap (1 + y4)) (x1, x0, x2)).bind fun y5 =>
          some (y5)
theorem e135 (x0 : Cfg) (x1 : Int) (x2 : Int) : evalFn (cfg (R := Int) [(149, k149), (183, k183)] [(150, k150)] [] [(135, Tryz.f135), (150, Tryz.f150), (182, Tryz.f182), (184, Tryz.f184)] (fun _ _ => none)) 8 135 [Ty.enc (.d .cfg) x0, Ty.enc (.d .int) x1, Ty.enc (.d .int) x2] (RT.dec (.one (.d .int))) = F135 x0 x1 x2 := by kernel_rfl
@[reducible] def k135 : Ctr := ⟨[.d .cfg, .d .int, .d .int], .one (.d .int), F135⟩
theorem c135 : Enters Tryz.prog 135 ∧ Ctr.Ok Tryz.prog 135 k135 :=
  ⟨enters Tryz.func135 n135 rfl, fun x0 x1 x2 y h => valid_of_eval (ρ := .one (.d .int)) (.cons c149 (.cons c183 .nil)) (.cons c150 .nil) .nil (.cons Tryz.func135 n135 (.cons Tryz.func150 n150 (.cons Tryz.func182 n182 (.cons Tryz.func184 n184 .nil)))) (.none fun _ _ _ h => by cases h) ((e135 x0 x1 x2).trans h)⟩
theorem n136 : (Tryz.f136.name == "runtime.NumGoroutine") = false := by kernel_rfl
/- code.First -/
def F136 (x0 : Int) : Option Int :=
  (F185 (1, x0)).bind fun y2 =>
    some (y2)
theorem e136 (x0 : Int) : evalFn (cfg (R := Int) [(185, k185)] [] [] [(136, Tryz.f136)] (fun _ _ => none)) 8 136 [Ty.enc (.d .int) x0] (RT.dec (.one (.d .int))) = F136 x0 := by kernel_rfl
@[reducible] def k136 : Ctr := ⟨[.d .int], .one (.d .int), F136⟩
theorem c136 : Enters Tryz.prog 136 ∧ Ctr.Ok Tryz.prog 136 k136 :=
  ⟨enters Tryz.func136 n136 rfl, fun x0 y h => valid_of_eval (ρ := .one (.d .int)) (.cons c185 .nil) .nil .nil (.cons Tryz.func136 n136 .nil) (.none fun _ _ _ h => by cases h) ((e136 x0).trans h)⟩
theorem n186 : (Tryz.f186.name == "runtime.NumGoroutine") = false := by kernel_rfl
/- shape.Parent -/
def F186 (x0 : Int) : Option Int :=
  some ((if true = true then if 0 > x0 then 0 else x0 else if 0 < x0 then 0 else x0).fdiv (2 ^ min (Int.toNat 1) IntKind.i64.bits))
theorem e186 (x0 : Int) : evalFn (cfg (R := Int) [] [] [] [(186, Tryz.f186)] (fun _ _ => none)) 8 186 [Ty.enc (.d .int) x0] (RT.dec (.one (.d .int))) = F186 x0 := by kernel_rfl
@[reducible] def k186 : Ctr := ⟨[.d .int], .one (.d .int), F186⟩
theorem c186 : Enters Tryz.prog 186 ∧ Ctr.Ok Tryz.prog 186 k186 :=
  ⟨enters Tryz.func186 n186 rfl, fun x0 y h => valid_of_eval (ρ := .one (.d .int)) .nil .nil .nil (.cons Tryz.func186 n186 .nil) (.none fun _ _ _ h => by cases h) ((e186 x0).trans h)⟩
theorem n212 : (Tryz.f212.name == "runtime.NumGoroutine") = false := by kernel_rfl
/- climb.Down -/
def F212 (x0 : Turn) : Option Turn :=
  bif decide (x0.th.stop > 0) then
    bif decide (x0.th.at_ ≥ 0) then
      bif decide (x0.th.at_ < (x0.th.held.length : Int)) then
        some ({ x0 with th := { x0.th with phase := 7 } })
      else
        some ({ x0 with th := { x0.th with phase := 11 } })
    else
      some ({ x0 with th := { x0.th with phase := 11 } })
  else
    bif decide (x0.th.at_ ≥ 0) then
      bif decide (x0.th.at_ < (x0.th.held.length : Int)) then
        some ({ x0 with th := { x0.th with phase := 7 } })
      else
        some ({ x0 with th := { x0.th with phase := 2 } })
    else
      some ({ x0 with th := { x0.th with phase := 2 } })
theorem e212 (x0 : Turn) : evalFn (cfg (R := Turn) [] [] [] [(212, Tryz.f212)] (fun _ _ => none)) 8 212 [Ty.enc (.d .turn) x0] (RT.dec (.one (.d .turn))) = F212 x0 := by kernel_rfl
@[reducible] def k212 : Ctr := ⟨[.d .turn], .one (.d .turn), F212⟩
theorem c212 : Enters Tryz.prog 212 ∧ Ctr.Ok Tryz.prog 212 k212 :=
  ⟨enters Tryz.func212 n212 rfl, fun x0 y h => valid_of_eval (ρ := .one (.d .turn)) .nil .nil .nil (.cons Tryz.func212 n212 .nil) (.none fun _ _ _ h => by cases h) ((e212 x0).trans h)⟩
theorem n187 : (Tryz.f187.name == "runtime.NumGoroutine") = false := by kernel_rfl
/- climb.over -/
def F187 (x0 : Turn) : Option Turn :=
  (F212 { x0 with th := { x0.th with at_ := 0 } }).bind fun y2 =>
    some (y2)
theorem e187 (x0 : Turn) : evalFn (cfg (R := Turn) [(212, k212)] [] [] [(187, Tryz.f187)] (fun _ _ => none)) 8 187 [Ty.enc (.d .turn) x0] (RT.dec (.one (.d .turn))) = F187 x0 := by kernel_rfl
@[reducible] def k187 : Ctr := ⟨[.d .turn], .one (.d .turn), F187⟩
theorem c187 : Enters Tryz.prog 187 ∧ Ctr.Ok Tryz.prog 187 k187 :=
  ⟨enters Tryz.func187 n187 rfl, fun x0 y h => valid_of_eval (ρ := .one (.d .turn)) (.cons c212 .nil) .nil .nil (.cons Tryz.func187 n187 .nil) (.none fun _ _ _ h => by cases h) ((e187 x0).trans h)⟩
theorem n137 : (Tryz.f137.name == "runtime.NumGoroutine") = false := by kernel_rfl
/- climb.taken -/
def F137 (x0 : Turn) : Option Turn :=
  (F72 x0.th.held).bind fun y2 =>
    bif decide (y2.length + 1 < 4294967296) && true then
      (F186 x0.th.node).bind fun y3 =>
        bif decide (y3 > 0) then
          some ({ x0 with th := { x0.th with held := y2 ++ [x0.th.node], node := y3 } })
        else
          (F187 { x0 with th := { x0.th with held := y2 ++ [x0.th.node], node := y3 } }).bind fun y4 =>
            some (y4)
    else
      none
theorem e137 (x0 : Turn) : evalFn (cfg (R := Turn) [(72, k72), (186, k186), (187, k187)] [] [] [(137, Tryz.f137)] (fun _ _ => none)) 8 137 [Ty.enc (.d .turn) x0] (RT.dec (.one (.d .turn))) = F137 x0 := by kernel_rfl
@[reducible] def k137 : Ctr := ⟨[.d .turn], .one (.d .turn), F137⟩
theorem c137 : Enters Tryz.prog 137 ∧ Ctr.Ok Tryz.prog 137 k137 :=
  ⟨enters Tryz.func137 n137 rfl, fun x0 y h => valid_of_eval (ρ := .one (.d .turn)) (.cons c72 (.cons c186 (.cons c187 .nil))) .nil .nil (.cons Tryz.func137 n137 .nil) (.none fun _ _ _ h => by cases h) ((e137 x0).trans h)⟩
theorem n213 : (Tryz.f213.name == "runtime.NumGoroutine") = false := by kernel_rfl
/- code.of -/
def F213 (x0 : Int) : Option (Int × Int) :=
  bif IntKind.i64.wrap ((BitVec.ofInt IntKind.i64.bits x0 &&& BitVec.ofInt IntKind.i64.bits 7).toNat : Int) == 5 && (IntKind.i64.wrap (x0.fdiv (2 ^ min (Int.toNat 3) IntKind.i64.bits) - 1) == -1 && true) then
    some ((IntKind.i64.wrap ((BitVec.ofInt IntKind.i64.bits x0 &&& BitVec.ofInt IntKind.i64.bits 7).toNat : Int), IntKind.i64.wrap (x0.fdiv (2 ^ min (Int.toNat 3) IntKind.i64.bits) - 1)))
  else
    bif decide (IntKind.i64.wrap ((BitVec.ofInt IntKind.i64.bits x0 &&& BitVec.ofInt IntKind.i64.bits 7).toNat : Int) ≥ 1) then
      bif decide (IntKind.i64.wrap ((BitVec.ofInt IntKind.i64.bits x0 &&& BitVec.ofInt IntKind.i64.bits 7).toNat : Int) ≤ 3) then
        bif decide (IntKind.i64.wrap (x0.fdiv (2 ^ min (Int.toNat 3) IntKind.i64.bits) - 1) ≥ 0) then
          bif decide (IntKind.i64.wrap (x0.fdiv (2 ^ min (Int.toNat 3) IntKind.i64.bits) - 1) < 16) then
            some ((IntKind.i64.wrap ((BitVec.ofInt IntKind.i64.bits x0 &&& BitVec.ofInt IntKind.i64.bits 7).toNat : Int), IntKind.i64.wrap (x0.fdiv (2 ^ min (Int.toNat 3) IntKind.i64.bits) - 1)))
          else
            bif IntKind.i64.wrap ((BitVec.ofInt IntKind.i64.bits x0 &&& BitVec.ofInt IntKind.i64.bits 7).toNat : Int) == 4 then
              bif decide ((IntKind.i64.wrap (x0.fdiv (2 ^ min (Int.toNat 3) IntKind.i64.bits) - 1)).fdiv (2 ^ min (Int.toNat 4) IntKind.i64.bits) ≥ 0) then
                bif decide ((IntKind.i64.wrap (x0.fdiv (2 ^ min (Int.toNat 3) IntKind.i64.bits) - 1)).fdiv (2 ^ min (Int.toNat 4) IntKind.i64.bits) < 4) then
                  bif decide (IntKind.i64.wrap ((BitVec.ofInt IntKind.i64.bits (IntKind.i64.wrap (x0.fdiv (2 ^ min (Int.toNat 3) IntKind.i64.bits) - 1)) &&& BitVec.ofInt IntKind.i64.bits 15).toNat : Int) ≥ 1) then
                    bif decide (IntKind.i64.wrap ((BitVec.ofInt IntKind.i64.bits (IntKind.i64.wrap (x0.fdiv (2 ^ min (Int.toNat 3) IntKind.i64.bits) - 1)) &&& BitVec.ofInt IntKind.i64.bits 15).toNat : Int) ≤ 3) then
                      some ((IntKind.i64.wrap ((BitVec.ofInt IntKind.i64.bits x0 &&& BitVec.ofInt IntKind.i64.bits 7).toNat : Int), IntKind.i64.wrap (x0.fdiv (2 ^ min (Int.toNat 3) IntKind.i64.bits) - 1)))
                    else
                      some ((0, 0))
                  else
                    some ((0, 0))
                else
                  some ((0, 0))
              else
                some ((0, 0))
            else
              some ((0, 0))
        else
          bif IntKind.i64.wrap ((BitVec.ofInt IntKind.i64.bits x0 &&& BitVec.ofInt IntKind.i64.bits 7).toNat : Int) == 4 then
            bif decide ((IntKind.i64.wrap (x0.fdiv (2 ^ min (Int.toNat 3) IntKind.i64.bits) - 1)).fdiv (2 ^ min (Int.toNat 4) IntKind.i64.bits) ≥ 0) then
              bif decide ((IntKind.i64.wrap (x0.fdiv (2 ^ min (Int.toNat 3) IntKind.i64.bits) - 1)).fdiv (2 ^ min (Int.toNat 4) IntKind.i64.bits) < 4) then
                bif decide (IntKind.i64.wrap ((BitVec.ofInt IntKind.i64.bits (IntKind.i64.wrap (x0.fdiv (2 ^ min (Int.toNat 3) IntKind.i64.bits) - 1)) &&& BitVec.ofInt IntKind.i64.bits 15).toNat : Int) ≥ 1) then
                  bif decide (IntKind.i64.wrap ((BitVec.ofInt IntKind.i64.bits (IntKind.i64.wrap (x0.fdiv (2 ^ min (Int.toNat 3) IntKind.i64.bits) - 1)) &&& BitVec.ofInt IntKind.i64.bits 15).toNat : Int) ≤ 3) then
                    some ((IntKind.i64.wrap ((BitVec.ofInt IntKind.i64.bits x0 &&& BitVec.ofInt IntKind.i64.bits 7).toNat : Int), IntKind.i64.wrap (x0.fdiv (2 ^ min (Int.toNat 3) IntKind.i64.bits) - 1)))
                  else
                    some ((0, 0))
                else
                  some ((0, 0))
              else
                some ((0, 0))
            else
              some ((0, 0))
          else
            some ((0, 0))
      else
        bif IntKind.i64.wrap ((BitVec.ofInt IntKind.i64.bits x0 &&& BitVec.ofInt IntKind.i64.bits 7).toNat : Int) == 4 then
          bif decide ((IntKind.i64.wrap (x0.fdiv (2 ^ min (Int.toNat 3) IntKind.i64.bits) - 1)).fdiv (2 ^ min (Int.toNat 4) IntKind.i64.bits) ≥ 0) then
            bif decide ((IntKind.i64.wrap (x0.fdiv (2 ^ min (Int.toNat 3) IntKind.i64.bits) - 1)).fdiv (2 ^ min (Int.toNat 4) IntKind.i64.bits) < 4) then
              bif decide (IntKind.i64.wrap ((BitVec.ofInt IntKind.i64.bits (IntKind.i64.wrap (x0.fdiv (2 ^ min (Int.toNat 3) IntKind.i64.bits) - 1)) &&& BitVec.ofInt IntKind.i64.bits 15).toNat : Int) ≥ 1) then
                bif decide (IntKind.i64.wrap ((BitVec.ofInt IntKind.i64.bits (IntKind.i64.wrap (x0.fdiv (2 ^ min (Int.toNat 3) IntKind.i64.bits) - 1)) &&& BitVec.ofInt IntKind.i64.bits 15).toNat : Int) ≤ 3) then
                  some ((IntKind.i64.wrap ((BitVec.ofInt IntKind.i64.bits x0 &&& BitVec.ofInt IntKind.i64.bits 7).toNat : Int), IntKind.i64.wrap (x0.fdiv (2 ^ min (Int.toNat 3) IntKind.i64.bits) - 1)))
                else
                  some ((0, 0))
              else
                some ((0, 0))
            else
              some ((0, 0))
          else
            some ((0, 0))
        else
          some ((0, 0))
    else
      bif IntKind.i64.wrap ((BitVec.ofInt IntKind.i64.bits x0 &&& BitVec.ofInt IntKind.i64.bits 7).toNat : Int) == 4 then
        bif decide ((IntKind.i64.wrap (x0.fdiv (2 ^ min (Int.toNat 3) IntKind.i64.bits) - 1)).fdiv (2 ^ min (Int.toNat 4) IntKind.i64.bits) ≥ 0) then
          bif decide ((IntKind.i64.wrap (x0.fdiv (2 ^ min (Int.toNat 3) IntKind.i64.bits) - 1)).fdiv (2 ^ min (Int.toNat 4) IntKind.i64.bits) < 4) then
            bif decide (IntKind.i64.wrap ((BitVec.ofInt IntKind.i64.bits (IntKind.i64.wrap (x0.fdiv (2 ^ min (Int.toNat 3) IntKind.i64.bits) - 1)) &&& BitVec.ofInt IntKind.i64.bits 15).toNat : Int) ≥ 1) then
              bif decide (IntKind.i64.wrap ((BitVec.ofInt IntKind.i64.bits (IntKind.i64.wrap (x0.fdiv (2 ^ min (Int.toNat 3) IntKind.i64.bits) - 1)) &&& BitVec.ofInt IntKind.i64.bits 15).toNat : Int) ≤ 3) then
                some ((IntKind.i64.wrap ((BitVec.ofInt IntKind.i64.bits x0 &&& BitVec.ofInt IntKind.i64.bits 7).toNat : Int), IntKind.i64.wrap (x0.fdiv (2 ^ min (Int.toNat 3) IntKind.i64.bits) - 1)))
              else
                some ((0, 0))
            else
              some ((0, 0))
          else
            some ((0, 0))
        else
          some ((0, 0))
      else
        some ((0, 0))
theorem e213 (x0 : Int) : evalFn (cfg (R := (Int × Int)) [] [] [] [(213, Tryz.f213)] (fun _ _ => none)) 8 213 [Ty.enc (.d .int) x0] (RT.dec (.one (.d .int2))) = F213 x0 := by kernel_rfl
@[reducible] def k213 : Ctr := ⟨[.d .int], .one (.d .int2), F213⟩
theorem c213 : Enters Tryz.prog 213 ∧ Ctr.Ok Tryz.prog 213 k213 :=
  ⟨enters Tryz.func213 n213 rfl, fun x0 y h => valid_of_eval (ρ := .one (.d .int2)) .nil .nil .nil (.cons Tryz.func213 n213 .nil) (.none fun _ _ _ h => by cases h) ((e213 x0).trans h)⟩
end Go.Proofs.YtihhgenbkiollaaGreat

/- The functions of the program, part gd: what they answer. No condition. -/
namespace Go.Proofs.YtihhgenbkiollaaGreat
open Go Go.Proofs
set_option maxRecDepth 100000
theorem n189 : (Tryz.f189.name == "runtime.NumGoroutine") = false := by kernel_rfl
/- code.Kind -/
def F189 (x0 : Int) : Option Int :=
  (F213 x0).bind fun y2 =>
    bif x0 == 0 then
      some (y2.fst)
    else
      bif !(y2.fst == 0 && (y2.snd == 0 && true)) then
        some (y2.fst)
      else
        some (-1)
theorem e189 (x0 : Int) : evalFn (cfg (R := Int) [(213, k213)] [] [] [(189, Tryz.f189)] (fun _ _ => none)) 8 189 [Ty.enc (.d .int) x0] (RT.dec (.one (.d .int))) = F189 x0 := by kernel_rfl
@[reducible] def k189 : Ctr := ⟨[.d .int], .one (.d .int), F189⟩
theorem c189 : Enters Tryz.prog 189 ∧ Ctr.Ok Tryz.prog 189 k189 :=
  ⟨enters Tryz.func189 n189 rfl, fun x0 y h => valid_of_eval (ρ := .one (.d .int)) (.cons c213 .nil) .nil .nil (.cons Tryz.func189 n189 .nil) (.none fun _ _ _ h => by cases h) ((e189 x0).trans h)⟩
theorem n140 : (Tryz.f140.name == "runtime.NumGoroutine") = false := by kernel_rfl
/- climb.look -/
def F140 (x0 : Turn) (x1 : Int) : Option Turn :=
  (F189 x1).bind fun y3 =>
    bif y3 == 1 then
      some ({ x0 with th := { x0.th with phase := 6, x := x1 } })
    else
      bif y3 == 0 then
        some ({ x0 with th := { x0.th with phase := 5 } })
      else
        (F181 x0).bind fun y4 =>
          bif y4 then
            (F187 x0).bind fun y5 =>
              some (y5)
          else
            some (x0)
theorem e140 (x0 : Turn) (x1 : Int) : evalFn (cfg (R := Turn) [(181, k181), (187, k187), (189, k189)] [] [] [(140, Tryz.f140)] (fun _ _ => none)) 8 140 [Ty.enc (.d .turn) x0, Ty.enc (.d .int) x1] (RT.dec (.one (.d .turn))) = F140 x0 x1 := by kernel_rfl
@[reducible] def k140 : Ctr := ⟨[.d .turn, .d .int], .one (.d .turn), F140⟩
theorem c140 : Enters Tryz.prog 140 ∧ Ctr.Ok Tryz.prog 140 k140 :=
  ⟨enters Tryz.func140 n140 rfl, fun x0 x1 y h => valid_of_eval (ρ := .one (.d .turn)) (.cons c181 (.cons c187 (.cons c189 .nil))) .nil .nil (.cons Tryz.func140 n140 .nil) (.none fun _ _ _ h => by cases h) ((e140 x0 x1).trans h)⟩
theorem n141 : (Tryz.f141.name == "runtime.NumGoroutine") = false := by kernel_rfl
/- code.Joined -/
def F141 (x0 : Int) : Option Int :=
  (F185 (2, x0)).bind fun y2 =>
    some (y2)
theorem e141 (x0 : Int) : evalFn (cfg (R := Int) [(185, k185)] [] [] [(141, Tryz.f141)] (fun _ _ => none)) 8 141 [Ty.enc (.d .int) x0] (RT.dec (.one (.d .int))) = F141 x0 := by kernel_rfl
@[reducible] def k141 : Ctr := ⟨[.d .int], .one (.d .int), F141⟩
theorem c141 : Enters Tryz.prog 141 ∧ Ctr.Ok Tryz.prog 141 k141 :=
  ⟨enters Tryz.func141 n141 rfl, fun x0 y h => valid_of_eval (ρ := .one (.d .int)) (.cons c185 .nil) .nil .nil (.cons Tryz.func141 n141 .nil) (.none fun _ _ _ h => by cases h) ((e141 x0).trans h)⟩
theorem n142 : (Tryz.f142.name == "runtime.NumGoroutine") = false := by kernel_rfl
/- climb.joined -/
def F142 (x0 : Turn) : Option Turn :=
  (F187 { x0 with th := { x0.th with stop := x0.th.node } }).bind fun y2 =>
    some (y2)
theorem e142 (x0 : Turn) : evalFn (cfg (R := Turn) [(187, k187)] [] [] [(142, Tryz.f142)] (fun _ _ => none)) 8 142 [Ty.enc (.d .turn) x0] (RT.dec (.one (.d .turn))) = F142 x0 := by kernel_rfl
@[reducible] def k142 : Ctr := ⟨[.d .turn], .one (.d .turn), F142⟩
theorem c142 : Enters Tryz.prog 142 ∧ Ctr.Ok Tryz.prog 142 k142 :=
  ⟨enters Tryz.func142 n142 rfl, fun x0 y h => valid_of_eval (ρ := .one (.d .turn)) (.cons c187 .nil) .nil .nil (.cons Tryz.func142 n142 .nil) (.none fun _ _ _ h => by cases h) ((e142 x0).trans h)⟩
theorem n86 : (Tryz.f86.name == "runtime.NumGoroutine") = false := by kernel_rfl
theorem n138 : (Tryz.f138.name == "runtime.NumGoroutine") = false := by kernel_rfl
/- climb.Step -/
def F86 (x0 : Turn) : Option (Turn × Bool) :=
  (F135 x0.c x0.th.item x0.th.node).bind fun y2 =>
    (F136 x0.t).bind fun y3 =>
      bif x0.th.phase == 4 then
        (F101 x0.m y2).bind fun y4 =>
          bif y4.snd != 0 then
            some ((x0, true))
          else
            (F140 x0 y4.fst).bind fun y5 =>
              some ((y5, true))
      else
        bif x0.th.phase == 6 then
          (F141 x0.t).bind fun y4 =>
            (F139 x0.m y2 x0.th.x y4).bind fun y5 =>
              bif y5.snd.snd != 0 then
                some ((x0, true))
              else
                bif y5.snd.fst then
                  (F142 { x0 with m := y5.fst, th := { x0.th with phase := 4 } }).bind fun y6 =>
                    some ((y6, true))
                else
                  some (({ x0 with m := y5.fst, th := { x0.th with phase := 4 } }, true))
        else
          bif x0.th.phase == 5 then
            (F139 x0.m y2 0 y3).bind fun y4 =>
              bif y4.snd.snd != 0 then
                some ((x0, true))
              else
                bif y4.snd.fst then
                  (F137 { x0 with m := y4.fst, th := { x0.th with phase := 4 } }).bind fun y5 =>
                    some ((y5, true))
                else
                  some (({ x0 with m := y4.fst, th := { x0.th with phase := 4 } }, true))
          else
            some ((x0, false))
theorem e86 (x0 : Turn) : evalFn (cfg (R := (Turn × Bool)) [(101, k101), (135, k135), (136, k136), (137, k137), (139, k139), (140, k140), (141, k141), (142, k142)] [] [] [(86, Tryz.f86), (138, Tryz.f138)] (fun _ _ => none)) 8 86 [Ty.enc (.d .turn) x0] (RT.dec (.two (.d .turn) (.d .bool))) = F86 x0 := by kernel_rfl
@[reducible] def k86 : Ctr := ⟨[.d .turn], .two (.d .turn) (.d .bool), F86⟩
theorem c86 : Enters Tryz.prog 86 ∧ Ctr.Ok Tryz.prog 86 k86 :=
  ⟨enters Tryz.func86 n86 rfl, fun x0 y h => valid_of_eval (ρ := .two (.d .turn) (.d .bool)) (.cons c101 (.cons c135 (.cons c136 (.cons c137 (.cons c139 (.cons c140 (.cons c141 (.cons c142 .nil)))))))) .nil .nil (.cons Tryz.func86 n86 (.cons Tryz.func138 n138 .nil)) (.none fun _ _ _ h => by cases h) ((e86 x0).trans h)⟩
theorem n214 : (Tryz.f214.name == "runtime.NumGoroutine") = false := by kernel_rfl
/- gather.held -/
def F214 (x0 : Turn) : Option Int :=
  bif decide (x0.th.at_ < 0) then
    some (-1)
  else
    bif decide (x0.th.at_ ≥ (x0.th.held.length : Int)) then
      some (-1)
    else
      bif decide (0 ≤ x0.th.at_) && decide (x0.th.at_ < (x0.th.held.length : Int)) then
        (F135 x0.c x0.th.item (x0.th.held.getD x0.th.at_.toNat Kd.int.dflt)).bind fun y2 =>
          some (y2)
      else
        none
theorem e214 (x0 : Turn) : evalFn (cfg (R := Int) [(135, k135)] [] [] [(214, Tryz.f214)] (fun _ _ => none)) 8 214 [Ty.enc (.d .turn) x0] (RT.dec (.one (.d .int))) = F214 x0 := by kernel_rfl
@[reducible] def k214 : Ctr := ⟨[.d .turn], .one (.d .int), F214⟩
theorem c214 : Enters Tryz.prog 214 ∧ Ctr.Ok Tryz.prog 214 k214 :=
  ⟨enters Tryz.func214 n214 rfl, fun x0 y h => valid_of_eval (ρ := .one (.d .int)) (.cons c135 .nil) .nil .nil (.cons Tryz.func214 n214 .nil) (.none fun _ _ _ h => by cases h) ((e214 x0).trans h)⟩
theorem n215 : (Tryz.f215.name == "runtime.NumGoroutine") = false := by kernel_rfl
/- code.Who -/
def F215 (x0 : Int) : Option Int :=
  (F213 x0).bind fun y2 =>
    bif decide (y2.fst ≥ 1) then
      bif decide (y2.fst ≤ 3) then
        some (y2.snd)
      else
        some (-1)
    else
      some (-1)
theorem e215 (x0 : Int) : evalFn (cfg (R := Int) [(213, k213)] [] [] [(215, Tryz.f215)] (fun _ _ => none)) 8 215 [Ty.enc (.d .int) x0] (RT.dec (.one (.d .int))) = F215 x0 := by kernel_rfl
@[reducible] def k215 : Ctr := ⟨[.d .int], .one (.d .int), F215⟩
theorem c215 : Enters Tryz.prog 215 ∧ Ctr.Ok Tryz.prog 215 k215 :=
  ⟨enters Tryz.func215 n215 rfl, fun x0 y h => valid_of_eval (ρ := .one (.d .int)) (.cons c213 .nil) .nil .nil (.cons Tryz.func215 n215 .nil) (.none fun _ _ _ h => by cases h) ((e215 x0).trans h)⟩
theorem n190 : (Tryz.f190.name == "runtime.NumGoroutine") = false := by kernel_rfl
/- gather.look -/
def F190 (x0 : Turn) : Option Turn :=
  (F214 x0).bind fun y2 =>
    (F101 x0.m y2).bind fun y3 =>
      bif y3.snd != 0 then
        some (x0)
      else
        (F136 x0.t).bind fun y4 =>
          bif y3.fst == y4 then
            some ({ x0 with th := { x0.th with phase := 8 } })
          else
            (F189 y3.fst).bind fun y5 =>
              bif y5 == 3 then
                (F215 y3.fst).bind fun y6 =>
                  some ({ x0 with th := { x0.th with phase := 9, who := y6 } })
              else
                some (x0)
theorem e190 (x0 : Turn) : evalFn (cfg (R := Turn) [(101, k101), (136, k136), (189, k189), (214, k214), (215, k215)] [] [] [(190, Tryz.f190)] (fun _ _ => none)) 8 190 [Ty.enc (.d .turn) x0] (RT.dec (.one (.d .turn))) = F190 x0 := by kernel_rfl
@[reducible] def k190 : Ctr := ⟨[.d .turn], .one (.d .turn), F190⟩
theorem c190 : Enters Tryz.prog 190 ∧ Ctr.Ok Tryz.prog 190 k190 :=
  ⟨enters Tryz.func190 n190 rfl, fun x0 y h => valid_of_eval (ρ := .one (.d .turn)) (.cons c101 (.cons c136 (.cons c189 (.cons c214 (.cons c215 .nil))))) .nil .nil (.cons Tryz.func190 n190 .nil) (.none fun _ _ _ h => by cases h) ((e190 x0).trans h)⟩
theorem n256 : (Tryz.f256.name == "runtime.NumGoroutine") = false := by kernel_rfl
/- gather.to$1 -/
def F256 (x0 : Turn) (x1 : Int) : Option Turn :=
  some ({ x0 with th := { x0.th with phase := [x1].getD 0 Kd.int.dflt } })
theorem e256 (x0 : Turn) (x1 : Int) : evalFn (cfg (R := Turn) [] [] [] [(256, Tryz.f256)] (fun _ _ => none)) 8 256 [Ty.enc (.d .turn) x0, Ty.enc (.ref .int) x1] (RT.dec (.one (.d .turn))) = F256 x0 x1 := by kernel_rfl
@[reducible] def k256 : Ctr := ⟨[.d .turn, .ref .int], .one (.d .turn), F256⟩
theorem c256 : Enters Tryz.prog 256 ∧ Ctr.Ok Tryz.prog 256 k256 :=
  ⟨enters Tryz.func256 n256 rfl, fun x0 x1 y h => valid_of_eval (ρ := .one (.d .turn)) .nil .nil .nil (.cons Tryz.func256 n256 .nil) (.none fun _ _ _ h => by cases h) ((e256 x0 x1).trans h)⟩
theorem n217 : (Tryz.f217.name == "runtime.NumGoroutine") = false := by kernel_rfl
/- gather.to -/
def F217 (x0 : Int) : Option Int :=
  some (x0)
theorem e217 (x0 : Int) : evalFn (cfg (R := Int) [] [] [(256, k256)] [(217, Tryz.f217), (256, Tryz.f256)] (fun _ _ => none)) 8 217 [Ty.enc (.d .int) x0] (RT.dec (.one (.clo1 256 .int))) = F217 x0 := by kernel_rfl
@[reducible] def k217 : Ctr := ⟨[.d .int], .one (.clo1 256 .int), F217⟩
theorem c217 : Enters Tryz.prog 217 ∧ Ctr.Ok Tryz.prog 217 k217 :=
  ⟨enters Tryz.func217 n217 rfl, fun x0 y h => valid_of_eval (ρ := .one (.clo1 256 .int)) .nil .nil (.cons c256 .nil) (.cons Tryz.func217 n217 (.cons Tryz.func256 n256 .nil)) (.none fun _ _ _ h => by cases h) ((e217 x0).trans h)⟩
theorem n218 : (Tryz.f218.name == "runtime.NumGoroutine") = false := by kernel_rfl
/- gather.next -/
def F218 (x0 : Turn) : Option Turn :=
  (F212 { x0 with th := { x0.th with at_ := IntKind.i64.wrap (x0.th.at_ + 1) } }).bind fun y2 =>
    some (y2)
theorem e218 (x0 : Turn) : evalFn (cfg (R := Turn) [(212, k212)] [] [] [(218, Tryz.f218)] (fun _ _ => none)) 8 218 [Ty.enc (.d .turn) x0] (RT.dec (.one (.d .turn))) = F218 x0 := by kernel_rfl
@[reducible] def k218 : Ctr := ⟨[.d .turn], .one (.d .turn), F218⟩
theorem c218 : Enters Tryz.prog 218 ∧ Ctr.Ok Tryz.prog 218 k218 :=
  ⟨enters Tryz.func218 n218 rfl, fun x0 y h => valid_of_eval (ρ := .one (.d .turn)) (.cons c212 .nil) .nil .nil (.cons Tryz.func218 n218 .nil) (.none fun _ _ _ h => by cases h) ((e218 x0).trans h)⟩
theorem n216 : (Tryz.f216.name == "runtime.NumGoroutine") = false := by kernel_rfl
/- gather.stored -/
def F216 (x0 : Turn) (x1 : Mem) (x2 : Int) (x3 : Int) : Option Turn :=
  bif x2 != 0 then
    some (x0)
  else
    some ({ x0 with m := x1, th := { x0.th with phase := [x3].getD 0 Kd.int.dflt } })
theorem e216 (x0 : Turn) (x1 : Mem) (x2 : Int) (x3 : Int) : evalFn (cfg (R := Turn) [] [] [(256, k256)] [(216, Tryz.f216), (256, Tryz.f256)] (fun _ _ => none)) 8 216 [Ty.enc (.d .turn) x0, Ty.enc (.d .mem) x1, Ty.enc (.d .int) x2, Ty.enc (.clo1 256 .int) x3] (RT.dec (.one (.d .turn))) = F216 x0 x1 x2 x3 := by kernel_rfl
@[reducible] def k216 : Ctr := ⟨[.d .turn, .d .mem, .d .int, .clo1 256 .int], .one (.d .turn), F216⟩
theorem c216 : Enters Tryz.prog 216 ∧ Ctr.Ok Tryz.prog 216 k216 :=
  ⟨enters Tryz.func216 n216 rfl, fun x0 x1 x2 x3 y h => valid_of_eval (ρ := .one (.d .turn)) .nil .nil (.cons c256 .nil) (.cons Tryz.func216 n216 (.cons Tryz.func256 n256 .nil)) (.none fun _ _ _ h => by cases h) ((e216 x0 x1 x2 x3).trans h)⟩
theorem n191 : (Tryz.f191.name == "runtime.NumGoroutine") = false := by kernel_rfl
/- gather.shut -/
def F191 (x0 : Turn) : Option Turn :=
  (F214 x0).bind fun y2 =>
    (F136 x0.t).bind fun y3 =>
      (F139 x0.m y2 y3 0).bind fun y4 =>
        bif !y4.snd.fst then
          (F217 7).bind fun y5 =>
            (F216 x0 y4.fst y4.snd.snd y5).bind fun y6 =>
              some (y6)
        else
          bif y4.snd.snd != 0 then
            some (x0)
          else
            (F218 { x0 with m := y4.fst }).bind fun y5 =>
              some (y5)
theorem e191 (x0 : Turn) : evalFn (cfg (R := Turn) [(136, k136), (139, k139), (214, k214), (217, k217), (218, k218)] [] [(216, k216), (256, k256)] [(191, Tryz.f191), (216, Tryz.f216), (256, Tryz.f256)] (fun _ _ => none)) 8 191 [Ty.enc (.d .turn) x0] (RT.dec (.one (.d .turn))) = F191 x0 := by kernel_rfl
@[reducible] def k191 : Ctr := ⟨[.d .turn], .one (.d .turn), F191⟩
theorem c191 : Enters Tryz.prog 191 ∧ Ctr.Ok Tryz.prog 191 k191 :=
  ⟨enters Tryz.func191 n191 rfl, fun x0 y h => valid_of_eval (ρ := .one (.d .turn)) (.cons c136 (.cons c139 (.cons c214 (.cons c217 (.cons c218 .nil))))) .nil (.cons c216 (.cons c256 .nil)) (.cons Tryz.func191 n191 (.cons Tryz.func216 n216 (.cons Tryz.func256 n256 .nil))) (.none fun _ _ _ h => by cases h) ((e191 x0).trans h)⟩
theorem n257 : (Tryz.f257.name == "runtime.NumGoroutine") = false := by kernel_rfl
/- wmem.at[[]batch.Entry] -/
def F257 (x0 : (List (List Ent))) (x1 : Int) : Option ((List Ent) × Int) :=
  bif decide (x1 < 0) then
    some (([], 30))
  else
    bif decide (x1 ≥ (x0.length : Int)) then
      some (([], 30))
    else
      bif decide (0 ≤ x1) && decide (x1 < (x0.length : Int)) then
        some ((x0.getD x1.toNat Kd.box.dflt, 0))
      else
        none
theorem e257 (x0 : (List (List Ent))) (x1 : Int) : evalFn (cfg (R := ((List Ent) × Int)) [] [] [] [(257, Tryz.f257)] (fun _ _ => none)) 8 257 [Ty.enc (.l .box) x0, Ty.enc (.d .int) x1] (RT.dec (.two (.l .ent) (.d .int))) = F257 x0 x1 := by kernel_rfl
@[reducible] def k257 : Ctr := ⟨[.l .box, .d .int], .two (.l .ent) (.d .int), F257⟩
theorem c257 : Enters Tryz.prog 257 ∧ Ctr.Ok Tryz.prog 257 k257 :=
  ⟨enters Tryz.func257 n257 rfl, fun x0 x1 y h => valid_of_eval (ρ := .two (.l .ent) (.d .int)) .nil .nil .nil (.cons Tryz.func257 n257 .nil) (.none fun _ _ _ h => by cases h) ((e257 x0 x1).trans h)⟩
theorem n219 : (Tryz.f219.name == "runtime.NumGoroutine") = false := by kernel_rfl
/- wmem.Box -/
def F219 (x0 : Mem) (x1 : Int) : Option ((List Ent) × Int) :=
  (F257 x0.boxes x1).bind fun y3 =>
    (F211 y3.fst).bind fun y4 =>
      some ((y4, y3.snd))
theorem e219 (x0 : Mem) (x1 : Int) : evalFn (cfg (R := ((List Ent) × Int)) [(211, k211), (257, k257)] [] [] [(219, Tryz.f219)] (fun _ _ => none)) 8 219 [Ty.enc (.d .mem) x0, Ty.enc (.d .int) x1] (RT.dec (.two (.l .ent) (.d .int))) = F219 x0 x1 := by kernel_rfl
@[reducible] def k219 : Ctr := ⟨[.d .mem, .d .int], .two (.l .ent) (.d .int), F219⟩
theorem c219 : Enters Tryz.prog 219 ∧ Ctr.Ok Tryz.prog 219 k219 :=
  ⟨enters Tryz.func219 n219 rfl, fun x0 x1 y h => valid_of_eval (ρ := .two (.l .ent) (.d .int)) (.cons c211 (.cons c257 .nil)) .nil .nil (.cons Tryz.func219 n219 .nil) (.none fun _ _ _ h => by cases h) ((e219 x0 x1).trans h)⟩
theorem n258 : (Tryz.f258.name == "runtime.NumGoroutine") = false := by kernel_rfl
/- slices.Concat[[]thread.Kid,thread.Kid] -/
def S258_2 (v : (List Kid) × (List (List Kid)) × Int × Int × Unit) : Option (((List Kid) × (List (List Kid)) × Int × Int × Unit) ⊕ ((List Kid) × (List (List Kid)) × Int × Int × Unit)) := match v with
  | (v0, v1, v2, v3, ()) =>
  bif decide (v3 < v2) then
    bif decide (0 ≤ v3) && decide (v3 < (v1.length : Int)) then
      bif decide (v0.length + List.length (v1.getD v3.toNat Kd.kids.dflt) < 4294967296) && true then
        some (Sum.inl (v0 ++ v1.getD v3.toNat Kd.kids.dflt, v1, v2, IntKind.i64.wrap (v3 + 1), ()))
      else
        none
    else
      none
  else
    some (Sum.inr (v0, v1, v2, v3, ()))
def X258_2 : (List Kid) × (List (List Kid)) × Int × Int × Unit → Option ((List Kid) × (List (List Kid)) × Int × Int × Unit) := loopF S258_2 bigN
def a258_2 {R : Type} : Ann R := annOf [.so 6 .kid, .sv 25 (.l .kids), .sv 26 (.d .int), .sv 27 (.d .int)] [] 2000 X258_2 (fun k e => k (.exit 2) e)
theorem r258_2 {R : Type} : RunOk Tryz.prog Tryz.f258.ntmps (.loop (bodyAt Tryz.f258 2)) (evalAnn (a258_2 (R := R))) :=
  loop_ok (cs := [.so 6 .kid, .sv 25 (.l .kids), .sv 26 (.d .int), .sv 27 (.d .int)]) (fs := []) (nx := 2000) (S := S258_2) (X := X258_2) rfl (kx := fun k e => k (.exit 2) e) (run_of_eval (R := R) (cs := [(274, k274)]) (fs := []) (ds := []) (fns := []) (la := fun _ _ => none) (.cons c274 .nil) .nil .nil .nil (.none fun _ _ _ h => by cases h) 8 _ 258 (bodyAt Tryz.f258 2) 2 (dstB (by kernel_rfl)) (fun _ _ _ h => by cases h)) fun rec k v => by
    obtain ⟨v0, v1, v2, v3, ⟨⟩⟩ := v; symm; (conv => lhs; simp only [S258_2, need_cond, need_obind, need_val, need_none, onOut_inl, onOut_inr])
    kernel_rfl
def S258_0 (v : (List (List Kid)) × Int × (List (List Kid)) × Int × Int × Unit) : Option (((List (List Kid)) × Int × (List (List Kid)) × Int × Int × Unit) ⊕ ((List (List Kid)) × Int × (List (List Kid)) × Int × Int × Unit)) := match v with
  | (v0, v1, v2, v3, v4, ()) =>
  bif decide (v4 < v3) then
    bif decide (0 ≤ v4) && decide (v4 < (v2.length : Int)) then
      bif decide (IntKind.i64.wrap (v1 + ((List.length (v2.getD v4.toNat Kd.kids.dflt)) : Int)) < 0) then
        none
      else
        some (Sum.inl (v0, IntKind.i64.wrap (v1 + ((List.length (v2.getD v4.toNat Kd.kids.dflt)) : Int)), v2, v3, IntKind.i64.wrap (v4 + 1), ()))
    else
      none
  else
    some (Sum.inr (v0, v1, v2, v3, v4, ()))
def X258_0 : (List (List Kid)) × Int × (List (List Kid)) × Int × Int × Unit → Option ((List (List Kid)) × Int × (List (List Kid)) × Int × Int × Unit) := loopF S258_0 bigN
def a258_0 {R : Type} : Ann R := annOf [.sv 0 (.l .kids), .sv 3 (.d .int), .sv 9 (.l .kids), .sv 10 (.d .int), .sv 11 (.d .int)] [] 1000 X258_0 (fun k e => k (.exit 0) e)
theorem r258_0 {R : Type} : RunOk Tryz.prog Tryz.f258.ntmps (.loop (bodyAt Tryz.f258 0)) (evalAnn (a258_0 (R := R))) :=
  loop_ok (cs := [.sv 0 (.l .kids), .sv 3 (.d .int), .sv 9 (.l .kids), .sv 10 (.d .int), .sv 11 (.d .int)]) (fs := []) (nx := 1000) (S := S258_0) (X := X258_0) rfl (kx := fun k e => k (.exit 0) e) (run_of_eval (R := R) (cs := [(274, k274)]) (fs := []) (ds := []) (fns := []) (la := fun _ _ => none) (.cons c274 .nil) .nil .nil .nil (.none fun _ _ _ h => by cases h) 8 _ 258 (bodyAt Tryz.f258 0) 0 (dstB (by kernel_rfl)) (fun _ _ _ h => by cases h)) fun rec k v => by
    obtain ⟨v0, v1, v2, v3, v4, ⟨⟩⟩ := v; symm; (conv => lhs; simp only [S258_0, need_cond, need_obind, need_val, need_none, onOut_inl, onOut_inr])
    kernel_rfl
def F258 (x0 : (List (List Kid))) : Option (List Kid) :=
  (X258_0 (x0, 0, x0, (x0.length : Int), 0, ())).bind fun y2 =>
    (F274 () y2.2.1).bind fun y3 =>
      (X258_2 (y3, y2.1, (y2.1.length : Int), 0, ())).bind fun y4 =>
        some (y4.1)
def la258 {R : Type} : FuncId → Nat → Option (LAnn R) := fun g b => cond (Nat.beq g 258) (cond (Nat.beq b 0) (some (.ann a258_0)) (cond (Nat.beq b 2) (some (.ann a258_2)) none)) none
theorem e258 (x0 : (List (List Kid))) : evalFn (cfg (R := (List Kid)) [(274, k274)] [] [] [(258, Tryz.f258)] (la258)) 8 258 [Ty.enc (.l .kids) x0] (RT.dec (.one (.l .kid))) = F258 x0 := by kernel_rfl
@[reducible] def k258 : Ctr := ⟨[.l .kids], .one (.l .kid), F258⟩
theorem c258 : Enters Tryz.prog 258 ∧ Ctr.Ok Tryz.prog 258 k258 :=
  ⟨enters Tryz.func258 n258 rfl, fun x0 y h => valid_of_eval (ρ := .one (.l .kid)) (la := la258) (.cons c274 .nil) .nil .nil (.cons Tryz.func258 n258 .nil) (.cons (ls := [(0, bodyAt Tryz.f258 0), (2, bodyAt Tryz.f258 2)]) (by kernel_rfl) ⟨(fun a ha => by have e := annEq ha (show (la258) 258 0 = some (LAnn.ann a258_0) from rfl); subst e; exact r258_0), ⟨(fun a ha => by have e := annEq ha (show (la258) 258 2 = some (LAnn.ann a258_2) from rfl); subst e; exact r258_2), trivial⟩⟩ .nil) ((e258 x0).trans h)⟩
theorem n275 : (Tryz.f275.name == "runtime.NumGoroutine") = false := by kernel_rfl
/- slices.Concat[[]batch.Entry,batch.Entry] -/
def S275_2 (v : (List Ent) × (List (List Ent)) × Int × Int × Unit) : Option (((List Ent) × (List (List Ent)) × Int × Int × Unit) ⊕ ((List Ent) × (List (List Ent)) × Int × Int × Unit)) := match v with
  | (v0, v1, v2, v3, ()) =>
  bif decide (v3 < v2) then
    bif decide (0 ≤ v3) && decide (v3 < (v1.length : Int)) then
      bif decide (v0.length + List.length (v1.getD v3.toNat Kd.box.dflt) < 4294967296) && true then
        some (Sum.inl (v0 ++ v1.getD v3.toNat Kd.box.dflt, v1, v2, IntKind.i64.wrap (v3 + 1), ()))
      else
        none
    else
      none
  else
    some (Sum.inr (v0, v1, v2, v3, ()))
def X275_2 : (List Ent) × (List (List Ent)) × Int × Int × Unit → Option ((List Ent) × (List (List Ent)) × Int × Int × Unit) := loopF S275_2 bigN
def a275_2 {R : Type} : Ann R := annOf [.so 6 .ent, .sv 25 (.l .box), .sv 26 (.d .int), .sv 27 (.d .int)] [] 2000 X275_2 (fun k e => k (.exit 2) e)
theorem r275_2 {R : Type} : RunOk Tryz.prog Tryz.f275.ntmps (.loop (bodyAt Tryz.f275 2)) (evalAnn (a275_2 (R := R))) :=
  loop_ok (cs := [.so 6 .ent, .sv 25 (.l .box), .sv 26 (.d .int), .sv 27 (.d .int)]) (fs := []) (nx := 2000) (S := S275_2) (X := X275_2) rfl (kx := fun k e => k (.exit 2) e) (run_of_eval (R := R) (cs := [(278, k278)]) (fs := []) (ds := []) (fns := []) (la := fun _ _ => none) (.cons c278 .nil) .nil .nil .nil (.none fun _ _ _ h => by cases h) 8 _ 275 (bodyAt Tryz.f275 2) 2 (dstB (by kernel_rfl)) (fun _ _ _ h => by cases h)) fun rec k v => by
    obtain ⟨v0, v1, v2, v3, ⟨⟩⟩ := v; symm; (conv => lhs; simp only [S275_2, need_cond, need_obind, need_val, need_none, onOut_inl, onOut_inr])
    kernel_rfl
def S275_0 (v : (List (List Ent)) × Int × (List (List Ent)) × Int × Int × Unit) : Option (((List (List Ent)) × Int × (List (List Ent)) × Int × Int × Unit) ⊕ ((List (List Ent)) × Int × (List (List Ent)) × Int × Int × Unit)) := match v with
  | (v0, v1, v2, v3, v4, ()) =>
  bif decide (v4 < v3) then
    bif decide (0 ≤ v4) && decide (v4 < (v2.length : Int)) then
      bif decide (IntKind.i64.wrap (v1 + ((List.length (v2.getD v4.toNat Kd.box.dflt)) : Int)) < 0) then
        none
      else
        some (Sum.inl (v0, IntKind.i64.wrap (v1 + ((List.length (v2.getD v4.toNat Kd.box.dflt)) : Int)), v2, v3, IntKind.i64.wrap (v4 + 1), ()))
    else
      none
  else
    some (Sum.inr (v0, v1, v2, v3, v4, ()))
def X275_0 : (List (List Ent)) × Int × (List (List Ent)) × Int × Int × Unit → Option ((List (List Ent)) × Int × (List (List Ent)) × Int × Int × Unit) := loopF S275_0 bigN
def a275_0 {R : Type} : Ann R := annOf [.sv 0 (.l .box), .sv 3 (.d .int), .sv 9 (.l .box), .sv 10 (.d .int), .sv 11 (.d .int)] [] 1000 X275_0 (fun k e => k (.exit 0) e)
theorem r275_0 {R : Type} : RunOk Tryz.prog Tryz.f275.ntmps (.loop (bodyAt Tryz.f275 0)) (evalAnn (a275_0 (R := R))) :=
  loop_ok (cs := [.sv 0 (.l .box), .sv 3 (.d .int), .sv 9 (.l .box), .sv 10 (.d .int), .sv 11 (.d .int)]) (fs := []) (nx := 1000) (S := S275_0) (X := X275_0) rfl (kx := fun k e => k (.exit 0) e) (run_of_eval (R := R) (cs := [(278, k278)]) (fs := []) (ds := []) (fns := []) (la := fun _ _ => none) (.cons c278 .nil) .nil .nil .nil (.none fun _ _ _ h => by cases h) 8 _ 275 (bodyAt Tryz.f275 0) 0 (dstB (by kernel_rfl)) (fun _ _ _ h => by cases h)) fun rec k v => by
    obtain ⟨v0, v1, v2, v3, v4, ⟨⟩⟩ := v; symm; (conv => lhs; simp only [S275_0, need_cond, need_obind, need_val, need_none, onOut_inl, onOut_inr])
    kernel_rfl
def F275 (x0 : (List (List Ent))) : Option (List Ent) :=
  (X275_0 (x0, 0, x0, (x0.length : Int), 0, ())).bind fun y2 =>
    (F278 () y2.2.1).bind fun y3 =>
      (X275_2 (y3, y2.1, (y2.1.length : Int), 0, ())).bind fun y4 =>
        some (y4.1)
def la275 {R : Type} : FuncId → Nat → Option (LAnn R) := fun g b => cond (Nat.beq g 275) (cond (Nat.beq b 0) (some (.ann a275_0)) (cond (Nat.beq b 2) (some (.ann a275_2)) none)) none
theorem e275 (x0 : (List (List Ent))) : evalFn (cfg (R := (List Ent)) [(278, k278)] [] [] [(275, Tryz.f275)] (la275)) 8 275 [Ty.enc (.l .box) x0] (RT.dec (.one (.l .ent))) = F275 x0 := by kernel_rfl
@[reducible] def k275 : Ctr := ⟨[.l .box], .one (.l .ent), F275⟩
theorem c275 : Enters Tryz.prog 275 ∧ Ctr.Ok Tryz.prog 275 k275 :=
  ⟨enters Tryz.func275 n275 rfl, fun x0 y h => valid_of_eval (ρ := .one (.l .ent)) (la := la275) (.cons c278 .nil) .nil .nil (.cons Tryz.func275 n275 .nil) (.cons (ls := [(0, bodyAt Tryz.f275 0), (2, bodyAt Tryz.f275 2)]) (by kernel_rfl) ⟨(fun a ha => by have e := annEq ha (show (la275) 275 0 = some (LAnn.ann a275_0) from rfl); subst e; exact r275_0), ⟨(fun a ha => by have e := annEq ha (show (la275) 275 2 = some (LAnn.ann a275_2) from rfl); subst e; exact r275_2), trivial⟩⟩ .nil) ((e275 x0).trans h)⟩
theorem n259 : (Tryz.f259.name == "runtime.NumGoroutine") = false := by kernel_rfl
/- batch.Join -/
def F259 (x0 : (List (List Ent))) : Option (List Ent) :=
  (F275 x0).bind fun y2 =>
    some (y2)
theorem e259 (x0 : (List (List Ent))) : evalFn (cfg (R := (List Ent)) [(275, k275)] [] [] [(259, Tryz.f259)] (fun _ _ => none)) 8 259 [Ty.enc (.l .box) x0] (RT.dec (.one (.l .ent))) = F259 x0 := by kernel_rfl
@[reducible] def k259 : Ctr := ⟨[.l .box], .one (.l .ent), F259⟩
theorem c259 : Enters Tryz.prog 259 ∧ Ctr.Ok Tryz.prog 259 k259 :=
  ⟨enters Tryz.func259 n259 rfl, fun x0 y h => valid_of_eval (ρ := .one (.l .ent)) (.cons c275 .nil) .nil .nil (.cons Tryz.func259 n259 .nil) (.none fun _ _ _ h => by cases h) ((e259 x0).trans h)⟩
theorem n221 : (Tryz.f221.name == "runtime.NumGoroutine") = false := by kernel_rfl
/- gather.Take -/
def F221 (x0 : Turn) (x1 : Int) (x2 : (List Ent)) : Option Turn :=
  (F258 [x0.th.kids, [{ thread := x1, ahead := (x0.th.batch.length : Int) }]]).bind fun y4 =>
    (F259 [x0.th.batch, x2]).bind fun y5 =>
      some ({ x0 with th := { x0.th with batch := y5, kids := y4 } })
theorem e221 (x0 : Turn) (x1 : Int) (x2 : (List Ent)) : evalFn (cfg (R := Turn) [(258, k258), (259, k259)] [] [] [(221, Tryz.f221)] (fun _ _ => none)) 8 221 [Ty.enc (.d .turn) x0, Ty.enc (.d .int) x1, Ty.enc (.l .ent) x2] (RT.dec (.one (.d .turn))) = F221 x0 x1 x2 := by kernel_rfl
@[reducible] def k221 : Ctr := ⟨[.d .turn, .d .int, .l .ent], .one (.d .turn), F221⟩
theorem c221 : Enters Tryz.prog 221 ∧ Ctr.Ok Tryz.prog 221 k221 :=
  ⟨enters Tryz.func221 n221 rfl, fun x0 x1 x2 y h => valid_of_eval (ρ := .one (.d .turn)) (.cons c258 (.cons c259 .nil)) .nil .nil (.cons Tryz.func221 n221 .nil) (.none fun _ _ _ h => by cases h) ((e221 x0 x1 x2).trans h)⟩
theorem n192 : (Tryz.f192.name == "runtime.NumGoroutine") = false := by kernel_rfl
theorem n220 : (Tryz.f220.name == "runtime.NumGoroutine") = false := by kernel_rfl
/- gather.collect -/
def F192 (x0 : Turn) : Option Turn :=
  (F219 x0.m x0.th.who).bind fun y2 =>
    bif y2.snd != 0 then
      some (x0)
    else
      (F217 10).bind fun y3 =>
        (F221 x0 x0.th.who y2.fst).bind fun y4 =>
          (F256 y4 y3).bind fun y5 =>
            some (y5)
theorem e192 (x0 : Turn) : evalFn (cfg (R := Turn) [(217, k217), (219, k219), (221, k221)] [] [(216, k216), (256, k256)] [(192, Tryz.f192), (216, Tryz.f216), (220, Tryz.f220), (256, Tryz.f256)] (fun _ _ => none)) 8 192 [Ty.enc (.d .turn) x0] (RT.dec (.one (.d .turn))) = F192 x0 := by kernel_rfl
@[reducible] def k192 : Ctr := ⟨[.d .turn], .one (.d .turn), F192⟩
theorem c192 : Enters Tryz.prog 192 ∧ Ctr.Ok Tryz.prog 192 k192 :=
  ⟨enters Tryz.func192 n192 rfl, fun x0 y h => valid_of_eval (ρ := .one (.d .turn)) (.cons c217 (.cons c219 (.cons c221 .nil))) .nil (.cons c216 (.cons c256 .nil)) (.cons Tryz.func192 n192 (.cons Tryz.func216 n216 (.cons Tryz.func220 n220 (.cons Tryz.func256 n256 .nil)))) (.none fun _ _ _ h => by cases h) ((e192 x0).trans h)⟩
theorem n193 : (Tryz.f193.name == "runtime.NumGoroutine") = false := by kernel_rfl
/- gather.free -/
def F193 (x0 : Turn) : Option Turn :=
  (F214 x0).bind fun y2 =>
    (F125 x0.m y2 0).bind fun y3 =>
      bif y3.snd != 0 then
        some (x0)
      else
        (F218 { x0 with m := y3.fst }).bind fun y4 =>
          some (y4)
theorem e193 (x0 : Turn) : evalFn (cfg (R := Turn) [(125, k125), (214, k214), (218, k218)] [] [(216, k216), (256, k256)] [(193, Tryz.f193), (216, Tryz.f216), (256, Tryz.f256)] (fun _ _ => none)) 8 193 [Ty.enc (.d .turn) x0] (RT.dec (.one (.d .turn))) = F193 x0 := by kernel_rfl
@[reducible] def k193 : Ctr := ⟨[.d .turn], .one (.d .turn), F193⟩
theorem c193 : Enters Tryz.prog 193 ∧ Ctr.Ok Tryz.prog 193 k193 :=
  ⟨enters Tryz.func193 n193 rfl, fun x0 y h => valid_of_eval (ρ := .one (.d .turn)) (.cons c125 (.cons c214 (.cons c218 .nil))) .nil (.cons c216 (.cons c256 .nil)) (.cons Tryz.func193 n193 (.cons Tryz.func216 n216 (.cons Tryz.func256 n256 .nil))) (.none fun _ _ _ h => by cases h) ((e193 x0).trans h)⟩
theorem n222 : (Tryz.f222.name == "runtime.NumGoroutine") = false := by kernel_rfl
/- wmem.Put -/
def F222 (x0 : Mem) (x1 : Int) (x2 : (List Ent)) : Option (Mem × Int) :=
  (F257 x0.boxes x1).bind fun y4 =>
    bif y4.snd != 0 then
      some ((x0, y4.snd))
    else
      (F260 x0.boxes).bind fun y5 =>
        (F211 x2).bind fun y6 =>
          bif decide (0 ≤ x1) && decide (x1 < (y5.length : Int)) then
            none
          else
            none
theorem e222 (x0 : Mem) (x1 : Int) (x2 : (List Ent)) : evalFn (cfg (R := (Mem × Int)) [(211, k211), (257, k257), (260, k260)] [] [] [(222, Tryz.f222)] (fun _ _ => none)) 8 222 [Ty.enc (.d .mem) x0, Ty.enc (.d .int) x1, Ty.enc (.l .ent) x2] (RT.dec (.two (.d .mem) (.d .int))) = F222 x0 x1 x2 := by kernel_rfl
@[reducible] def k222 : Ctr := ⟨[.d .mem, .d .int, .l .ent], .two (.d .mem) (.d .int), F222⟩
theorem c222 : Enters Tryz.prog 222 ∧ Ctr.Ok Tryz.prog 222 k222 :=
  ⟨enters Tryz.func222 n222 rfl, fun x0 x1 x2 y h => valid_of_eval (ρ := .two (.d .mem) (.d .int)) (.cons c211 (.cons c257 (.cons c260 .nil))) .nil .nil (.cons Tryz.func222 n222 .nil) (.none fun _ _ _ h => by cases h) ((e222 x0 x1 x2).trans h)⟩
theorem n194 : (Tryz.f194.name == "runtime.NumGoroutine") = false := by kernel_rfl
/- gather.publish -/
def F194 (x0 : Turn) : Option Turn :=
  (F222 x0.m x0.t x0.th.batch).bind fun y2 =>
    (F217 12).bind fun y3 =>
      (F216 x0 y2.fst y2.snd y3).bind fun y4 =>
        some (y4)
theorem e194 (x0 : Turn) : evalFn (cfg (R := Turn) [(217, k217), (222, k222)] [] [(216, k216), (256, k256)] [(194, Tryz.f194), (216, Tryz.f216), (256, Tryz.f256)] (fun _ _ => none)) 8 194 [Ty.enc (.d .turn) x0] (RT.dec (.one (.d .turn))) = F194 x0 := by kernel_rfl
@[reducible] def k194 : Ctr := ⟨[.d .turn], .one (.d .turn), F194⟩
theorem c194 : Enters Tryz.prog 194 ∧ Ctr.Ok Tryz.prog 194 k194 :=
  ⟨enters Tryz.func194 n194 rfl, fun x0 y h => valid_of_eval (ρ := .one (.d .turn)) (.cons c217 (.cons c222 .nil)) .nil (.cons c216 (.cons c256 .nil)) (.cons Tryz.func194 n194 (.cons Tryz.func216 n216 (.cons Tryz.func256 n256 .nil))) (.none fun _ _ _ h => by cases h) ((e194 x0).trans h)⟩
theorem n223 : (Tryz.f223.name == "runtime.NumGoroutine") = false := by kernel_rfl
/- code.Deposited -/
def F223 (x0 : Int) : Option Int :=
  (F185 (3, x0)).bind fun y2 =>
    some (y2)
theorem e223 (x0 : Int) : evalFn (cfg (R := Int) [(185, k185)] [] [] [(223, Tryz.f223)] (fun _ _ => none)) 8 223 [Ty.enc (.d .int) x0] (RT.dec (.one (.d .int))) = F223 x0 := by kernel_rfl
@[reducible] def k223 : Ctr := ⟨[.d .int], .one (.d .int), F223⟩
theorem c223 : Enters Tryz.prog 223 ∧ Ctr.Ok Tryz.prog 223 k223 :=
  ⟨enters Tryz.func223 n223 rfl, fun x0 y h => valid_of_eval (ρ := .one (.d .int)) (.cons c185 .nil) .nil .nil (.cons Tryz.func223 n223 .nil) (.none fun _ _ _ h => by cases h) ((e223 x0).trans h)⟩
theorem n195 : (Tryz.f195.name == "runtime.NumGoroutine") = false := by kernel_rfl
/- gather.deposit -/
def F195 (x0 : Turn) : Option Turn :=
  (F135 x0.c x0.th.item x0.th.stop).bind fun y2 =>
    (F223 x0.t).bind fun y3 =>
      (F125 x0.m y2 y3).bind fun y4 =>
        (F217 13).bind fun y5 =>
          (F216 x0 y4.fst y4.snd y5).bind fun y6 =>
            some (y6)
theorem e195 (x0 : Turn) : evalFn (cfg (R := Turn) [(125, k125), (135, k135), (217, k217), (223, k223)] [] [(216, k216), (256, k256)] [(195, Tryz.f195), (216, Tryz.f216), (256, Tryz.f256)] (fun _ _ => none)) 8 195 [Ty.enc (.d .turn) x0] (RT.dec (.one (.d .turn))) = F195 x0 := by kernel_rfl
@[reducible] def k195 : Ctr := ⟨[.d .turn], .one (.d .turn), F195⟩
theorem c195 : Enters Tryz.prog 195 ∧ Ctr.Ok Tryz.prog 195 k195 :=
  ⟨enters Tryz.func195 n195 rfl, fun x0 y h => valid_of_eval (ρ := .one (.d .turn)) (.cons c125 (.cons c135 (.cons c217 (.cons c223 .nil)))) .nil (.cons c216 (.cons c256 .nil)) (.cons Tryz.func195 n195 (.cons Tryz.func216 n216 (.cons Tryz.func256 n256 .nil))) (.none fun _ _ _ h => by cases h) ((e195 x0).trans h)⟩
theorem n87 : (Tryz.f87.name == "runtime.NumGoroutine") = false := by kernel_rfl
theorem n143 : (Tryz.f143.name == "runtime.NumGoroutine") = false := by kernel_rfl
/- gather.Step -/
def F87 (x0 : Turn) : Option (Turn × Bool) :=
  bif x0.th.phase == 7 then
    (F190 x0).bind fun y2 =>
      some ((y2, true))
  else
    bif x0.th.phase == 8 then
      (F191 x0).bind fun y2 =>
        some ((y2, true))
    else
      bif x0.th.phase == 9 then
        (F192 x0).bind fun y2 =>
          some ((y2, true))
      else
        bif x0.th.phase == 10 then
          (F193 x0).bind fun y2 =>
            some ((y2, true))
        else
          bif x0.th.phase == 11 then
            (F194 x0).bind fun y2 =>
              some ((y2, true))
          else
            bif x0.th.phase == 12 then
              (F195 x0).bind fun y2 =>
                some ((y2, true))
            else
              some ((x0, false))
theorem e87 (x0 : Turn) : evalFn (cfg (R := (Turn × Bool)) [(190, k190), (191, k191), (192, k192), (193, k193), (194, k194), (195, k195)] [] [] [(87, Tryz.f87), (143, Tryz.f143)] (fun _ _ => none)) 8 87 [Ty.enc (.d .turn) x0] (RT.dec (.two (.d .turn) (.d .bool))) = F87 x0 := by kernel_rfl
@[reducible] def k87 : Ctr := ⟨[.d .turn], .two (.d .turn) (.d .bool), F87⟩
theorem c87 : Enters Tryz.prog 87 ∧ Ctr.Ok Tryz.prog 87 k87 :=
  ⟨enters Tryz.func87 n87 rfl, fun x0 y h => valid_of_eval (ρ := .two (.d .turn) (.d .bool)) (.cons c190 (.cons c191 (.cons c192 (.cons c193 (.cons c194 (.cons c195 .nil)))))) .nil .nil (.cons Tryz.func87 n87 (.cons Tryz.func143 n143 .nil)) (.none fun _ _ _ h => by cases h) ((e87 x0).trans h)⟩
theorem n144 : (Tryz.f144.name == "runtime.NumGoroutine") = false := by kernel_rfl
/- code.Open -/
def F144 (x0 : Int) (x1 : Int) : Option Int :=
  (F185 (4, IntKind.i64.wrap (IntKind.i64.wrap (x0 * 2 ^ min (Int.toNat 4) IntKind.i64.bits) + x1))).bind fun y3 =>
    some (y3)
theorem e144 (x0 : Int) (x1 : Int) : evalFn (cfg (R := Int) [(185, k185)] [] [] [(144, Tryz.f144)] (fun _ _ => none)) 8 144 [Ty.enc (.d .int) x0, Ty.enc (.d .int) x1] (RT.dec (.one (.d .int))) = F144 x0 x1 := by kernel_rfl
@[reducible] def k144 : Ctr := ⟨[.d .int, .d .int], .one (.d .int), F144⟩
theorem c144 : Enters Tryz.prog 144 ∧ Ctr.Ok Tryz.prog 144 k144 :=
  ⟨enters Tryz.func144 n144 rfl, fun x0 x1 y h => valid_of_eval (ρ := .one (.d .int)) (.cons c185 .nil) .nil .nil (.cons Tryz.func144 n144 .nil) (.none fun _ _ _ h => by cases h) ((e144 x0 x1).trans h)⟩
theorem n279 : (Tryz.f279.name == "runtime.NumGoroutine") = false := by kernel_rfl
/- tape.Left -/
def F279 (x0 : Tape) : Option Int :=
  bif decide (x0.at_ < 0) then
    some (0)
  else
    some (if true = true then if IntKind.i64.wrap ((x0.l.length : Int) - x0.at_) > 0 then IntKind.i64.wrap ((x0.l.length : Int) - x0.at_) else 0 else if IntKind.i64.wrap ((x0.l.length : Int) - x0.at_) < 0 then IntKind.i64.wrap ((x0.l.length : Int) - x0.at_) else 0)
theorem e279 (x0 : Tape) : evalFn (cfg (R := Int) [] [] [] [(279, Tryz.f279)] (fun _ _ => none)) 8 279 [Ty.enc (.d .tape) x0] (RT.dec (.one (.d .int))) = F279 x0 := by kernel_rfl
@[reducible] def k279 : Ctr := ⟨[.d .tape], .one (.d .int), F279⟩
theorem c279 : Enters Tryz.prog 279 ∧ Ctr.Ok Tryz.prog 279 k279 :=
  ⟨enters Tryz.func279 n279 rfl, fun x0 y h => valid_of_eval (ρ := .one (.d .int)) .nil .nil .nil (.cons Tryz.func279 n279 .nil) (.none fun _ _ _ h => by cases h) ((e279 x0).trans h)⟩
theorem n261 : (Tryz.f261.name == "runtime.NumGoroutine") = false := by kernel_rfl
theorem n276 : (Tryz.f276.name == "runtime.NumGoroutine") = false := by kernel_rfl
/- tape.Next -/
def F261 (x0 : Tape) : Option (Int × Tape) :=
  (F279 x0).bind fun y2 =>
    bif decide (y2 > 0) then
      bif decide (0 ≤ x0.at_) && decide (x0.at_ < (x0.l.length : Int)) then
        some ((x0.l.getD x0.at_.toNat Kd.int.dflt, { x0 with at_ := IntKind.i64.wrap (x0.at_ + 1) }))
      else
        none
    else
      some ((0, x0))
theorem e261 (x0 : Tape) : evalFn (cfg (R := (Int × Tape)) [(279, k279)] [] [] [(261, Tryz.f261), (276, Tryz.f276)] (fun _ _ => none)) 8 261 [Ty.enc (.d .tape) x0] (RT.dec (.two (.d .int) (.d .tape))) = F261 x0 := by kernel_rfl
@[reducible] def k261 : Ctr := ⟨[.d .tape], .two (.d .int) (.d .tape), F261⟩
theorem c261 : Enters Tryz.prog 261 ∧ Ctr.Ok Tryz.prog 261 k261 :=
  ⟨enters Tryz.func261 n261 rfl, fun x0 y h => valid_of_eval (ρ := .two (.d .int) (.d .tape)) (.cons c279 .nil) .nil .nil (.cons Tryz.func261 n261 (.cons Tryz.func276 n276 .nil)) (.none fun _ _ _ h => by cases h) ((e261 x0).trans h)⟩
theorem n224 : (Tryz.f224.name == "runtime.NumGoroutine") = false := by kernel_rfl
/- tape.Below -/
def F224 (x0 : Tape) (x1 : Int) : Option (Int × Tape) :=
  bif decide (x1 < 1) then
    some ((0, x0))
  else
    (F261 x0).bind fun y3 =>
      bif !x1 == 0 then
        bif decide (Int.tmod y3.fst x1 < 0) then
          some ((IntKind.i64.wrap (Int.tmod y3.fst x1 + x1), y3.snd))
        else
          some ((Int.tmod y3.fst x1, y3.snd))
      else
        none
theorem e224 (x0 : Tape) (x1 : Int) : evalFn (cfg (R := (Int × Tape)) [(261, k261)] [] [] [(224, Tryz.f224)] (fun _ _ => none)) 8 224 [Ty.enc (.d .tape) x0, Ty.enc (.d .int) x1] (RT.dec (.two (.d .int) (.d .tape))) = F224 x0 x1 := by kernel_rfl
@[reducible] def k224 : Ctr := ⟨[.d .tape, .d .int], .two (.d .int) (.d .tape), F224⟩
theorem c224 : Enters Tryz.prog 224 ∧ Ctr.Ok Tryz.prog 224 k224 :=
  ⟨enters Tryz.func224 n224 rfl, fun x0 x1 y h => valid_of_eval (ρ := .two (.d .int) (.d .tape)) (.cons c261 .nil) .nil .nil (.cons Tryz.func224 n224 .nil) (.none fun _ _ _ h => by cases h) ((e224 x0 x1).trans h)⟩
theorem n225 : (Tryz.f225.name == "runtime.NumGoroutine") = false := by kernel_rfl
theorem n262 : (Tryz.f262.name == "runtime.NumGoroutine") = false := by kernel_rfl
/- wmem.Swap -/
def F225 (x0 : Mem) (x1 : Int) (x2 : Int) : Option (Mem × Int × Int) :=
  (F155 x0.words x1).bind fun y4 =>
    bif y4.snd != 0 then
      some ((x0, 0, y4.snd))
    else
      (F72 x0.words).bind fun y5 =>
        bif decide (0 ≤ x1) && decide (x1 < (y5.length : Int)) then
          some (({ x0 with words := y5.set x1.toNat x2 }, y4))
        else
          none
theorem e225 (x0 : Mem) (x1 : Int) (x2 : Int) : evalFn (cfg (R := (Mem × Int × Int)) [(72, k72), (155, k155)] [] [] [(225, Tryz.f225), (171, Tryz.f171), (262, Tryz.f262)] (fun _ _ => none)) 8 225 [Ty.enc (.d .mem) x0, Ty.enc (.d .int) x1, Ty.enc (.d .int) x2] (RT.dec (.three (.d .mem) (.d .int) (.d .int))) = F225 x0 x1 x2 := by kernel_rfl
@[reducible] def k225 : Ctr := ⟨[.d .mem, .d .int, .d .int], .three (.d .mem) (.d .int) (.d .int), F225⟩
theorem c225 : Enters Tryz.prog 225 ∧ Ctr.Ok Tryz.prog 225 k225 :=
  ⟨enters Tryz.func225 n225 rfl, fun x0 x1 x2 y h => valid_of_eval (ρ := .three (.d .mem) (.d .int) (.d .int)) (.cons c72 (.cons c155 .nil)) .nil .nil (.cons Tryz.func225 n225 (.cons Tryz.func171 n171 (.cons Tryz.func262 n262 .nil))) (.none fun _ _ _ h => by cases h) ((e225 x0 x1 x2).trans h)⟩
theorem n226 : (Tryz.f226.name == "runtime.NumGoroutine") = false := by kernel_rfl
theorem n263 : (Tryz.f263.name == "runtime.NumGoroutine") = false := by kernel_rfl
theorem n264 : (Tryz.f264.name == "runtime.NumGoroutine") = false := by kernel_rfl
theorem n265 : (Tryz.f265.name == "runtime.NumGoroutine") = false := by kernel_rfl
/- arena.Slot -/
def F226 (x0 : Cfg) (x1 : Int) (x2 : Int) (x3 : Int) : Option Int :=
  bif decide (x1 < 0) then
    some (-1)
  else
    bif decide (x1 ≥ x0.items) then
      some (-1)
    else
      bif decide (x2 < 1) then
        some (-1)
      else
        bif decide (x2 ≥ IntKind.i64.wrap (1 + x0.layers)) then
          some (-1)
        else
          bif decide (x3 < 0) then
            some (-1)
          else
            bif decide (x3 ≥ x0.width) then
              some (-1)
            else
              (F149 x0).bind fun y5 =>
                (F149 x0).bind fun y6 =>
                  some (IntKind.i64.wrap (IntKind.i64.wrap (IntKind.i64.wrap (IntKind.i64.wrap (x1 * y5.snd.snd.fst) + y6.snd.fst) + IntKind.i64.wrap (IntKind.i64.wrap (x2 - 1) * x0.width)) + x3))
theorem e226 (x0 : Cfg) (x1 : Int) (x2 : Int) (x3 : Int) : evalFn (cfg (R := Int) [(149, k149)] [(150, k150)] [] [(226, Tryz.f226), (150, Tryz.f150), (184, Tryz.f184), (263, Tryz.f263), (264, Tryz.f264), (265, Tryz.f265)] (fun _ _ => none)) 8 226 [Ty.enc (.d .cfg) x0, Ty.enc (.d .int) x1, Ty.enc (.d .int) x2, Ty.enc (.d .int) x3] (RT.dec (.one (.d .int))) = F226 x0 x1 x2 x3 := by kernel_rfl
@[reducible] def k226 : Ctr := ⟨[.d .cfg, .d .int, .d .int, .d .int], .one (.d .int), F226⟩
theorem c226 : Enters Tryz.prog 226 ∧ Ctr.Ok Tryz.prog 226 k226 :=
  ⟨enters Tryz.func226 n226 rfl, fun x0 x1 x2 x3 y h => valid_of_eval (ρ := .one (.d .int)) (.cons c149 .nil) (.cons c150 .nil) .nil (.cons Tryz.func226 n226 (.cons Tryz.func150 n150 (.cons Tryz.func184 n184 (.cons Tryz.func263 n263 (.cons Tryz.func264 n264 (.cons Tryz.func265 n265 .nil)))))) (.none fun _ _ _ h => by cases h) ((e226 x0 x1 x2 x3).trans h)⟩
theorem n146 : (Tryz.f146.name == "runtime.NumGoroutine") = false := by kernel_rfl
/- (*collide.diver).line -/
def F146 (x0 : Div) (x1 : Int) : Option Int :=
  (F126 ([x0].getD 0 Kd.div.dflt).u.c x1).bind fun y3 =>
    some (y3)
theorem e146 (x0 : Div) (x1 : Int) : evalFn (cfg (R := Int) [(126, k126)] [] [] [(146, Tryz.f146)] (fun _ _ => none)) 8 146 [Ty.enc (.ref .div) x0, Ty.enc (.d .int) x1] (RT.dec (.one (.d .int))) = F146 x0 x1 := by kernel_rfl
@[reducible] def k146 : Ctr := ⟨[.ref .div, .d .int], .one (.d .int), F146⟩
theorem c146 : Enters Tryz.prog 146 ∧ Ctr.Ok Tryz.prog 146 k146 :=
  ⟨enters Tryz.func146 n146 rfl, fun x0 x1 y h => valid_of_eval (ρ := .one (.d .int)) (.cons c126 .nil) .nil .nil (.cons Tryz.func146 n146 .nil) (.none fun _ _ _ h => by cases h) ((e146 x0 x1).trans h)⟩
theorem n88 : (Tryz.f88.name == "runtime.NumGoroutine") = false := by kernel_rfl
theorem n145 : (Tryz.f145.name == "runtime.NumGoroutine") = false := by kernel_rfl
theorem n196 : (Tryz.f196.name == "runtime.NumGoroutine") = false := by kernel_rfl
theorem n197 : (Tryz.f197.name == "runtime.NumGoroutine") = false := by kernel_rfl
theorem n198 : (Tryz.f198.name == "runtime.NumGoroutine") = false := by kernel_rfl
theorem n199 : (Tryz.f199.name == "runtime.NumGoroutine") = false := by kernel_rfl
/- collide.Step -/
def F88 (x0 : Turn) : Option (Turn × Bool) :=
  (F144 x0.th.item x0.th.layer).bind fun y2 =>
    bif x0.th.phase == 17 then
      (F222 x0.m x0.t x0.th.batch).bind fun y3 =>
        bif y3.snd == 0 then
          some (({ x0 with m := y3.fst, th := { x0.th with phase := 18 } }, true))
        else
          some ((x0, true))
    else
      bif x0.th.phase == 18 then
        (F146 { u := x0, op := y2 } x0.t).bind fun y3 =>
          (F125 x0.m y3 y2).bind fun y4 =>
            bif y4.snd == 0 then
              some (({ x0 with m := y4.fst, th := { x0.th with phase := 19 } }, true))
            else
              some ((x0, true))
      else
        bif x0.th.phase == 19 then
          (F224 x0.tape x0.th.width).bind fun y3 =>
            (F226 x0.c x0.th.item x0.th.layer y3.fst).bind fun y4 =>
              (F225 x0.m y4 (IntKind.i64.wrap (x0.t + 1))).bind fun y5 =>
                bif y5.snd.snd != 0 then
                  some ((x0, true))
                else
                  bif decide (y5.snd.fst < 1) then
                    some (({ x0 with m := y5.fst, th := { x0.th with phase := 23, left := x0.c.spin }, tape := y3.snd }, true))
                  else
                    bif decide (y5.snd.fst > x0.c.threads) then
                      some (({ x0 with m := y5.fst, th := { x0.th with phase := 23, left := x0.c.spin }, tape := y3.snd }, true))
                    else
                      bif y5.snd.fst == IntKind.i64.wrap (x0.t + 1) then
                        some (({ x0 with m := y5.fst, th := { x0.th with phase := 23, left := x0.c.spin }, tape := y3.snd }, true))
                      else
                        some (({ x0 with m := y5.fst, th := { x0.th with phase := 20, who := IntKind.i64.wrap (y5.snd.fst - 1) }, tape := y3.snd }, true))
        else
          bif x0.th.phase == 20 then
            (F146 { u := x0, op := y2 } x0.t).bind fun y3 =>
              (F139 x0.m y3 y2 0).bind fun y4 =>
                bif y4.snd.snd != 0 then
                  some ((x0, true))
                else
                  bif y4.snd.fst then
                    bif x0.th.phase == 26 then
                      (F133 { x0 with m := y4.fst, th := { x0.th with phase := 21, width := if true = true then if x0.th.width.fdiv (2 ^ min (Int.toNat 1) IntKind.i64.bits) > 1 then x0.th.width.fdiv (2 ^ min (Int.toNat 1) IntKind.i64.bits) else 1 else if x0.th.width.fdiv (2 ^ min (Int.toNat 1) IntKind.i64.bits) < 1 then x0.th.width.fdiv (2 ^ min (Int.toNat 1) IntKind.i64.bits) else 1 } }).bind fun y5 =>
                        some ((y5, true))
                    else
                      some (({ x0 with m := y4.fst, th := { x0.th with phase := 21 } }, true))
                  else
                    some (({ x0 with m := y4.fst, th := { x0.th with phase := 13 } }, true))
          else
            bif x0.th.phase == 21 then
              (F146 { u := x0, op := y2 } x0.th.who).bind fun y3 =>
                (F139 x0.m y3 y2 0).bind fun y4 =>
                  bif y4.snd.snd != 0 then
                    some ((x0, true))
                  else
                    bif y4.snd.fst then
                      bif x0.th.phase == 26 then
                        (F133 { x0 with m := y4.fst, th := { x0.th with phase := 22, width := if true = true then if x0.th.width.fdiv (2 ^ min (Int.toNat 1) IntKind.i64.bits) > 1 then x0.th.width.fdiv (2 ^ min (Int.toNat 1) IntKind.i64.bits) else 1 else if x0.th.width.fdiv (2 ^ min (Int.toNat 1) IntKind.i64.bits) < 1 then x0.th.width.fdiv (2 ^ min (Int.toNat 1) IntKind.i64.bits) else 1 } }).bind fun y5 =>
                          some ((y5, true))
                      else
                        some (({ x0 with m := y4.fst, th := { x0.th with phase := 22 } }, true))
                    else
                      some (({ x0 with m := y4.fst, th := { x0.th with phase := 24 } }, true))
            else
              bif x0.th.phase == 22 then
                (F219 x0.m x0.th.who).bind fun y3 =>
                  bif y3.snd == 0 then
                    (F221 x0 x0.th.who y3.fst).bind fun y4 =>
                      some (({ y4 with th := { y4.th with phase := 25 } }, true))
                  else
                    some ((x0, true))
              else
                bif x0.th.phase == 23 then
                  (F146 { u := x0, op := y2 } x0.t).bind fun y3 =>
                    (F101 x0.m y3).bind fun y4 =>
                      bif y4.snd != 0 then
                        some ((x0, true))
                      else
                        bif y4.fst != y2 then
                          some (({ x0 with th := { x0.th with phase := 13 } }, true))
                        else
                          bif decide (x0.th.left > 0) then
                            (F181 x0).bind fun y5 =>
                              bif !y5 then
                                some (({ x0 with th := { x0.th with left := IntKind.i64.wrap (x0.th.left - 1) } }, true))
                              else
                                some (({ x0 with th := { x0.th with phase := 26 } }, true))
                          else
                            some (({ x0 with th := { x0.th with phase := 26 } }, true))
                else
                  bif x0.th.phase == 24 then
                    (F146 { u := x0, op := y2 } x0.t).bind fun y3 =>
                      (F125 x0.m y3 y2).bind fun y4 =>
                        bif y4.snd == 0 then
                          some (({ x0 with m := y4.fst, th := { x0.th with phase := 23, left := x0.c.spin } }, true))
                        else
                          some ((x0, true))
                  else
                    bif x0.th.phase == 26 then
                      (F146 { u := x0, op := y2 } x0.t).bind fun y3 =>
                        (F139 x0.m y3 y2 0).bind fun y4 =>
                          bif y4.snd.snd != 0 then
                            some ((x0, true))
                          else
                            bif y4.snd.fst then
                              bif x0.th.phase == 26 then
                                (F133 { x0 with m := y4.fst, th := { x0.th with phase := 26, width := if true = true then if x0.th.width.fdiv (2 ^ min (Int.toNat 1) IntKind.i64.bits) > 1 then x0.th.width.fdiv (2 ^ min (Int.toNat 1) IntKind.i64.bits) else 1 else if x0.th.width.fdiv (2 ^ min (Int.toNat 1) IntKind.i64.bits) < 1 then x0.th.width.fdiv (2 ^ min (Int.toNat 1) IntKind.i64.bits) else 1 } }).bind fun y5 =>
                                  some ((y5, true))
                              else
                                some (({ x0 with m := y4.fst, th := { x0.th with phase := 26 } }, true))
                            else
                              some (({ x0 with m := y4.fst, th := { x0.th with phase := 13 } }, true))
                    else
                      some ((x0, false))
theorem e88 (x0 : Turn) : evalFn (cfg (R := (Turn × Bool)) [(101, k101), (125, k125), (126, k126), (133, k133), (139, k139), (144, k144), (181, k181), (219, k219), (221, k221), (222, k222), (224, k224), (225, k225), (226, k226)] [(146, k146)] [] [(88, Tryz.f88), (145, Tryz.f145), (146, Tryz.f146), (196, Tryz.f196), (197, Tryz.f197), (198, Tryz.f198), (199, Tryz.f199)] (fun _ _ => some (.unroll 2))) 8 88 [Ty.enc (.d .turn) x0] (RT.dec (.two (.d .turn) (.d .bool))) = F88 x0 := by kernel_rfl
@[reducible] def k88 : Ctr := ⟨[.d .turn], .two (.d .turn) (.d .bool), F88⟩
theorem c88 : Enters Tryz.prog 88 ∧ Ctr.Ok Tryz.prog 88 k88 :=
  ⟨enters Tryz.func88 n88 rfl, fun x0 y h => valid_of_eval (ρ := .two (.d .turn) (.d .bool)) (.cons c101 (.cons c125 (.cons c126 (.cons c133 (.cons c139 (.cons c144 (.cons c181 (.cons c219 (.cons c221 (.cons c222 (.cons c224 (.cons c225 (.cons c226 .nil))))))))))))) (.cons c146 .nil) .nil (.cons Tryz.func88 n88 (.cons Tryz.func145 n145 (.cons Tryz.func146 n146 (.cons Tryz.func196 n196 (.cons Tryz.func197 n197 (.cons Tryz.func198 n198 (.cons Tryz.func199 n199 .nil))))))) (.none fun _ _ _ h => by cases h) ((e88 x0).trans h)⟩
theorem n35 : (Tryz.f35.name == "runtime.NumGoroutine") = false := by kernel_rfl
/- machine.Step -/
def F35 (x0 : Turn) : Option Turn :=
  (F26 x0.th).bind fun y2 =>
    bif !y2 then
      some (x0)
    else
      (F83 { x0 with log := [], done := false }).bind fun y3 =>
        bif !y3.snd then
          (F84 { x0 with log := [], done := false }).bind fun y4 =>
            bif !y4.snd then
              (F85 { x0 with log := [], done := false }).bind fun y5 =>
                bif !y5.snd then
                  (F86 { x0 with log := [], done := false }).bind fun y6 =>
                    bif !y6.snd then
                      (F87 { x0 with log := [], done := false }).bind fun y7 =>
                        bif !y7.snd then
                          (F88 { x0 with log := [], done := false }).bind fun y8 =>
                            bif !y8.snd then
                              some ({ x0 with log := [], done := false })
                            else
                              some (y8.fst)
                        else
                          some (y7.fst)
                    else
                      some (y6.fst)
                else
                  some (y5.fst)
            else
              some (y4.fst)
        else
          some (y3.fst)
theorem e35 (x0 : Turn) : evalFn (cfg (R := Turn) [(26, k26), (83, k83), (84, k84), (85, k85), (86, k86), (87, k87), (88, k88)] [] [] [(35, Tryz.f35)] (fun _ _ => some (.unroll 7))) 8 35 [Ty.enc (.d .turn) x0] (RT.dec (.one (.d .turn))) = F35 x0 := by kernel_rfl
@[reducible] def k35 : Ctr := ⟨[.d .turn], .one (.d .turn), F35⟩
theorem c35 : Enters Tryz.prog 35 ∧ Ctr.Ok Tryz.prog 35 k35 :=
  ⟨enters Tryz.func35 n35 rfl, fun x0 y h => valid_of_eval (ρ := .one (.d .turn)) (.cons c26 (.cons c83 (.cons c84 (.cons c85 (.cons c86 (.cons c87 (.cons c88 .nil))))))) .nil .nil (.cons Tryz.func35 n35 .nil) (.none fun _ _ _ h => by cases h) ((e35 x0).trans h)⟩
theorem n36 : (Tryz.f36.name == "runtime.NumGoroutine") = false := by kernel_rfl
/- machine.Solo -/
def S36_0 (v : Int × Turn × Turn × Unit) : Option ((Int × Turn × Turn × Unit) ⊕ (Int × Turn × Turn × Unit)) := match v with
  | (v0, v1, v2, ()) =>
  bif decide (v0 > 0) then
    (F26 v1.th).bind fun y4 =>
      bif y4 then
        (F35 v1).bind fun y5 =>
          bif y5.done then
            some (Sum.inr (v0, y5, v2, ()))
          else
            some (Sum.inl (IntKind.i64.wrap (v0 - 1), y5, v2, ()))
      else
        some (Sum.inr (v0, v1, v2, ()))
  else
    some (Sum.inr (v0, v1, v2, ()))
def X36_0 : Int × Turn × Turn × Unit → Option (Int × Turn × Turn × Unit) := loopF S36_0 bigN
def a36_0 {R : Type} : Ann R := annOf [.sv 1 (.d .int), .bv 0 .turn [], .bv 1 .turn []] [.s 2 ⟨false, [.ptr (.box 0 0)]⟩, .s 4 ⟨false, [.ptr (.box 1 0)]⟩] 1000 X36_0 (fun k e => k (.exit 0) e)
theorem r36_0 {R : Type} : RunOk Tryz.prog Tryz.f36.ntmps (.loop (bodyAt Tryz.f36 0)) (evalAnn (a36_0 (R := R))) :=
  loop_ok (cs := [.sv 1 (.d .int), .bv 0 .turn [], .bv 1 .turn []]) (fs := [.s 2 ⟨false, [.ptr (.box 0 0)]⟩, .s 4 ⟨false, [.ptr (.box 1 0)]⟩]) (nx := 1000) (S := S36_0) (X := X36_0) rfl (kx := fun k e => k (.exit 0) e) (run_of_eval (R := R) (cs := [(26, k26), (35, k35)]) (fs := []) (ds := []) (fns := []) (la := fun _ _ => none) (.cons c26 (.cons c35 .nil)) .nil .nil .nil (.none fun _ _ _ h => by cases h) 8 _ 36 (bodyAt Tryz.f36 0) 0 (dstB (by kernel_rfl)) (fun _ _ _ h => by cases h)) fun rec k v => by
    obtain ⟨v0, v1, v2, ⟨⟩⟩ := v; symm; (conv => lhs; simp only [S36_0, need_cond, need_obind, need_val, need_none, onOut_inl, onOut_inr])
    kernel_rfl
def F36 (x0 : Turn) (x1 : Int) : Option Turn :=
  (X36_0 (x1, x0, { c := { threads := 0, items := 0, backend := 0, depth := 0, layers := 0, width := 0, spin := 0, wait := 0, bounded := false, lo := 0, hi := 0, init := 0 }, t := 0, now := 0, m := { words := [], boxes := [] }, th := { phase := 0, item := 0, op := { tag := 0, v := 0 }, batch := [], kids := [], held := [], stop := 0, node := 0, at_ := 0, layer := 0, left := 0, width := 0, who := 0, x := 0, y := 0, til := 0 }, tape := { l := [], at_ := 0 }, log := [], done := false }, ())).bind fun y3 =>
    some (y3.2.1)
def la36 {R : Type} : FuncId → Nat → Option (LAnn R) := fun g b => cond (Nat.beq g 36) (cond (Nat.beq b 0) (some (.ann a36_0)) none) none
theorem e36 (x0 : Turn) (x1 : Int) : evalFn (cfg (R := Turn) [(26, k26), (35, k35)] [] [] [(36, Tryz.f36)] (la36)) 8 36 [Ty.enc (.d .turn) x0, Ty.enc (.d .int) x1] (RT.dec (.one (.d .turn))) = F36 x0 x1 := by kernel_rfl
@[reducible] def k36 : Ctr := ⟨[.d .turn, .d .int], .one (.d .turn), F36⟩
theorem c36 : Enters Tryz.prog 36 ∧ Ctr.Ok Tryz.prog 36 k36 :=
  ⟨enters Tryz.func36 n36 rfl, fun x0 x1 y h => valid_of_eval (ρ := .one (.d .turn)) (la := la36) (.cons c26 (.cons c35 .nil)) .nil .nil (.cons Tryz.func36 n36 .nil) (.cons (ls := [(0, bodyAt Tryz.f36 0)]) (by kernel_rfl) ⟨(fun a ha => by have e := annEq ha (show (la36) 36 0 = some (LAnn.ann a36_0) from rfl); subst e; exact r36_0), trivial⟩ .nil) ((e36 x0 x1).trans h)⟩
theorem n147 : (Tryz.f147.name == "runtime.NumGoroutine") = false := by kernel_rfl
/- wmem.made[int] -/
def F147 (x0 : Int) : Option (List Int) :=
  bif decide (x0 < 1) then
    some ([])
  else
    bif decide (x0 > 10000) then
      some ([])
    else
      bif Kd.int.sz.beq 1 && Nat.blt 8 1024 && decide (x0 = x0) && (decide (0 ≤ x0) && decide (x0 < 4294967296)) then
        some (List.replicate x0.toNat 0)
      else
        none
theorem e147 (x0 : Int) : evalFn (cfg (R := (List Int)) [] [] [] [(147, Tryz.f147)] (fun _ _ => none)) 8 147 [Ty.enc (.d .int) x0] (RT.dec (.own .int)) = F147 x0 := by kernel_rfl
@[reducible] def k147 : Ctr := ⟨[.d .int], .own .int, F147⟩
theorem c147 : Enters Tryz.prog 147 ∧ Ctr.Ok Tryz.prog 147 k147 :=
  ⟨enters Tryz.func147 n147 rfl, fun x0 y h => valid_of_eval (ρ := .own .int) .nil .nil .nil (.cons Tryz.func147 n147 .nil) (.none fun _ _ _ h => by cases h) ((e147 x0).trans h)⟩
theorem n148 : (Tryz.f148.name == "runtime.NumGoroutine") = false := by kernel_rfl
/- wmem.made[[]batch.Entry] -/
def F148 (x0 : Int) : Option (List (List Ent)) :=
  bif decide (x0 < 1) then
    some ([])
  else
    bif decide (x0 > 10000) then
      some ([])
    else
      bif Kd.box.sz.beq 1 && Nat.blt 24 1024 && decide (x0 = x0) && (decide (0 ≤ x0) && decide (x0 < 4294967296)) then
        some (List.replicate x0.toNat [])
      else
        none
theorem e148 (x0 : Int) : evalFn (cfg (R := (List (List Ent))) [] [] [] [(148, Tryz.f148)] (fun _ _ => none)) 8 148 [Ty.enc (.d .int) x0] (RT.dec (.own .box)) = F148 x0 := by kernel_rfl
@[reducible] def k148 : Ctr := ⟨[.d .int], .own .box, F148⟩
theorem c148 : Enters Tryz.prog 148 ∧ Ctr.Ok Tryz.prog 148 k148 :=
  ⟨enters Tryz.func148 n148 rfl, fun x0 y h => valid_of_eval (ρ := .own .box) .nil .nil .nil (.cons Tryz.func148 n148 .nil) (.none fun _ _ _ h => by cases h) ((e148 x0).trans h)⟩
theorem n90 : (Tryz.f90.name == "runtime.NumGoroutine") = false := by kernel_rfl
/- wmem.New -/
def F90 (x0 : Int) (x1 : Int) : Option Mem :=
  (F147 x0).bind fun y3 =>
    (F148 x1).bind fun y4 =>
      some ({ words := y3, boxes := y4 })
theorem e90 (x0 : Int) (x1 : Int) : evalFnM (cfg (R := Mem) [(147, k147), (148, k148)] [] [] [(90, Tryz.f90)] (fun _ _ => none)) 8 90 [Ty.enc (.d .int) x0, Ty.enc (.d .int) x1] .int 0 (RT.dec (.mix .mem 0 .int)) = F90 x0 x1 := by kernel_rfl
@[reducible] def k90 : Ctr := ⟨[.d .int, .d .int], .mix .mem 0 .int, F90⟩
theorem c90 : Enters Tryz.prog 90 ∧ Ctr.Ok Tryz.prog 90 k90 :=
  ⟨enters Tryz.func90 n90 rfl, fun x0 x1 y h => valid_of_evalM (ρ := .mix .mem 0 .int) (.cons c147 (.cons c148 .nil)) .nil .nil (.cons Tryz.func90 n90 .nil) (.none fun _ _ _ h => by cases h) ((e90 x0 x1).trans h)⟩
theorem n91 : (Tryz.f91.name == "runtime.NumGoroutine") = false := by kernel_rfl
/- arena.Size -/
def F91 (x0 : Cfg) : Option Int :=
  (F149 x0).bind fun y2 =>
    some (IntKind.i64.wrap (y2.snd.snd.snd + IntKind.i64.wrap (2 * x0.threads)))
theorem e91 (x0 : Cfg) : evalFn (cfg (R := Int) [(149, k149)] [] [] [(91, Tryz.f91)] (fun _ _ => none)) 8 91 [Ty.enc (.d .cfg) x0] (RT.dec (.one (.d .int))) = F91 x0 := by kernel_rfl
@[reducible] def k91 : Ctr := ⟨[.d .cfg], .one (.d .int), F91⟩
theorem c91 : Enters Tryz.prog 91 ∧ Ctr.Ok Tryz.prog 91 k91 :=
  ⟨enters Tryz.func91 n91 rfl, fun x0 y h => valid_of_eval (ρ := .one (.d .int)) (.cons c149 .nil) .nil .nil (.cons Tryz.func91 n91 .nil) (.none fun _ _ _ h => by cases h) ((e91 x0).trans h)⟩
end Go.Proofs.YtihhgenbkiollaaGreat

/- The functions of the program, part ge: what they answer. No condition. -/
namespace Go.Proofs.YtihhgenbkiollaaGreat
open Go Go.Proofs
set_option maxRecDepth 100000
theorem n39 : (Tryz.f39.name == "runtime.NumGoroutine") = false := by kernel_rfl
/- arena.Build -/
def S39_0 (v : Int × Int × Cfg × Mem × Mem × Unit) : Option ((Int × Int × Cfg × Mem × Mem × Unit) ⊕ (Int × Int × Cfg × Mem × Mem × Unit)) := match v with
  | (v0, v1, v2, v3, v4, ()) =>
  bif decide (v1 < v0) then
    (F92 v2 v1).bind fun y6 =>
      bif decide (0 ≤ y6) && decide (y6 < (v4.words.length : Int)) then
        some (Sum.inl (v0, IntKind.i64.wrap (v1 + 1), v2, v3, { v4 with words := v4.words.set y6.toNat v2.init }, ()))
      else
        none
  else
    some (Sum.inr (v0, v1, v2, v3, v4, ()))
def X39_0 : Int × Int × Cfg × Mem × Mem × Unit → Option (Int × Int × Cfg × Mem × Mem × Unit) := loopF S39_0 bigN
def a39_0 {R : Type} : Ann R := annOf [.sv 11 (.d .int), .sv 12 (.d .int), .bv 0 .cfg [], .bv 1 .mem [], .bv 7 .mem [(0, .int)]] [.s 1 ⟨false, [.ptr (.box 0 0)]⟩, .s 2 ⟨false, [.ptr (.box 1 0)]⟩, .s 3 ⟨false, [.ptr (.box 7 0)]⟩] 1000 X39_0 (fun k e => k (.exit 0) e)
theorem r39_0 {R : Type} : RunOk Tryz.prog Tryz.f39.ntmps (.loop (bodyAt Tryz.f39 0)) (evalAnn (a39_0 (R := R))) :=
  loop_ok (cs := [.sv 11 (.d .int), .sv 12 (.d .int), .bv 0 .cfg [], .bv 1 .mem [], .bv 7 .mem [(0, .int)]]) (fs := [.s 1 ⟨false, [.ptr (.box 0 0)]⟩, .s 2 ⟨false, [.ptr (.box 1 0)]⟩, .s 3 ⟨false, [.ptr (.box 7 0)]⟩]) (nx := 1000) (S := S39_0) (X := X39_0) rfl (kx := fun k e => k (.exit 0) e) (run_of_eval (R := R) (cs := [(90, k90), (91, k91), (92, k92)]) (fs := []) (ds := []) (fns := []) (la := fun _ _ => none) (.cons c90 (.cons c91 (.cons c92 .nil))) .nil .nil .nil (.none fun _ _ _ h => by cases h) 8 _ 39 (bodyAt Tryz.f39 0) 0 (dstB (by kernel_rfl)) (fun _ _ _ h => by cases h)) fun rec k v => by
    obtain ⟨v0, v1, v2, v3, v4, ⟨⟩⟩ := v; symm; (conv => lhs; simp only [S39_0, need_cond, need_obind, need_val, need_none, onOut_inl, onOut_inr])
    kernel_rfl
def F39 (x0 : Cfg) : Option Mem :=
  (F91 x0).bind fun y2 =>
    (F90 y2 x0.threads).bind fun y3 =>
      (X39_0 (x0.items, 0, x0, { words := [], boxes := [] }, { y3 with words := rowAt Kd.int (Kd.mem.cells y3) 0 }, ())).bind fun y4 =>
        some (y4.2.2.2.2.1)
def la39 {R : Type} : FuncId → Nat → Option (LAnn R) := fun g b => cond (Nat.beq g 39) (cond (Nat.beq b 0) (some (.ann a39_0)) none) none
theorem e39 (x0 : Cfg) : evalFn (cfg (R := Mem) [(90, k90), (91, k91), (92, k92)] [] [] [(39, Tryz.f39)] (la39)) 8 39 [Ty.enc (.d .cfg) x0] (RT.dec (.one (.d .mem))) = F39 x0 := by kernel_rfl
@[reducible] def k39 : Ctr := ⟨[.d .cfg], .one (.d .mem), F39⟩
theorem c39 : Enters Tryz.prog 39 ∧ Ctr.Ok Tryz.prog 39 k39 :=
  ⟨enters Tryz.func39 n39 rfl, fun x0 y h => valid_of_eval (ρ := .one (.d .mem)) (la := la39) (.cons c90 (.cons c91 (.cons c92 .nil))) .nil .nil (.cons Tryz.func39 n39 .nil) (.cons (ls := [(0, bodyAt Tryz.f39 0)]) (by kernel_rfl) ⟨(fun a ha => by have e := annEq ha (show (la39) 39 0 = some (LAnn.ann a39_0) from rfl); subst e; exact r39_0), trivial⟩ .nil) ((e39 x0).trans h)⟩
theorem n93 : (Tryz.f93.name == "runtime.NumGoroutine") = false := by kernel_rfl
/- shape.Leaf -/
def F93 (x0 : Int) (x1 : Int) : Option Int :=
  bif decide (x0 < 1) then
    some (0)
  else
    bif decide (0 ≤ IntKind.i64.wrap (x0 - 1)) then
      some (IntKind.i64.wrap ((BitVec.ofInt IntKind.i64.bits (IntKind.i64.wrap (1 * 2 ^ min (IntKind.i64.wrap (x0 - 1)).toNat IntKind.i64.bits)) ||| BitVec.ofInt IntKind.i64.bits (IntKind.i64.wrap ((BitVec.ofInt IntKind.i64.bits (x1.fdiv (2 ^ min (Int.toNat 1) IntKind.i64.bits)) &&& BitVec.ofInt IntKind.i64.bits (IntKind.i64.wrap (IntKind.i64.wrap (1 * 2 ^ min (IntKind.i64.wrap (x0 - 1)).toNat IntKind.i64.bits) - 1))).toNat : Int))).toNat : Int))
    else
      none
theorem e93 (x0 : Int) (x1 : Int) : evalFn (cfg (R := Int) [] [] [] [(93, Tryz.f93)] (fun _ _ => none)) 8 93 [Ty.enc (.d .int) x0, Ty.enc (.d .int) x1] (RT.dec (.one (.d .int))) = F93 x0 x1 := by kernel_rfl
@[reducible] def k93 : Ctr := ⟨[.d .int, .d .int], .one (.d .int), F93⟩
theorem c93 : Enters Tryz.prog 93 ∧ Ctr.Ok Tryz.prog 93 k93 :=
  ⟨enters Tryz.func93 n93 rfl, fun x0 x1 y h => valid_of_eval (ρ := .one (.d .int)) .nil .nil .nil (.cons Tryz.func93 n93 .nil) (.none fun _ _ _ h => by cases h) ((e93 x0 x1).trans h)⟩
theorem n40 : (Tryz.f40.name == "runtime.NumGoroutine") = false := by kernel_rfl
/- thread.Begin -/
def F40 (x0 : Cfg) (x1 : Int) (x2 : Thr) (x3 : Int) (x4 : Opn) (x5 : Int) : Option Thr :=
  (F93 x0.depth x1).bind fun y7 =>
    bif decide (x0.wait > 0) then
      some ({ phase := 1, item := x3, op := x4, batch := [{ thread := x1, op := x4 }], kids := [], held := [], stop := 0, node := y7, at_ := 0, layer := 0, left := 0, width := x2.width, who := 0, x := 0, y := 0, til := IntKind.i64.wrap (x5 + x0.wait) })
    else
      some ({ phase := 1, item := x3, op := x4, batch := [{ thread := x1, op := x4 }], kids := [], held := [], stop := 0, node := y7, at_ := 0, layer := 0, left := 0, width := x2.width, who := 0, x := 0, y := 0, til := 0 })
theorem e40 (x0 : Cfg) (x1 : Int) (x2 : Thr) (x3 : Int) (x4 : Opn) (x5 : Int) : evalFn (cfg (R := Thr) [(93, k93)] [] [] [(40, Tryz.f40)] (fun _ _ => none)) 8 40 [Ty.enc (.d .cfg) x0, Ty.enc (.d .int) x1, Ty.enc (.d .thr) x2, Ty.enc (.d .int) x3, Ty.enc (.d .opn) x4, Ty.enc (.d .int) x5] (RT.dec (.one (.d .thr))) = F40 x0 x1 x2 x3 x4 x5 := by kernel_rfl
@[reducible] def k40 : Ctr := ⟨[.d .cfg, .d .int, .d .thr, .d .int, .d .opn, .d .int], .one (.d .thr), F40⟩
theorem c40 : Enters Tryz.prog 40 ∧ Ctr.Ok Tryz.prog 40 k40 :=
  ⟨enters Tryz.func40 n40 rfl, fun x0 x1 x2 x3 x4 x5 y h => valid_of_eval (ρ := .one (.d .thr)) (.cons c93 .nil) .nil .nil (.cons Tryz.func40 n40 .nil) (.none fun _ _ _ h => by cases h) ((e40 x0 x1 x2 x3 x4 x5).trans h)⟩
theorem n41 : (Tryz.f41.name == "runtime.NumGoroutine") = false := by kernel_rfl
/- thread.New -/
def F41  : Option Thr :=
  some ({ phase := 0, item := 0, op := { tag := 0, v := 0 }, batch := [], kids := [], held := [], stop := 0, node := 0, at_ := 0, layer := 0, left := 0, width := 1, who := 0, x := 0, y := 0, til := 0 })
theorem e41  : evalFn (cfg (R := Thr) [] [] [] [(41, Tryz.f41)] (fun _ _ => none)) 8 41 [] (RT.dec (.one (.d .thr))) = F41  := by kernel_rfl
@[reducible] def k41 : Ctr := ⟨[], .one (.d .thr), F41⟩
theorem c41 : Enters Tryz.prog 41 ∧ Ctr.Ok Tryz.prog 41 k41 :=
  ⟨enters Tryz.func41 n41 rfl, fun  y h => valid_of_eval (ρ := .one (.d .thr)) .nil .nil .nil (.cons Tryz.func41 n41 .nil) (.none fun _ _ _ h => by cases h) ((e41 ).trans h)⟩
theorem n32 : (Tryz.f32.name == "runtime.NumGoroutine") = false := by kernel_rfl
/- millstreamlaw16.shown -/
def F32  : Option Bool :=
  (F39 { threads := 2, items := 1, backend := 2, depth := 2, layers := 0, width := 1, spin := 0, wait := 0, bounded := false, lo := 0, hi := 0, init := 5 }).bind fun y1 =>
    (F41).bind fun y2 =>
      (F40 { threads := 2, items := 1, backend := 2, depth := 2, layers := 0, width := 1, spin := 0, wait := 0, bounded := false, lo := 0, hi := 0, init := 5 } 1 y2 0 { tag := 1, v := 3 } 0).bind fun y3 =>
        (F36 { c := { threads := 2, items := 1, backend := 2, depth := 2, layers := 0, width := 1, spin := 0, wait := 0, bounded := false, lo := 0, hi := 0, init := 5 }, t := 1, now := 0, m := y1, th := y3, tape := { l := [], at_ := 0 }, log := [], done := false } 100).bind fun y4 =>
          (F35 { c := { threads := 2, items := 1, backend := 2, depth := 2, layers := 0, width := 1, spin := 0, wait := 0, bounded := false, lo := 0, hi := 0, init := 5 }, t := 1, now := 0, m := y1, th := y3, tape := { l := [], at_ := 0 }, log := [], done := false }).bind fun y5 =>
            bif y4.done then
              bif y4.th.x == 5 then
                bif (y4.m.words.length : Int) == 8 then
                  bif decide (0 ≤ 0) && decide (0 < (y4.m.words.length : Int)) then
                    bif y4.m.words.getD (Int.toNat 0) Kd.int.dflt == 8 then
                      (F26 y4.th).bind fun y6 =>
                        bif !y6 then
                          bif (y4.log.length : Int) == 1 then
                            bif y5.th.phase == 4 then
                              (F75 { c := { threads := 2, items := 1, backend := 2, depth := 2, layers := 0, width := 1, spin := 0, wait := 0, bounded := false, lo := 0, hi := 0, init := 5 }, t := 1, now := 0, m := y1, th := y3, tape := { l := [], at_ := 0 }, log := [], done := false }).bind fun y7 =>
                                bif y7.th.phase == 4 then
                                  some (!y5.done)
                                else
                                  some (false)
                            else
                              some (false)
                          else
                            some (false)
                        else
                          some (false)
                    else
                      some (false)
                  else
                    none
                else
                  some (false)
              else
                some (false)
            else
              some (false)
theorem e32  : evalFn (cfg (R := Bool) [(26, k26), (35, k35), (36, k36), (39, k39), (40, k40), (41, k41), (75, k75)] [] [] [(32, Tryz.f32)] (fun _ _ => none)) 8 32 [] (RT.dec (.one (.d .bool))) = F32  := by kernel_rfl
@[reducible] def k32 : Ctr := ⟨[], .one (.d .bool), F32⟩
theorem c32 : Enters Tryz.prog 32 ∧ Ctr.Ok Tryz.prog 32 k32 :=
  ⟨enters Tryz.func32 n32 rfl, fun  y h => valid_of_eval (ρ := .one (.d .bool)) (.cons c26 (.cons c35 (.cons c36 (.cons c39 (.cons c40 (.cons c41 (.cons c75 .nil))))))) .nil .nil (.cons Tryz.func32 n32 .nil) (.none fun _ _ _ h => by cases h) ((e32 ).trans h)⟩
theorem n43 : (Tryz.f43.name == "runtime.NumGoroutine") = false := by kernel_rfl
/- millstreamref02.Same -/
def S43_0 (v : (List Ent) × (List Ent) × Bool × Int × Unit) : Option (((List Ent) × (List Ent) × Bool × Int × Unit) ⊕ (Bool × (List Ent) × (List Ent) × Bool × Int × Unit)) := match v with
  | (v0, v1, v2, v3, ()) =>
  bif decide (v3 < (v0.length : Int)) then
    bif decide (0 ≤ v3) && decide (v3 < (v0.length : Int)) then
      bif decide (0 ≤ v3) && decide (v3 < (v1.length : Int)) then
        bif !((v0.getD v3.toNat Kd.ent.dflt).thread == (v1.getD v3.toNat Kd.ent.dflt).thread && ((v0.getD v3.toNat Kd.ent.dflt).op.tag == (v1.getD v3.toNat Kd.ent.dflt).op.tag && ((v0.getD v3.toNat Kd.ent.dflt).op.v == (v1.getD v3.toNat Kd.ent.dflt).op.v && true))) then
          some (Sum.inr (true, v0, v1, false, v3, ()))
        else
          some (Sum.inl (v0, v1, v2, IntKind.i64.wrap (v3 + 1), ()))
      else
        none
    else
      none
  else
    some (Sum.inr (false, v0, v1, v2, v3, ()))
def X43_0 : (List Ent) × (List Ent) × Bool × Int × Unit → Option (Bool × (List Ent) × (List Ent) × Bool × Int × Unit) := loopF S43_0 bigN
def a43_0 {R : Type} : Ann R := annOf [.sv 0 (.l .ent), .sv 1 (.l .ent), .sv 4 (.d .bool), .sv 5 (.d .int)] [] 1000 X43_0 (fun k e => cond e.1 (k (.ret) e.2) (k (.exit 0) e.2))
theorem r43_0 {R : Type} : RunOk Tryz.prog Tryz.f43.ntmps (.loop (bodyAt Tryz.f43 0)) (evalAnn (a43_0 (R := R))) :=
  loop_ok (cs := [.sv 0 (.l .ent), .sv 1 (.l .ent), .sv 4 (.d .bool), .sv 5 (.d .int)]) (fs := []) (nx := 1000) (S := S43_0) (X := X43_0) rfl (kx := fun k e => cond e.1 (k (.ret) e.2) (k (.exit 0) e.2)) (run_of_eval (R := R) (cs := []) (fs := []) (ds := []) (fns := []) (la := fun _ _ => none) .nil .nil .nil .nil (.none fun _ _ _ h => by cases h) 8 _ 43 (bodyAt Tryz.f43 0) 0 (dstB (by kernel_rfl)) (fun _ _ _ h => by cases h)) fun rec k v => by
    obtain ⟨v0, v1, v2, v3, ⟨⟩⟩ := v; symm; (conv => lhs; simp only [S43_0, need_cond, need_obind, need_val, need_none, onOut_inl, onOut_inr])
    kernel_rfl
def F43 (x0 : (List Ent)) (x1 : (List Ent)) : Option Bool :=
  bif (x0.length : Int) != (x1.length : Int) then
    some (false)
  else
    (X43_0 (x0, x1, false, 0, ())).bind fun y3 =>
      bif y3.fst then
        some (y3.2.2.2.1)
      else
        some (true)
def la43 {R : Type} : FuncId → Nat → Option (LAnn R) := fun g b => cond (Nat.beq g 43) (cond (Nat.beq b 0) (some (.ann a43_0)) none) none
theorem e43 (x0 : (List Ent)) (x1 : (List Ent)) : evalFn (cfg (R := Bool) [] [] [] [(43, Tryz.f43)] (la43)) 8 43 [Ty.enc (.l .ent) x0, Ty.enc (.l .ent) x1] (RT.dec (.one (.d .bool))) = F43 x0 x1 := by kernel_rfl
@[reducible] def k43 : Ctr := ⟨[.l .ent, .l .ent], .one (.d .bool), F43⟩
theorem c43 : Enters Tryz.prog 43 ∧ Ctr.Ok Tryz.prog 43 k43 :=
  ⟨enters Tryz.func43 n43 rfl, fun x0 x1 y h => valid_of_eval (ρ := .one (.d .bool)) (la := la43) .nil .nil .nil (.cons Tryz.func43 n43 .nil) (.cons (ls := [(0, bodyAt Tryz.f43 0)]) (by kernel_rfl) ⟨(fun a ha => by have e := annEq ha (show (la43) 43 0 = some (LAnn.ann a43_0) from rfl); subst e; exact r43_0), trivial⟩ .nil) ((e43 x0 x1).trans h)⟩
theorem n124 : (Tryz.f124.name == "runtime.NumGoroutine") = false := by kernel_rfl
/- millstreamref02.Ints -/
def S124_0 (v : (List Int) × (List Int) × Bool × Int × Unit) : Option (((List Int) × (List Int) × Bool × Int × Unit) ⊕ (Bool × (List Int) × (List Int) × Bool × Int × Unit)) := match v with
  | (v0, v1, v2, v3, ()) =>
  bif decide (v3 < (v0.length : Int)) then
    bif decide (0 ≤ v3) && decide (v3 < (v0.length : Int)) then
      bif decide (0 ≤ v3) && decide (v3 < (v1.length : Int)) then
        bif v0.getD v3.toNat Kd.int.dflt != v1.getD v3.toNat Kd.int.dflt then
          some (Sum.inr (true, v0, v1, false, v3, ()))
        else
          some (Sum.inl (v0, v1, v2, IntKind.i64.wrap (v3 + 1), ()))
      else
        none
    else
      none
  else
    some (Sum.inr (false, v0, v1, v2, v3, ()))
def X124_0 : (List Int) × (List Int) × Bool × Int × Unit → Option (Bool × (List Int) × (List Int) × Bool × Int × Unit) := loopF S124_0 bigN
def a124_0 {R : Type} : Ann R := annOf [.sv 0 (.l .int), .sv 1 (.l .int), .sv 4 (.d .bool), .sv 5 (.d .int)] [] 1000 X124_0 (fun k e => cond e.1 (k (.ret) e.2) (k (.exit 0) e.2))
theorem r124_0 {R : Type} : RunOk Tryz.prog Tryz.f124.ntmps (.loop (bodyAt Tryz.f124 0)) (evalAnn (a124_0 (R := R))) :=
  loop_ok (cs := [.sv 0 (.l .int), .sv 1 (.l .int), .sv 4 (.d .bool), .sv 5 (.d .int)]) (fs := []) (nx := 1000) (S := S124_0) (X := X124_0) rfl (kx := fun k e => cond e.1 (k (.ret) e.2) (k (.exit 0) e.2)) (run_of_eval (R := R) (cs := []) (fs := []) (ds := []) (fns := []) (la := fun _ _ => none) .nil .nil .nil .nil (.none fun _ _ _ h => by cases h) 8 _ 124 (bodyAt Tryz.f124 0) 0 (dstB (by kernel_rfl)) (fun _ _ _ h => by cases h)) fun rec k v => by
    obtain ⟨v0, v1, v2, v3, ⟨⟩⟩ := v; symm; (conv => lhs; simp only [S124_0, need_cond, need_obind, need_val, need_none, onOut_inl, onOut_inr])
    kernel_rfl
def F124 (x0 : (List Int)) (x1 : (List Int)) : Option Bool :=
  bif (x0.length : Int) != (x1.length : Int) then
    some (false)
  else
    (X124_0 (x0, x1, false, 0, ())).bind fun y3 =>
      bif y3.fst then
        some (y3.2.2.2.1)
      else
        some (true)
def la124 {R : Type} : FuncId → Nat → Option (LAnn R) := fun g b => cond (Nat.beq g 124) (cond (Nat.beq b 0) (some (.ann a124_0)) none) none
theorem e124 (x0 : (List Int)) (x1 : (List Int)) : evalFn (cfg (R := Bool) [] [] [] [(124, Tryz.f124)] (la124)) 8 124 [Ty.enc (.l .int) x0, Ty.enc (.l .int) x1] (RT.dec (.one (.d .bool))) = F124 x0 x1 := by kernel_rfl
@[reducible] def k124 : Ctr := ⟨[.l .int, .l .int], .one (.d .bool), F124⟩
theorem c124 : Enters Tryz.prog 124 ∧ Ctr.Ok Tryz.prog 124 k124 :=
  ⟨enters Tryz.func124 n124 rfl, fun x0 x1 y h => valid_of_eval (ρ := .one (.d .bool)) (la := la124) .nil .nil .nil (.cons Tryz.func124 n124 .nil) (.cons (ls := [(0, bodyAt Tryz.f124 0)]) (by kernel_rfl) ⟨(fun a ha => by have e := annEq ha (show (la124) 124 0 = some (LAnn.ann a124_0) from rfl); subst e; exact r124_0), trivial⟩ .nil) ((e124 x0 x1).trans h)⟩
theorem n76 : (Tryz.f76.name == "runtime.NumGoroutine") = false := by kernel_rfl
/- millstreamref03.Same -/
def S76_0 (v : Bool × Int × Mem × Mem × Unit) : Option ((Bool × Int × Mem × Mem × Unit) ⊕ (Bool × Bool × Int × Mem × Mem × Unit)) := match v with
  | (v0, v1, v2, v3, ()) =>
  bif decide (v1 < (v2.boxes.length : Int)) then
    bif decide (0 ≤ v1) && decide (v1 < (v2.boxes.length : Int)) then
      bif decide (0 ≤ v1) && decide (v1 < (v3.boxes.length : Int)) then
        (F43 (v2.boxes.getD v1.toNat Kd.box.dflt) (v3.boxes.getD v1.toNat Kd.box.dflt)).bind fun y5 =>
          bif !y5 then
            some (Sum.inr (true, false, v1, v2, v3, ()))
          else
            some (Sum.inl (v0, IntKind.i64.wrap (v1 + 1), v2, v3, ()))
      else
        none
    else
      none
  else
    some (Sum.inr (false, v0, v1, v2, v3, ()))
def X76_0 : Bool × Int × Mem × Mem × Unit → Option (Bool × Bool × Int × Mem × Mem × Unit) := loopF S76_0 bigN
def a76_0 {R : Type} : Ann R := annOf [.sv 4 (.d .bool), .sv 5 (.d .int), .bv 0 .mem [], .bv 1 .mem []] [.s 2 ⟨false, [.ptr (.box 0 0)]⟩, .s 3 ⟨false, [.ptr (.box 1 0)]⟩] 1000 X76_0 (fun k e => cond e.1 (k (.ret) e.2) (k (.exit 0) e.2))
theorem r76_0 {R : Type} : RunOk Tryz.prog Tryz.f76.ntmps (.loop (bodyAt Tryz.f76 0)) (evalAnn (a76_0 (R := R))) :=
  loop_ok (cs := [.sv 4 (.d .bool), .sv 5 (.d .int), .bv 0 .mem [], .bv 1 .mem []]) (fs := [.s 2 ⟨false, [.ptr (.box 0 0)]⟩, .s 3 ⟨false, [.ptr (.box 1 0)]⟩]) (nx := 1000) (S := S76_0) (X := X76_0) rfl (kx := fun k e => cond e.1 (k (.ret) e.2) (k (.exit 0) e.2)) (run_of_eval (R := R) (cs := [(43, k43), (124, k124)]) (fs := []) (ds := []) (fns := []) (la := fun _ _ => none) (.cons c43 (.cons c124 .nil)) .nil .nil .nil (.none fun _ _ _ h => by cases h) 8 _ 76 (bodyAt Tryz.f76 0) 0 (dstB (by kernel_rfl)) (fun _ _ _ h => by cases h)) fun rec k v => by
    obtain ⟨v0, v1, v2, v3, ⟨⟩⟩ := v; symm; (conv => lhs; simp only [S76_0, need_cond, need_obind, need_val, need_none, onOut_inl, onOut_inr])
    kernel_rfl
def F76 (x0 : Mem) (x1 : Mem) : Option Bool :=
  (F124 x0.words x1.words).bind fun y3 =>
    bif !y3 then
      some (false)
    else
      bif (x0.boxes.length : Int) != (x1.boxes.length : Int) then
        some (false)
      else
        (X76_0 (false, 0, x0, x1, ())).bind fun y4 =>
          bif y4.fst then
            some (y4.2.1)
          else
            some (true)
def la76 {R : Type} : FuncId → Nat → Option (LAnn R) := fun g b => cond (Nat.beq g 76) (cond (Nat.beq b 0) (some (.ann a76_0)) none) none
theorem e76 (x0 : Mem) (x1 : Mem) : evalFn (cfg (R := Bool) [(43, k43), (124, k124)] [] [] [(76, Tryz.f76)] (la76)) 8 76 [Ty.enc (.d .mem) x0, Ty.enc (.d .mem) x1] (RT.dec (.one (.d .bool))) = F76 x0 x1 := by kernel_rfl
@[reducible] def k76 : Ctr := ⟨[.d .mem, .d .mem], .one (.d .bool), F76⟩
theorem c76 : Enters Tryz.prog 76 ∧ Ctr.Ok Tryz.prog 76 k76 :=
  ⟨enters Tryz.func76 n76 rfl, fun x0 x1 y h => valid_of_eval (ρ := .one (.d .bool)) (la := la76) (.cons c43 (.cons c124 .nil)) .nil .nil (.cons Tryz.func76 n76 .nil) (.cons (ls := [(0, bodyAt Tryz.f76 0)]) (by kernel_rfl) ⟨(fun a ha => by have e := annEq ha (show (la76) 76 0 = some (LAnn.ann a76_0) from rfl); subst e; exact r76_0), trivial⟩ .nil) ((e76 x0 x1).trans h)⟩
theorem n77 : (Tryz.f77.name == "runtime.NumGoroutine") = false := by kernel_rfl
/- millstreamref10.Same -/
def S77_0 (v : Bool × Int × Thr × Thr × Unit) : Option ((Bool × Int × Thr × Thr × Unit) ⊕ (Bool × Bool × Int × Thr × Thr × Unit)) := match v with
  | (v0, v1, v2, v3, ()) =>
  bif decide (v1 < (v2.kids.length : Int)) then
    bif decide (0 ≤ v1) && decide (v1 < (v2.kids.length : Int)) then
      bif decide (0 ≤ v1) && decide (v1 < (v3.kids.length : Int)) then
        bif !((v2.kids.getD v1.toNat Kd.kid.dflt).thread == (v3.kids.getD v1.toNat Kd.kid.dflt).thread && ((v2.kids.getD v1.toNat Kd.kid.dflt).ahead == (v3.kids.getD v1.toNat Kd.kid.dflt).ahead && true)) then
          some (Sum.inr (true, false, v1, v2, v3, ()))
        else
          some (Sum.inl (v0, IntKind.i64.wrap (v1 + 1), v2, v3, ()))
      else
        none
    else
      none
  else
    some (Sum.inr (false, v0, v1, v2, v3, ()))
def X77_0 : Bool × Int × Thr × Thr × Unit → Option (Bool × Bool × Int × Thr × Thr × Unit) := loopF S77_0 bigN
def a77_0 {R : Type} : Ann R := annOf [.sv 4 (.d .bool), .sv 5 (.d .int), .bv 0 .thr [], .bv 1 .thr []] [.s 2 ⟨false, [.ptr (.box 0 0)]⟩, .s 3 ⟨false, [.ptr (.box 1 0)]⟩] 1000 X77_0 (fun k e => cond e.1 (k (.ret) e.2) (k (.exit 0) e.2))
theorem r77_0 {R : Type} : RunOk Tryz.prog Tryz.f77.ntmps (.loop (bodyAt Tryz.f77 0)) (evalAnn (a77_0 (R := R))) :=
  loop_ok (cs := [.sv 4 (.d .bool), .sv 5 (.d .int), .bv 0 .thr [], .bv 1 .thr []]) (fs := [.s 2 ⟨false, [.ptr (.box 0 0)]⟩, .s 3 ⟨false, [.ptr (.box 1 0)]⟩]) (nx := 1000) (S := S77_0) (X := X77_0) rfl (kx := fun k e => cond e.1 (k (.ret) e.2) (k (.exit 0) e.2)) (run_of_eval (R := R) (cs := [(43, k43), (124, k124)]) (fs := []) (ds := []) (fns := []) (la := fun _ _ => none) (.cons c43 (.cons c124 .nil)) .nil .nil .nil (.none fun _ _ _ h => by cases h) 8 _ 77 (bodyAt Tryz.f77 0) 0 (dstB (by kernel_rfl)) (fun _ _ _ h => by cases h)) fun rec k v => by
    obtain ⟨v0, v1, v2, v3, ⟨⟩⟩ := v; symm; (conv => lhs; simp only [S77_0, need_cond, need_obind, need_val, need_none, onOut_inl, onOut_inr])
    kernel_rfl
def F77 (x0 : Thr) (x1 : Thr) : Option Bool :=
  (F43 x0.batch x1.batch).bind fun y3 =>
    bif !y3 then
      some (false)
    else
      (F124 x0.held x1.held).bind fun y4 =>
        bif !y4 then
          some (false)
        else
          bif (x0.kids.length : Int) != (x1.kids.length : Int) then
            some (false)
          else
            (X77_0 (false, 0, x0, x1, ())).bind fun y5 =>
              bif y5.fst then
                some (y5.2.1)
              else
                bif y5.2.2.2.1.phase == y5.2.2.2.2.1.phase then
                  bif y5.2.2.2.1.item == y5.2.2.2.2.1.item then
                    bif y5.2.2.2.1.op.tag == y5.2.2.2.2.1.op.tag && (y5.2.2.2.1.op.v == y5.2.2.2.2.1.op.v && true) then
                      bif y5.2.2.2.1.stop == y5.2.2.2.2.1.stop then
                        bif y5.2.2.2.1.node == y5.2.2.2.2.1.node then
                          bif y5.2.2.2.1.at_ == y5.2.2.2.2.1.at_ then
                            bif y5.2.2.2.1.layer == y5.2.2.2.2.1.layer then
                              bif y5.2.2.2.1.left == y5.2.2.2.2.1.left then
                                bif y5.2.2.2.1.width == y5.2.2.2.2.1.width then
                                  bif y5.2.2.2.1.who == y5.2.2.2.2.1.who then
                                    bif y5.2.2.2.1.x == y5.2.2.2.2.1.x then
                                      bif y5.2.2.2.1.y == y5.2.2.2.2.1.y then
                                        some (y5.2.2.2.1.til == y5.2.2.2.2.1.til)
                                      else
                                        some (false)
                                    else
                                      some (false)
                                  else
                                    some (false)
                                else
                                  some (false)
                              else
                                some (false)
                            else
                              some (false)
                          else
                            some (false)
                        else
                          some (false)
                      else
                        some (false)
                    else
                      some (false)
                  else
                    some (false)
                else
                  some (false)
def la77 {R : Type} : FuncId → Nat → Option (LAnn R) := fun g b => cond (Nat.beq g 77) (cond (Nat.beq b 0) (some (.ann a77_0)) none) none
theorem e77 (x0 : Thr) (x1 : Thr) : evalFn (cfg (R := Bool) [(43, k43), (124, k124)] [] [] [(77, Tryz.f77)] (la77)) 8 77 [Ty.enc (.d .thr) x0, Ty.enc (.d .thr) x1] (RT.dec (.one (.d .bool))) = F77 x0 x1 := by kernel_rfl
@[reducible] def k77 : Ctr := ⟨[.d .thr, .d .thr], .one (.d .bool), F77⟩
theorem c77 : Enters Tryz.prog 77 ∧ Ctr.Ok Tryz.prog 77 k77 :=
  ⟨enters Tryz.func77 n77 rfl, fun x0 x1 y h => valid_of_eval (ρ := .one (.d .bool)) (la := la77) (.cons c43 (.cons c124 .nil)) .nil .nil (.cons Tryz.func77 n77 .nil) (.cons (ls := [(0, bodyAt Tryz.f77 0)]) (by kernel_rfl) ⟨(fun a ha => by have e := annEq ha (show (la77) 77 0 = some (LAnn.ann a77_0) from rfl); subst e; exact r77_0), trivial⟩ .nil) ((e77 x0 x1).trans h)⟩
theorem n78 : (Tryz.f78.name == "runtime.NumGoroutine") = false := by kernel_rfl
/- millstreamref04.Same -/
def S78_0 (v : Bool × Int × Tape × Tape × Unit) : Option ((Bool × Int × Tape × Tape × Unit) ⊕ (Bool × Bool × Int × Tape × Tape × Unit)) := match v with
  | (v0, v1, v2, v3, ()) =>
  bif decide (v1 < (v2.l.length : Int)) then
    bif decide (0 ≤ v1) && decide (v1 < (v2.l.length : Int)) then
      bif decide (0 ≤ v1) && decide (v1 < (v3.l.length : Int)) then
        bif v2.l.getD v1.toNat Kd.int.dflt != v3.l.getD v1.toNat Kd.int.dflt then
          some (Sum.inr (true, false, v1, v2, v3, ()))
        else
          some (Sum.inl (v0, IntKind.i64.wrap (v1 + 1), v2, v3, ()))
      else
        none
    else
      none
  else
    some (Sum.inr (false, v0, v1, v2, v3, ()))
def X78_0 : Bool × Int × Tape × Tape × Unit → Option (Bool × Bool × Int × Tape × Tape × Unit) := loopF S78_0 bigN
def a78_0 {R : Type} : Ann R := annOf [.sv 4 (.d .bool), .sv 5 (.d .int), .bv 0 .tape [], .bv 1 .tape []] [.s 2 ⟨false, [.ptr (.box 0 0)]⟩, .s 3 ⟨false, [.ptr (.box 1 0)]⟩] 1000 X78_0 (fun k e => cond e.1 (k (.ret) e.2) (k (.exit 0) e.2))
theorem r78_0 {R : Type} : RunOk Tryz.prog Tryz.f78.ntmps (.loop (bodyAt Tryz.f78 0)) (evalAnn (a78_0 (R := R))) :=
  loop_ok (cs := [.sv 4 (.d .bool), .sv 5 (.d .int), .bv 0 .tape [], .bv 1 .tape []]) (fs := [.s 2 ⟨false, [.ptr (.box 0 0)]⟩, .s 3 ⟨false, [.ptr (.box 1 0)]⟩]) (nx := 1000) (S := S78_0) (X := X78_0) rfl (kx := fun k e => cond e.1 (k (.ret) e.2) (k (.exit 0) e.2)) (run_of_eval (R := R) (cs := []) (fs := []) (ds := []) (fns := []) (la := fun _ _ => none) .nil .nil .nil .nil (.none fun _ _ _ h => by cases h) 8 _ 78 (bodyAt Tryz.f78 0) 0 (dstB (by kernel_rfl)) (fun _ _ _ h => by cases h)) fun rec k v => by
    obtain ⟨v0, v1, v2, v3, ⟨⟩⟩ := v; symm; (conv => lhs; simp only [S78_0, need_cond, need_obind, need_val, need_none, onOut_inl, onOut_inr])
    kernel_rfl
def F78 (x0 : Tape) (x1 : Tape) : Option Bool :=
  bif x0.at_ != x1.at_ then
    some (false)
  else
    bif (x0.l.length : Int) != (x1.l.length : Int) then
      some (false)
    else
      (X78_0 (false, 0, x0, x1, ())).bind fun y3 =>
        bif y3.fst then
          some (y3.2.1)
        else
          some (true)
def la78 {R : Type} : FuncId → Nat → Option (LAnn R) := fun g b => cond (Nat.beq g 78) (cond (Nat.beq b 0) (some (.ann a78_0)) none) none
theorem e78 (x0 : Tape) (x1 : Tape) : evalFn (cfg (R := Bool) [] [] [] [(78, Tryz.f78)] (la78)) 8 78 [Ty.enc (.d .tape) x0, Ty.enc (.d .tape) x1] (RT.dec (.one (.d .bool))) = F78 x0 x1 := by kernel_rfl
@[reducible] def k78 : Ctr := ⟨[.d .tape, .d .tape], .one (.d .bool), F78⟩
theorem c78 : Enters Tryz.prog 78 ∧ Ctr.Ok Tryz.prog 78 k78 :=
  ⟨enters Tryz.func78 n78 rfl, fun x0 x1 y h => valid_of_eval (ρ := .one (.d .bool)) (la := la78) .nil .nil .nil (.cons Tryz.func78 n78 .nil) (.cons (ls := [(0, bodyAt Tryz.f78 0)]) (by kernel_rfl) ⟨(fun a ha => by have e := annEq ha (show (la78) 78 0 = some (LAnn.ann a78_0) from rfl); subst e; exact r78_0), trivial⟩ .nil) ((e78 x0 x1).trans h)⟩
theorem n79 : (Tryz.f79.name == "runtime.NumGoroutine") = false := by kernel_rfl
/- millstreamref10.Marks -/
def S79_0 (v : (List Mark) × (List Mark) × Bool × Int × Unit) : Option (((List Mark) × (List Mark) × Bool × Int × Unit) ⊕ (Bool × (List Mark) × (List Mark) × Bool × Int × Unit)) := match v with
  | (v0, v1, v2, v3, ()) =>
  bif decide (v3 < (v0.length : Int)) then
    bif decide (0 ≤ v3) && decide (v3 < (v0.length : Int)) then
      bif decide (0 ≤ v3) && decide (v3 < (v1.length : Int)) then
        bif !((v0.getD v3.toNat Kd.mark.dflt).thread == (v1.getD v3.toNat Kd.mark.dflt).thread && ((v0.getD v3.toNat Kd.mark.dflt).item == (v1.getD v3.toNat Kd.mark.dflt).item && ((v0.getD v3.toNat Kd.mark.dflt).op.tag == (v1.getD v3.toNat Kd.mark.dflt).op.tag && ((v0.getD v3.toNat Kd.mark.dflt).op.v == (v1.getD v3.toNat Kd.mark.dflt).op.v && ((v0.getD v3.toNat Kd.mark.dflt).prior == (v1.getD v3.toNat Kd.mark.dflt).prior && ((v0.getD v3.toNat Kd.mark.dflt).step == (v1.getD v3.toNat Kd.mark.dflt).step && true)))))) then
          some (Sum.inr (true, v0, v1, false, v3, ()))
        else
          some (Sum.inl (v0, v1, v2, IntKind.i64.wrap (v3 + 1), ()))
      else
        none
    else
      none
  else
    some (Sum.inr (false, v0, v1, v2, v3, ()))
def X79_0 : (List Mark) × (List Mark) × Bool × Int × Unit → Option (Bool × (List Mark) × (List Mark) × Bool × Int × Unit) := loopF S79_0 bigN
def a79_0 {R : Type} : Ann R := annOf [.sv 0 (.l .mark), .sv 1 (.l .mark), .sv 4 (.d .bool), .sv 5 (.d .int)] [] 1000 X79_0 (fun k e => cond e.1 (k (.ret) e.2) (k (.exit 0) e.2))
theorem r79_0 {R : Type} : RunOk Tryz.prog Tryz.f79.ntmps (.loop (bodyAt Tryz.f79 0)) (evalAnn (a79_0 (R := R))) :=
  loop_ok (cs := [.sv 0 (.l .mark), .sv 1 (.l .mark), .sv 4 (.d .bool), .sv 5 (.d .int)]) (fs := []) (nx := 1000) (S := S79_0) (X := X79_0) rfl (kx := fun k e => cond e.1 (k (.ret) e.2) (k (.exit 0) e.2)) (run_of_eval (R := R) (cs := []) (fs := []) (ds := []) (fns := []) (la := fun _ _ => none) .nil .nil .nil .nil (.none fun _ _ _ h => by cases h) 8 _ 79 (bodyAt Tryz.f79 0) 0 (dstB (by kernel_rfl)) (fun _ _ _ h => by cases h)) fun rec k v => by
    obtain ⟨v0, v1, v2, v3, ⟨⟩⟩ := v; symm; (conv => lhs; simp only [S79_0, need_cond, need_obind, need_val, need_none, onOut_inl, onOut_inr])
    kernel_rfl
def F79 (x0 : (List Mark)) (x1 : (List Mark)) : Option Bool :=
  bif (x0.length : Int) != (x1.length : Int) then
    some (false)
  else
    (X79_0 (x0, x1, false, 0, ())).bind fun y3 =>
      bif y3.fst then
        some (y3.2.2.2.1)
      else
        some (true)
def la79 {R : Type} : FuncId → Nat → Option (LAnn R) := fun g b => cond (Nat.beq g 79) (cond (Nat.beq b 0) (some (.ann a79_0)) none) none
theorem e79 (x0 : (List Mark)) (x1 : (List Mark)) : evalFn (cfg (R := Bool) [] [] [] [(79, Tryz.f79)] (la79)) 8 79 [Ty.enc (.l .mark) x0, Ty.enc (.l .mark) x1] (RT.dec (.one (.d .bool))) = F79 x0 x1 := by kernel_rfl
@[reducible] def k79 : Ctr := ⟨[.l .mark, .l .mark], .one (.d .bool), F79⟩
theorem c79 : Enters Tryz.prog 79 ∧ Ctr.Ok Tryz.prog 79 k79 :=
  ⟨enters Tryz.func79 n79 rfl, fun x0 x1 y h => valid_of_eval (ρ := .one (.d .bool)) (la := la79) .nil .nil .nil (.cons Tryz.func79 n79 .nil) (.cons (ls := [(0, bodyAt Tryz.f79 0)]) (by kernel_rfl) ⟨(fun a ha => by have e := annEq ha (show (la79) 79 0 = some (LAnn.ann a79_0) from rfl); subst e; exact r79_0), trivial⟩ .nil) ((e79 x0 x1).trans h)⟩
theorem n33 : (Tryz.f33.name == "runtime.NumGoroutine") = false := by kernel_rfl
/- millstreamref10.Alike -/
def F33 (x0 : Turn) (x1 : Turn) : Option Bool :=
  bif x0.c.threads == x1.c.threads && (x0.c.items == x1.c.items && (x0.c.backend == x1.c.backend && (x0.c.depth == x1.c.depth && (x0.c.layers == x1.c.layers && (x0.c.width == x1.c.width && (x0.c.spin == x1.c.spin && (x0.c.wait == x1.c.wait && (x0.c.bounded == x1.c.bounded && (x0.c.lo == x1.c.lo && (x0.c.hi == x1.c.hi && (x0.c.init == x1.c.init && true))))))))))) then
    bif x0.t == x1.t then
      bif x0.now == x1.now then
        (F76 x0.m x1.m).bind fun y3 =>
          bif y3 then
            (F77 x0.th x1.th).bind fun y4 =>
              bif y4 then
                (F78 x0.tape x1.tape).bind fun y5 =>
                  bif y5 then
                    (F79 x0.log x1.log).bind fun y6 =>
                      bif y6 then
                        some (x0.done == x1.done)
                      else
                        some (false)
                  else
                    some (false)
              else
                some (false)
          else
            some (false)
      else
        some (false)
    else
      some (false)
  else
    some (false)
theorem e33 (x0 : Turn) (x1 : Turn) : evalFn (cfg (R := Bool) [(76, k76), (77, k77), (78, k78), (79, k79)] [] [] [(33, Tryz.f33)] (fun _ _ => none)) 8 33 [Ty.enc (.d .turn) x0, Ty.enc (.d .turn) x1] (RT.dec (.one (.d .bool))) = F33 x0 x1 := by kernel_rfl
@[reducible] def k33 : Ctr := ⟨[.d .turn, .d .turn], .one (.d .bool), F33⟩
theorem c33 : Enters Tryz.prog 33 ∧ Ctr.Ok Tryz.prog 33 k33 :=
  ⟨enters Tryz.func33 n33 rfl, fun x0 x1 y h => valid_of_eval (ρ := .one (.d .bool)) (.cons c76 (.cons c77 (.cons c78 (.cons c79 .nil)))) .nil .nil (.cons Tryz.func33 n33 .nil) (.none fun _ _ _ h => by cases h) ((e33 x0 x1).trans h)⟩
theorem n44 : (Tryz.f44.name == "runtime.NumGoroutine") = false := by kernel_rfl
/- millstreamlaw16.entries -/
def S44_0 (v : (List Ent) × (List Ent) × Int × Unit) : Option (((List Ent) × (List Ent) × Int × Unit) ⊕ ((List Ent) × (List Ent) × Int × Unit)) := match v with
  | (v0, v1, v2, ()) =>
  bif decide (v2 < (v0.length : Int)) then
    bif decide (0 ≤ v2) && decide (v2 < (v0.length : Int)) then
      bif decide (0 ≤ v2) && decide (v2 < (v0.length : Int)) then
        bif decide (v1.length + 1 < 4294967296) && true then
          some (Sum.inl (v0, v1 ++ [v0.getD v2.toNat Kd.ent.dflt], IntKind.i64.wrap (v2 + 1), ()))
        else
          none
      else
        none
    else
      none
  else
    some (Sum.inr (v0, v1, v2, ()))
def X44_0 : (List Ent) × (List Ent) × Int × Unit → Option ((List Ent) × (List Ent) × Int × Unit) := loopF S44_0 bigN
def a44_0 {R : Type} : Ann R := annOf [.sv 0 (.l .ent), .so 3 .ent, .sv 4 (.d .int)] [] 1000 X44_0 (fun k e => k (.exit 0) e)
theorem r44_0 {R : Type} : RunOk Tryz.prog Tryz.f44.ntmps (.loop (bodyAt Tryz.f44 0)) (evalAnn (a44_0 (R := R))) :=
  loop_ok (cs := [.sv 0 (.l .ent), .so 3 .ent, .sv 4 (.d .int)]) (fs := []) (nx := 1000) (S := S44_0) (X := X44_0) rfl (kx := fun k e => k (.exit 0) e) (run_of_eval (R := R) (cs := []) (fs := []) (ds := []) (fns := []) (la := fun _ _ => none) .nil .nil .nil .nil (.none fun _ _ _ h => by cases h) 8 _ 44 (bodyAt Tryz.f44 0) 0 (dstB (by kernel_rfl)) (fun _ _ _ h => by cases h)) fun rec k v => by
    obtain ⟨v0, v1, v2, ⟨⟩⟩ := v; symm; (conv => lhs; simp only [S44_0, need_cond, need_obind, need_val, need_none, onOut_inl, onOut_inr])
    kernel_rfl
def F44 (x0 : (List Ent)) : Option (List Ent) :=
  (X44_0 (x0, [], 0, ())).bind fun y2 =>
    some (y2.2.1)
def la44 {R : Type} : FuncId → Nat → Option (LAnn R) := fun g b => cond (Nat.beq g 44) (cond (Nat.beq b 0) (some (.ann a44_0)) none) none
theorem e44 (x0 : (List Ent)) : evalFn (cfg (R := (List Ent)) [] [] [] [(44, Tryz.f44)] (la44)) 8 44 [Ty.enc (.l .ent) x0] (RT.dec (.one (.l .ent))) = F44 x0 := by kernel_rfl
@[reducible] def k44 : Ctr := ⟨[.l .ent], .one (.l .ent), F44⟩
theorem c44 : Enters Tryz.prog 44 ∧ Ctr.Ok Tryz.prog 44 k44 :=
  ⟨enters Tryz.func44 n44 rfl, fun x0 y h => valid_of_eval (ρ := .one (.l .ent)) (la := la44) .nil .nil .nil (.cons Tryz.func44 n44 .nil) (.cons (ls := [(0, bodyAt Tryz.f44 0)]) (by kernel_rfl) ⟨(fun a ha => by have e := annEq ha (show (la44) 44 0 = some (LAnn.ann a44_0) from rfl); subst e; exact r44_0), trivial⟩ .nil) ((e44 x0).trans h)⟩
theorem n80 : (Tryz.f80.name == "runtime.NumGoroutine") = false := by kernel_rfl
/- millstreamlaw16.memory -/
def S80_0 (v : Int × Mem × Mem × Mem × Unit) : Option ((Int × Mem × Mem × Mem × Unit) ⊕ (Int × Mem × Mem × Mem × Unit)) := match v with
  | (v0, v1, v2, v3, ()) =>
  bif decide (v0 < (v1.boxes.length : Int)) then
    bif decide (0 ≤ v0) && decide (v0 < (v1.boxes.length : Int)) then
      (F44 (v1.boxes.getD v0.toNat Kd.box.dflt)).bind fun y5 =>
        bif decide (v3.boxes.length + 1 < 4294967296) && true then
          some (Sum.inl (IntKind.i64.wrap (v0 + 1), v1, v2, { v3 with boxes := v3.boxes ++ [y5] }, ()))
        else
          none
    else
      none
  else
    some (Sum.inr (v0, v1, v2, v3, ()))
def X80_0 : Int × Mem × Mem × Mem × Unit → Option (Int × Mem × Mem × Mem × Unit) := loopF S80_0 bigN
def a80_0 {R : Type} : Ann R := annOf [.sv 4 (.d .int), .bv 0 .mem [], .bv 1 .mem [], .bv 5 .mem [(1, .box)]] [.s 1 ⟨false, [.ptr (.box 0 0)]⟩, .s 2 ⟨false, [.ptr (.box 1 0)]⟩, .s 3 ⟨false, [.ptr (.box 5 0)]⟩] 1000 X80_0 (fun k e => k (.exit 0) e)
theorem r80_0 {R : Type} : RunOk Tryz.prog Tryz.f80.ntmps (.loop (bodyAt Tryz.f80 0)) (evalAnn (a80_0 (R := R))) :=
  loop_ok (cs := [.sv 4 (.d .int), .bv 0 .mem [], .bv 1 .mem [], .bv 5 .mem [(1, .box)]]) (fs := [.s 1 ⟨false, [.ptr (.box 0 0)]⟩, .s 2 ⟨false, [.ptr (.box 1 0)]⟩, .s 3 ⟨false, [.ptr (.box 5 0)]⟩]) (nx := 1000) (S := S80_0) (X := X80_0) rfl (kx := fun k e => k (.exit 0) e) (run_of_eval (R := R) (cs := [(44, k44)]) (fs := []) (ds := []) (fns := []) (la := fun _ _ => none) (.cons c44 .nil) .nil .nil .nil (.none fun _ _ _ h => by cases h) 8 _ 80 (bodyAt Tryz.f80 0) 0 (dstB (by kernel_rfl)) (fun _ _ _ h => by cases h)) fun rec k v => by
    obtain ⟨v0, v1, v2, v3, ⟨⟩⟩ := v; symm; (conv => lhs; simp only [S80_0, need_cond, need_obind, need_val, need_none, onOut_inl, onOut_inr])
    kernel_rfl
def F80 (x0 : Mem) : Option Mem :=
  (X80_0 (0, x0, { words := [], boxes := [] }, { x0 with boxes := [] }, ())).bind fun y2 =>
    some (y2.2.2.2.1)
def la80 {R : Type} : FuncId → Nat → Option (LAnn R) := fun g b => cond (Nat.beq g 80) (cond (Nat.beq b 0) (some (.ann a80_0)) none) none
theorem e80 (x0 : Mem) : evalFn (cfg (R := Mem) [(44, k44)] [] [] [(80, Tryz.f80)] (la80)) 8 80 [Ty.enc (.d .mem) x0] (RT.dec (.one (.d .mem))) = F80 x0 := by kernel_rfl
@[reducible] def k80 : Ctr := ⟨[.d .mem], .one (.d .mem), F80⟩
theorem c80 : Enters Tryz.prog 80 ∧ Ctr.Ok Tryz.prog 80 k80 :=
  ⟨enters Tryz.func80 n80 rfl, fun x0 y h => valid_of_eval (ρ := .one (.d .mem)) (la := la80) (.cons c44 .nil) .nil .nil (.cons Tryz.func80 n80 .nil) (.cons (ls := [(0, bodyAt Tryz.f80 0)]) (by kernel_rfl) ⟨(fun a ha => by have e := annEq ha (show (la80) 80 0 = some (LAnn.ann a80_0) from rfl); subst e; exact r80_0), trivial⟩ .nil) ((e80 x0).trans h)⟩
theorem n81 : (Tryz.f81.name == "runtime.NumGoroutine") = false := by kernel_rfl
/- millstreamlaw16.fiber -/
def S81_0 (v : Int × Thr × Thr × Thr × Unit) : Option ((Int × Thr × Thr × Thr × Unit) ⊕ (Int × Thr × Thr × Thr × Unit)) := match v with
  | (v0, v1, v2, v3, ()) =>
  bif decide (v0 < (v1.kids.length : Int)) then
    bif decide (0 ≤ v0) && decide (v0 < (v1.kids.length : Int)) then
      bif decide (v3.kids.length + 1 < 4294967296) && true then
        some (Sum.inl (IntKind.i64.wrap (v0 + 1), v1, v2, { v3 with kids := v3.kids ++ [v1.kids.getD v0.toNat Kd.kid.dflt] }, ()))
      else
        none
    else
      none
  else
    some (Sum.inr (v0, v1, v2, v3, ()))
def X81_0 : Int × Thr × Thr × Thr × Unit → Option (Int × Thr × Thr × Thr × Unit) := loopF S81_0 bigN
def a81_0 {R : Type} : Ann R := annOf [.sv 4 (.d .int), .bv 0 .thr [], .bv 1 .thr [], .bv 34 .thr [(5, .kid)]] [.s 1 ⟨false, [.ptr (.box 0 0)]⟩, .s 2 ⟨false, [.ptr (.box 1 0)]⟩, .s 3 ⟨false, [.ptr (.box 34 0)]⟩] 1000 X81_0 (fun k e => k (.exit 0) e)
theorem r81_0 {R : Type} : RunOk Tryz.prog Tryz.f81.ntmps (.loop (bodyAt Tryz.f81 0)) (evalAnn (a81_0 (R := R))) :=
  loop_ok (cs := [.sv 4 (.d .int), .bv 0 .thr [], .bv 1 .thr [], .bv 34 .thr [(5, .kid)]]) (fs := [.s 1 ⟨false, [.ptr (.box 0 0)]⟩, .s 2 ⟨false, [.ptr (.box 1 0)]⟩, .s 3 ⟨false, [.ptr (.box 34 0)]⟩]) (nx := 1000) (S := S81_0) (X := X81_0) rfl (kx := fun k e => k (.exit 0) e) (run_of_eval (R := R) (cs := [(44, k44)]) (fs := []) (ds := []) (fns := []) (la := fun _ _ => none) (.cons c44 .nil) .nil .nil .nil (.none fun _ _ _ h => by cases h) 8 _ 81 (bodyAt Tryz.f81 0) 0 (dstB (by kernel_rfl)) (fun _ _ _ h => by cases h)) fun rec k v => by
    obtain ⟨v0, v1, v2, v3, ⟨⟩⟩ := v; symm; (conv => lhs; simp only [S81_0, need_cond, need_obind, need_val, need_none, onOut_inl, onOut_inr])
    kernel_rfl
def F81 (x0 : Thr) : Option Thr :=
  (F44 x0.batch).bind fun y2 =>
    (X81_0 (0, x0, { phase := 0, item := 0, op := { tag := 0, v := 0 }, batch := [], kids := [], held := [], stop := 0, node := 0, at_ := 0, layer := 0, left := 0, width := 0, who := 0, x := 0, y := 0, til := 0 }, { x0 with batch := y2, kids := [] }, ())).bind fun y3 =>
      some (y3.2.2.2.1)
def la81 {R : Type} : FuncId → Nat → Option (LAnn R) := fun g b => cond (Nat.beq g 81) (cond (Nat.beq b 0) (some (.ann a81_0)) none) none
theorem e81 (x0 : Thr) : evalFn (cfg (R := Thr) [(44, k44)] [] [] [(81, Tryz.f81)] (la81)) 8 81 [Ty.enc (.d .thr) x0] (RT.dec (.one (.d .thr))) = F81 x0 := by kernel_rfl
@[reducible] def k81 : Ctr := ⟨[.d .thr], .one (.d .thr), F81⟩
theorem c81 : Enters Tryz.prog 81 ∧ Ctr.Ok Tryz.prog 81 k81 :=
  ⟨enters Tryz.func81 n81 rfl, fun x0 y h => valid_of_eval (ρ := .one (.d .thr)) (la := la81) (.cons c44 .nil) .nil .nil (.cons Tryz.func81 n81 .nil) (.cons (ls := [(0, bodyAt Tryz.f81 0)]) (by kernel_rfl) ⟨(fun a ha => by have e := annEq ha (show (la81) 81 0 = some (LAnn.ann a81_0) from rfl); subst e; exact r81_0), trivial⟩ .nil) ((e81 x0).trans h)⟩
theorem n82 : (Tryz.f82.name == "runtime.NumGoroutine") = false := by kernel_rfl
/- millstreamlaw16.marks -/
def S82_0 (v : (List Mark) × (List Mark) × Int × Unit) : Option (((List Mark) × (List Mark) × Int × Unit) ⊕ ((List Mark) × (List Mark) × Int × Unit)) := match v with
  | (v0, v1, v2, ()) =>
  bif decide (v2 < (v0.length : Int)) then
    bif decide (0 ≤ v2) && decide (v2 < (v0.length : Int)) then
      bif decide (0 ≤ v2) && decide (v2 < (v0.length : Int)) then
        bif decide (0 ≤ v2) && decide (v2 < (v0.length : Int)) then
          bif decide (0 ≤ v2) && decide (v2 < (v0.length : Int)) then
            bif decide (0 ≤ v2) && decide (v2 < (v0.length : Int)) then
              bif decide (v1.length + 1 < 4294967296) && true then
                some (Sum.inl (v0, v1 ++ [v0.getD v2.toNat Kd.mark.dflt], IntKind.i64.wrap (v2 + 1), ()))
              else
                none
            else
              none
          else
            none
        else
          none
      else
        none
    else
      none
  else
    some (Sum.inr (v0, v1, v2, ()))
def X82_0 : (List Mark) × (List Mark) × Int × Unit → Option ((List Mark) × (List Mark) × Int × Unit) := loopF S82_0 bigN
def a82_0 {R : Type} : Ann R := annOf [.sv 0 (.l .mark), .so 3 .mark, .sv 4 (.d .int)] [] 1000 X82_0 (fun k e => k (.exit 0) e)
theorem r82_0 {R : Type} : RunOk Tryz.prog Tryz.f82.ntmps (.loop (bodyAt Tryz.f82 0)) (evalAnn (a82_0 (R := R))) :=
  loop_ok (cs := [.sv 0 (.l .mark), .so 3 .mark, .sv 4 (.d .int)]) (fs := []) (nx := 1000) (S := S82_0) (X := X82_0) rfl (kx := fun k e => k (.exit 0) e) (run_of_eval (R := R) (cs := []) (fs := []) (ds := []) (fns := []) (la := fun _ _ => none) .nil .nil .nil .nil (.none fun _ _ _ h => by cases h) 8 _ 82 (bodyAt Tryz.f82 0) 0 (dstB (by kernel_rfl)) (fun _ _ _ h => by cases h)) fun rec k v => by
    obtain ⟨v0, v1, v2, ⟨⟩⟩ := v; symm; (conv => lhs; simp only [S82_0, need_cond, need_obind, need_val, need_none, onOut_inl, onOut_inr])
    kernel_rfl
def F82 (x0 : (List Mark)) : Option (List Mark) :=
  (X82_0 (x0, [], 0, ())).bind fun y2 =>
    some (y2.2.1)
def la82 {R : Type} : FuncId → Nat → Option (LAnn R) := fun g b => cond (Nat.beq g 82) (cond (Nat.beq b 0) (some (.ann a82_0)) none) none
theorem e82 (x0 : (List Mark)) : evalFn (cfg (R := (List Mark)) [] [] [] [(82, Tryz.f82)] (la82)) 8 82 [Ty.enc (.l .mark) x0] (RT.dec (.one (.l .mark))) = F82 x0 := by kernel_rfl
@[reducible] def k82 : Ctr := ⟨[.l .mark], .one (.l .mark), F82⟩
theorem c82 : Enters Tryz.prog 82 ∧ Ctr.Ok Tryz.prog 82 k82 :=
  ⟨enters Tryz.func82 n82 rfl, fun x0 y h => valid_of_eval (ρ := .one (.l .mark)) (la := la82) .nil .nil .nil (.cons Tryz.func82 n82 .nil) (.cons (ls := [(0, bodyAt Tryz.f82 0)]) (by kernel_rfl) ⟨(fun a ha => by have e := annEq ha (show (la82) 82 0 = some (LAnn.ann a82_0) from rfl); subst e; exact r82_0), trivial⟩ .nil) ((e82 x0).trans h)⟩
theorem n34 : (Tryz.f34.name == "runtime.NumGoroutine") = false := by kernel_rfl
/- millstreamlaw16.its -/
def F34 (x0 : Turn) : Option Turn :=
  (F80 x0.m).bind fun y2 =>
    (F81 x0.th).bind fun y3 =>
      (F82 x0.log).bind fun y4 =>
        some ({ x0 with m := y2, th := y3, log := y4 })
theorem e34 (x0 : Turn) : evalFn (cfg (R := Turn) [(80, k80), (81, k81), (82, k82)] [] [] [(34, Tryz.f34)] (fun _ _ => none)) 8 34 [Ty.enc (.d .turn) x0] (RT.dec (.one (.d .turn))) = F34 x0 := by kernel_rfl
@[reducible] def k34 : Ctr := ⟨[.d .turn], .one (.d .turn), F34⟩
theorem c34 : Enters Tryz.prog 34 ∧ Ctr.Ok Tryz.prog 34 k34 :=
  ⟨enters Tryz.func34 n34 rfl, fun x0 y h => valid_of_eval (ρ := .one (.d .turn)) (.cons c80 (.cons c81 (.cons c82 .nil))) .nil .nil (.cons Tryz.func34 n34 .nil) (.none fun _ _ _ h => by cases h) ((e34 x0).trans h)⟩
theorem n5 : (Tryz.f5.name == "runtime.NumGoroutine") = false := by kernel_rfl
/- millstreamlaw16.MachineIdle -/
def F5 (x0 : Turn) (x1 : Int) : Option Bool :=
  (F30 x0).bind fun y3 =>
    bif y3 then
      (F32).bind fun y4 =>
        some (y4)
    else
      (F31 x0).bind fun y4 =>
        bif !y4 then
          (F32).bind fun y5 =>
            some (y5)
        else
          bif decide (x1 > 1000) then
            (F32).bind fun y5 =>
              some (y5)
          else
            (F32).bind fun y5 =>
              bif !y5 then
                (F32).bind fun y6 =>
                  some (y6)
              else
                (F35 { x0 with th := { x0.th with phase := 0 } }).bind fun y6 =>
                  (F34 y6).bind fun y7 =>
                    (F34 { x0 with th := { x0.th with phase := 0 } }).bind fun y8 =>
                      (F33 y7 y8).bind fun y9 =>
                        bif y9 then
                          (F36 { x0 with th := { x0.th with phase := 0 } } x1).bind fun y10 =>
                            (F34 y10).bind fun y11 =>
                              (F34 { x0 with th := { x0.th with phase := 0 } }).bind fun y12 =>
                                (F33 y11 y12).bind fun y13 =>
                                  some (y13)
                        else
                          some (false)
theorem e5 (x0 : Turn) (x1 : Int) : evalFn (cfg (R := Bool) [(30, k30), (31, k31), (32, k32), (33, k33), (34, k34), (35, k35), (36, k36)] [] [] [(5, Tryz.f5)] (fun _ _ => none)) 8 5 [Ty.enc (.d .turn) x0, Ty.enc (.d .int) x1] (RT.dec (.one (.d .bool))) = F5 x0 x1 := by kernel_rfl
@[reducible] def k5 : Ctr := ⟨[.d .turn, .d .int], .one (.d .bool), F5⟩
theorem c5 : Enters Tryz.prog 5 ∧ Ctr.Ok Tryz.prog 5 k5 :=
  ⟨enters Tryz.func5 n5 rfl, fun x0 x1 y h => valid_of_eval (ρ := .one (.d .bool)) (.cons c30 (.cons c31 (.cons c32 (.cons c33 (.cons c34 (.cons c35 (.cons c36 .nil))))))) .nil .nil (.cons Tryz.func5 n5 .nil) (.none fun _ _ _ h => by cases h) ((e5 x0 x1).trans h)⟩
theorem n89 : (Tryz.f89.name == "runtime.NumGoroutine") = false := by kernel_rfl
/- millstreamref01.sum -/
def F89 (x0 : Int) (x1 : Int) : Option (Int × Bool) :=
  some ((IntKind.i64.wrap (x0 + x1), decide (x1 ≥ 0) == decide (IntKind.i64.wrap (x0 + x1) ≥ x0)))
theorem e89 (x0 : Int) (x1 : Int) : evalFn (cfg (R := (Int × Bool)) [] [] [] [(89, Tryz.f89)] (fun _ _ => none)) 8 89 [Ty.enc (.d .int) x0, Ty.enc (.d .int) x1] (RT.dec (.two (.d .int) (.d .bool))) = F89 x0 x1 := by kernel_rfl
@[reducible] def k89 : Ctr := ⟨[.d .int, .d .int], .two (.d .int) (.d .bool), F89⟩
theorem c89 : Enters Tryz.prog 89 ∧ Ctr.Ok Tryz.prog 89 k89 :=
  ⟨enters Tryz.func89 n89 rfl, fun x0 x1 y h => valid_of_eval (ρ := .two (.d .int) (.d .bool)) .nil .nil .nil (.cons Tryz.func89 n89 .nil) (.none fun _ _ _ h => by cases h) ((e89 x0 x1).trans h)⟩
theorem n38 : (Tryz.f38.name == "runtime.NumGoroutine") = false := by kernel_rfl
/- millstreamref01.Apply -/
def F38 (x0 : Opn) (x1 : Int) (x2 : Int) (x3 : Int) : Option (Int × Bool) :=
  bif x0.tag == 1 then
    some ((IntKind.i64.wrap (x1 + x0.v), true))
  else
    bif x0.tag == 2 then
      some ((IntKind.i64.wrap (x1 - x0.v), true))
    else
      bif x0.tag == 3 then
        some ((IntKind.i64.wrap ((BitVec.ofInt IntKind.i64.bits x1 ||| BitVec.ofInt IntKind.i64.bits x0.v).toNat : Int), true))
      else
        bif x0.tag == 4 then
          some ((IntKind.i64.wrap ((BitVec.ofInt IntKind.i64.bits x1 &&& BitVec.ofInt IntKind.i64.bits x0.v).toNat : Int), true))
        else
          bif x0.tag == 5 then
            some ((if true = true then if x0.v > x1 then x0.v else x1 else if x0.v < x1 then x0.v else x1, true))
          else
            bif x0.tag == 6 then
              some ((if false = true then if x0.v > x1 then x0.v else x1 else if x0.v < x1 then x0.v else x1, true))
            else
              bif x0.tag == 7 then
                some ((x0.v, true))
              else
                bif x0.tag == 8 then
                  (F89 x1 x0.v).bind fun y5 =>
                    bif !y5.snd then
                      some ((x1, false))
                    else
                      bif decide (y5.fst < x2) then
                        some ((x1, false))
                      else
                        bif decide (y5.fst > x3) then
                          some ((x1, false))
                        else
                          some ((y5.fst, true))
                else
                  bif x0.tag == 9 then
                    bif decide (x0.v < 0) then
                      some ((x1, false))
                    else
                      bif decide (x1 < x2) then
                        some ((x1, false))
                      else
                        bif decide (IntKind.u64.wrap x0.v ≥ IntKind.u64.wrap (IntKind.u64.wrap x1 - IntKind.u64.wrap x2)) then
                          some ((x2, true))
                        else
                          some ((IntKind.i64.wrap (x1 - x0.v), true))
                  else
                    some ((x1, false))
theorem e38 (x0 : Opn) (x1 : Int) (x2 : Int) (x3 : Int) : evalFn (cfg (R := (Int × Bool)) [(89, k89)] [] [] [(38, Tryz.f38)] (fun _ _ => none)) 8 38 [Ty.enc (.d .opn) x0, Ty.enc (.d .int) x1, Ty.enc (.d .int) x2, Ty.enc (.d .int) x3] (RT.dec (.two (.d .int) (.d .bool))) = F38 x0 x1 x2 x3 := by kernel_rfl
@[reducible] def k38 : Ctr := ⟨[.d .opn, .d .int, .d .int, .d .int], .two (.d .int) (.d .bool), F38⟩
theorem c38 : Enters Tryz.prog 38 ∧ Ctr.Ok Tryz.prog 38 k38 :=
  ⟨enters Tryz.func38 n38 rfl, fun x0 x1 x2 x3 y h => valid_of_eval (ρ := .two (.d .int) (.d .bool)) (.cons c89 .nil) .nil .nil (.cons Tryz.func38 n38 .nil) (.none fun _ _ _ h => by cases h) ((e38 x0 x1 x2 x3).trans h)⟩
theorem n6 : (Tryz.f6.name == "runtime.NumGoroutine") = false := by kernel_rfl
/- millstreamlaw16.MachineCell -/
def F6 (x0 : Cfg) (x1 : Int) (x2 : Int) (x3 : Opn) : Option Bool :=
  (F37 { x0 with backend := 1 }).bind fun y5 =>
    bif y5 != 0 then
      (F32).bind fun y6 =>
        some (y6)
    else
      (F32).bind fun y6 =>
        bif !y6 then
          (F32).bind fun y7 =>
            some (y7)
        else
          bif !x0.threads == 0 then
            bif !x0.items == 0 then
              (F38 x3 x0.init x0.lo x0.hi).bind fun y7 =>
                bif y7.fst == x0.init then
                  (F39 { x0 with backend := 1 }).bind fun y8 =>
                    (F41).bind fun y9 =>
                      (F40 { x0 with backend := 1 } ((IntKind.i64.wrap x1).tmod x0.threads) y9 ((IntKind.i64.wrap x2).tmod x0.items) x3 0).bind fun y10 =>
                        (F36 { c := { x0 with backend := 1 }, t := (IntKind.i64.wrap x1).tmod x0.threads, now := 0, m := y8, th := y10, tape := { l := [], at_ := 0 }, log := [], done := false } (IntKind.i64.wrap (2 - 1))).bind fun y11 =>
                          (F36 { c := { x0 with backend := 1 }, t := (IntKind.i64.wrap x1).tmod x0.threads, now := 0, m := y8, th := y10, tape := { l := [], at_ := 0 }, log := [], done := false } 2).bind fun y12 =>
                            bif !y11.done then
                              bif (y11.log.length : Int) == 0 then
                                bif y12.done then
                                  bif (y12.log.length : Int) == 1 then
                                    bif (y12.th.held.length : Int) == 0 then
                                      bif (y12.th.kids.length : Int) == 0 then
                                        some (y12.th.layer == 0)
                                      else
                                        some (false)
                                    else
                                      some (false)
                                  else
                                    some (false)
                                else
                                  some (false)
                              else
                                some (false)
                            else
                              some (false)
                else
                  (F39 { x0 with backend := 1 }).bind fun y8 =>
                    (F41).bind fun y9 =>
                      (F40 { x0 with backend := 1 } ((IntKind.i64.wrap x1).tmod x0.threads) y9 ((IntKind.i64.wrap x2).tmod x0.items) x3 0).bind fun y10 =>
                        (F36 { c := { x0 with backend := 1 }, t := (IntKind.i64.wrap x1).tmod x0.threads, now := 0, m := y8, th := y10, tape := { l := [], at_ := 0 }, log := [], done := false } (IntKind.i64.wrap (3 - 1))).bind fun y11 =>
                          (F36 { c := { x0 with backend := 1 }, t := (IntKind.i64.wrap x1).tmod x0.threads, now := 0, m := y8, th := y10, tape := { l := [], at_ := 0 }, log := [], done := false } 3).bind fun y12 =>
                            bif !y11.done then
                              bif (y11.log.length : Int) == 0 then
                                bif y12.done then
                                  bif (y12.log.length : Int) == 1 then
                                    bif (y12.th.held.length : Int) == 0 then
                                      bif (y12.th.kids.length : Int) == 0 then
                                        some (y12.th.layer == 0)
                                      else
                                        some (false)
                                    else
                                      some (false)
                                  else
                                    some (false)
                                else
                                  some (false)
                              else
                                some (false)
                            else
                              some (false)
            else
              none
          else
            none
theorem e6 (x0 : Cfg) (x1 : Int) (x2 : Int) (x3 : Opn) : evalFn (cfg (R := Bool) [(32, k32), (36, k36), (37, k37), (38, k38), (39, k39), (40, k40), (41, k41)] [] [] [(6, Tryz.f6)] (fun _ _ => none)) 8 6 [Ty.enc (.d .cfg) x0, Ty.enc (.u8) x1, Ty.enc (.u8) x2, Ty.enc (.d .opn) x3] (RT.dec (.one (.d .bool))) = F6 x0 x1 x2 x3 := by kernel_rfl
@[reducible] def k6 : Ctr := ⟨[.d .cfg, .u8, .u8, .d .opn], .one (.d .bool), F6⟩
theorem c6 : Enters Tryz.prog 6 ∧ Ctr.Ok Tryz.prog 6 k6 :=
  ⟨enters Tryz.func6 n6 rfl, fun x0 x1 x2 x3 y h => valid_of_eval (ρ := .one (.d .bool)) (.cons c32 (.cons c36 (.cons c37 (.cons c38 (.cons c39 (.cons c40 (.cons c41 .nil))))))) .nil .nil (.cons Tryz.func6 n6 .nil) (.none fun _ _ _ h => by cases h) ((e6 x0 x1 x2 x3).trans h)⟩
theorem n42 : (Tryz.f42.name == "runtime.NumGoroutine") = false := by kernel_rfl
/- millstreamlaw16.layered -/
def F42 (x0 : Turn) : Option Bool :=
  (F31 x0).bind fun y2 =>
    bif y2 then
      bif decide (x0.th.phase < 17) then
        some (true)
      else
        bif decide (x0.th.layer ≥ 1) then
          some (decide (x0.th.layer ≤ 3))
        else
          some (false)
    else
      some (false)
theorem e42 (x0 : Turn) : evalFn (cfg (R := Bool) [(31, k31)] [] [] [(42, Tryz.f42)] (fun _ _ => none)) 8 42 [Ty.enc (.d .turn) x0] (RT.dec (.one (.d .bool))) = F42 x0 := by kernel_rfl
@[reducible] def k42 : Ctr := ⟨[.d .turn], .one (.d .bool), F42⟩
theorem c42 : Enters Tryz.prog 42 ∧ Ctr.Ok Tryz.prog 42 k42 :=
  ⟨enters Tryz.func42 n42 rfl, fun x0 y h => valid_of_eval (ρ := .one (.d .bool)) (.cons c31 .nil) .nil .nil (.cons Tryz.func42 n42 .nil) (.none fun _ _ _ h => by cases h) ((e42 x0).trans h)⟩
theorem n7 : (Tryz.f7.name == "runtime.NumGoroutine") = false := by kernel_rfl
/- millstreamlaw16.MachineLogs -/
def F7 (x0 : Turn) : Option Bool :=
  (F30 x0).bind fun y2 =>
    bif y2 then
      (F32).bind fun y3 =>
        some (y3)
    else
      (F42 x0).bind fun y3 =>
        bif !y3 then
          (F32).bind fun y4 =>
            some (y4)
        else
          bif (x0.th.batch.length : Int) == 0 then
            (F32).bind fun y4 =>
              some (y4)
          else
            (F32).bind fun y4 =>
              bif !y4 then
                (F32).bind fun y5 =>
                  some (y5)
              else
                (F35 x0).bind fun y5 =>
                  bif x0.th.phase == 0 then
                    some ((y5.log.length : Int) == (x0.log.length : Int))
                  else
                    bif x0.th.phase == 2 then
                      bif y5.th.phase == 15 then
                        bif decide ((y5.log.length : Int) > 0) == true then
                          bif (y5.log.length : Int) == 0 then
                            bif !y5.done then
                              some (true)
                            else
                              some (y5.th.phase == 0)
                          else
                            bif (y5.log.length : Int) == (x0.th.batch.length : Int) then
                              bif !y5.done then
                                some (true)
                              else
                                some (y5.th.phase == 0)
                            else
                              some (false)
                        else
                          some (false)
                      else
                        bif decide ((y5.log.length : Int) > 0) == (y5.th.phase == 0) then
                          bif (y5.log.length : Int) == 0 then
                            bif !y5.done then
                              some (true)
                            else
                              some (y5.th.phase == 0)
                          else
                            bif (y5.log.length : Int) == (x0.th.batch.length : Int) then
                              bif !y5.done then
                                some (true)
                              else
                                some (y5.th.phase == 0)
                            else
                              some (false)
                        else
                          some (false)
                    else
                      bif x0.th.phase == 3 then
                        bif y5.th.phase == 15 then
                          bif decide ((y5.log.length : Int) > 0) == true then
                            bif (y5.log.length : Int) == 0 then
                              bif !y5.done then
                                some (true)
                              else
                                some (y5.th.phase == 0)
                            else
                              bif (y5.log.length : Int) == (x0.th.batch.length : Int) then
                                bif !y5.done then
                                  some (true)
                                else
                                  some (y5.th.phase == 0)
                              else
                                some (false)
                          else
                            some (false)
                        else
                          bif decide ((y5.log.length : Int) > 0) == (y5.th.phase == 0) then
                            bif (y5.log.length : Int) == 0 then
                              bif !y5.done then
                                some (true)
                              else
                                some (y5.th.phase == 0)
                            else
                              bif (y5.log.length : Int) == (x0.th.batch.length : Int) then
                                bif !y5.done then
                                  some (true)
                                else
                                  some (y5.th.phase == 0)
                              else
                                some (false)
                          else
                            some (false)
                      else
                        bif y5.th.phase == 15 then
                          bif x0.th.phase == 25 then
                            bif decide ((y5.log.length : Int) > 0) == true then
                              bif (y5.log.length : Int) == 0 then
                                bif !y5.done then
                                  some (true)
                                else
                                  some (y5.th.phase == 0)
                              else
                                bif (y5.log.length : Int) == (x0.th.batch.length : Int) then
                                  bif !y5.done then
                                    some (true)
                                  else
                                    some (y5.th.phase == 0)
                                else
                                  some (false)
                            else
                              some (false)
                          else
                            bif decide ((y5.log.length : Int) > 0) == false then
                              bif (y5.log.length : Int) == 0 then
                                bif !y5.done then
                                  some (true)
                                else
                                  some (y5.th.phase == 0)
                              else
                                bif (y5.log.length : Int) == (x0.th.batch.length : Int) then
                                  bif !y5.done then
                                    some (true)
                                  else
                                    some (y5.th.phase == 0)
                                else
                                  some (false)
                            else
                              some (false)
                        else
                          bif x0.th.phase == 25 then
                            bif decide ((y5.log.length : Int) > 0) == (y5.th.phase == 0) then
                              bif (y5.log.length : Int) == 0 then
                                bif !y5.done then
                                  some (true)
                                else
                                  some (y5.th.phase == 0)
                              else
                                bif (y5.log.length : Int) == (x0.th.batch.length : Int) then
                                  bif !y5.done then
                                    some (true)
                                  else
                                    some (y5.th.phase == 0)
                                else
                                  some (false)
                            else
                              some (false)
                          else
                            bif decide ((y5.log.length : Int) > 0) == false then
                              bif (y5.log.length : Int) == 0 then
                                bif !y5.done then
                                  some (true)
                                else
                                  some (y5.th.phase == 0)
                              else
                                bif (y5.log.length : Int) == (x0.th.batch.length : Int) then
                                  bif !y5.done then
                                    some (true)
                                  else
                                    some (y5.th.phase == 0)
                                else
                                  some (false)
                            else
                              some (false)
theorem e7 (x0 : Turn) : evalFn (cfg (R := Bool) [(30, k30), (32, k32), (35, k35), (42, k42)] [] [] [(7, Tryz.f7)] (fun _ _ => none)) 8 7 [Ty.enc (.d .turn) x0] (RT.dec (.one (.d .bool))) = F7 x0 := by kernel_rfl
@[reducible] def k7 : Ctr := ⟨[.d .turn], .one (.d .bool), F7⟩
theorem c7 : Enters Tryz.prog 7 ∧ Ctr.Ok Tryz.prog 7 k7 :=
  ⟨enters Tryz.func7 n7 rfl, fun x0 y h => valid_of_eval (ρ := .one (.d .bool)) (.cons c30 (.cons c32 (.cons c35 (.cons c42 .nil)))) .nil .nil (.cons Tryz.func7 n7 .nil) (.none fun _ _ _ h => by cases h) ((e7 x0).trans h)⟩
end Go.Proofs.YtihhgenbkiollaaGreat

/- The functions of the program, part gf: what they answer. No condition. -/
namespace Go.Proofs.YtihhgenbkiollaaGreat
open Go Go.Proofs
set_option maxRecDepth 100000
theorem n8 : (Tryz.f8.name == "runtime.NumGoroutine") = false := by kernel_rfl
/- millstreamlaw16.MachineOne -/
def S8_2 (v : Int × Int × Turn × Turn × Unit) : Option ((Int × Int × Turn × Turn × Unit) ⊕ (Int × Int × Turn × Turn × Unit)) := match v with
  | (v0, v1, v2, v3, ()) =>
  bif decide (v1 < (v2.m.boxes.length : Int)) then
    bif decide (0 ≤ v1) && decide (v1 < (v2.m.boxes.length : Int)) then
      (F44 (v2.m.boxes.getD v1.toNat Kd.box.dflt)).bind fun y5 =>
        bif decide (0 ≤ v1) && decide (v1 < (v3.m.boxes.length : Int)) then
          (F44 (v3.m.boxes.getD v1.toNat Kd.box.dflt)).bind fun y6 =>
            (F43 y5 y6).bind fun y7 =>
              bif !y7 then
                some (Sum.inl (IntKind.i64.wrap (v0 + 1), IntKind.i64.wrap (v1 + 1), v2, v3, ()))
              else
                some (Sum.inl (v0, IntKind.i64.wrap (v1 + 1), v2, v3, ()))
        else
          none
    else
      none
  else
    some (Sum.inr (v0, v1, v2, v3, ()))
def X8_2 : Int × Int × Turn × Turn × Unit → Option (Int × Int × Turn × Turn × Unit) := loopF S8_2 bigN
def a8_2 {R : Type} : Ann R := annOf [.sv 4 (.d .int), .sv 6 (.d .int), .bv 0 .turn [], .bv 17 .turn []] [.s 1 ⟨false, [.ptr (.box 0 0)]⟩, .s 3 ⟨false, [.ptr (.box 17 0)]⟩] 2000 X8_2 (fun k e => k (.exit 2) e)
theorem r8_2 {R : Type} : RunOk Tryz.prog Tryz.f8.ntmps (.loop (bodyAt Tryz.f8 2)) (evalAnn (a8_2 (R := R))) :=
  loop_ok (cs := [.sv 4 (.d .int), .sv 6 (.d .int), .bv 0 .turn [], .bv 17 .turn []]) (fs := [.s 1 ⟨false, [.ptr (.box 0 0)]⟩, .s 3 ⟨false, [.ptr (.box 17 0)]⟩]) (nx := 2000) (S := S8_2) (X := X8_2) rfl (kx := fun k e => k (.exit 2) e) (run_of_eval (R := R) (cs := [(30, k30), (32, k32), (35, k35), (42, k42), (43, k43), (44, k44)]) (fs := []) (ds := []) (fns := []) (la := fun _ _ => none) (.cons c30 (.cons c32 (.cons c35 (.cons c42 (.cons c43 (.cons c44 .nil)))))) .nil .nil .nil (.none fun _ _ _ h => by cases h) 8 _ 8 (bodyAt Tryz.f8 2) 2 (dstB (by kernel_rfl)) (fun _ _ _ h => by cases h)) fun rec k v => by
    obtain ⟨v0, v1, v2, v3, ⟨⟩⟩ := v; symm; (conv => lhs; simp only [S8_2, need_cond, need_obind, need_val, need_none, onOut_inl, onOut_inr])
    kernel_rfl
def S8_0 (v : Int × Int × Turn × Turn × Unit) : Option ((Int × Int × Turn × Turn × Unit) ⊕ (Int × Int × Turn × Turn × Unit)) := match v with
  | (v0, v1, v2, v3, ()) =>
  bif decide (v1 < (v2.m.words.length : Int)) then
    bif decide (0 ≤ v1) && decide (v1 < (v3.m.words.length : Int)) then
      bif decide (0 ≤ v1) && decide (v1 < (v2.m.words.length : Int)) then
        bif v3.m.words.getD v1.toNat Kd.int.dflt != v2.m.words.getD v1.toNat Kd.int.dflt then
          some (Sum.inl (IntKind.i64.wrap (v0 + 1), IntKind.i64.wrap (v1 + 1), v2, v3, ()))
        else
          some (Sum.inl (v0, IntKind.i64.wrap (v1 + 1), v2, v3, ()))
      else
        none
    else
      none
  else
    some (Sum.inr (v0, v1, v2, v3, ()))
def X8_0 : Int × Int × Turn × Turn × Unit → Option (Int × Int × Turn × Turn × Unit) := loopF S8_0 bigN
def a8_0 {R : Type} : Ann R := annOf [.sv 4 (.d .int), .sv 5 (.d .int), .bv 0 .turn [], .bv 17 .turn []] [.s 1 ⟨false, [.ptr (.box 0 0)]⟩, .s 3 ⟨false, [.ptr (.box 17 0)]⟩] 1000 X8_0 (fun k e => k (.exit 0) e)
theorem r8_0 {R : Type} : RunOk Tryz.prog Tryz.f8.ntmps (.loop (bodyAt Tryz.f8 0)) (evalAnn (a8_0 (R := R))) :=
  loop_ok (cs := [.sv 4 (.d .int), .sv 5 (.d .int), .bv 0 .turn [], .bv 17 .turn []]) (fs := [.s 1 ⟨false, [.ptr (.box 0 0)]⟩, .s 3 ⟨false, [.ptr (.box 17 0)]⟩]) (nx := 1000) (S := S8_0) (X := X8_0) rfl (kx := fun k e => k (.exit 0) e) (run_of_eval (R := R) (cs := [(30, k30), (32, k32), (35, k35), (42, k42), (43, k43), (44, k44)]) (fs := []) (ds := []) (fns := []) (la := fun _ _ => none) (.cons c30 (.cons c32 (.cons c35 (.cons c42 (.cons c43 (.cons c44 .nil)))))) .nil .nil .nil (.none fun _ _ _ h => by cases h) 8 _ 8 (bodyAt Tryz.f8 0) 0 (dstB (by kernel_rfl)) (fun _ _ _ h => by cases h)) fun rec k v => by
    obtain ⟨v0, v1, v2, v3, ⟨⟩⟩ := v; symm; (conv => lhs; simp only [S8_0, need_cond, need_obind, need_val, need_none, onOut_inl, onOut_inr])
    kernel_rfl
def F8 (x0 : Turn) : Option Bool :=
  (F30 x0).bind fun y2 =>
    bif y2 then
      (F32).bind fun y3 =>
        some (y3)
    else
      (F42 x0).bind fun y3 =>
        bif !y3 then
          (F32).bind fun y4 =>
            some (y4)
        else
          (F32).bind fun y4 =>
            bif !y4 then
              (F32).bind fun y5 =>
                some (y5)
            else
              (F35 x0).bind fun y5 =>
                bif (y5.m.words.length : Int) != (x0.m.words.length : Int) then
                  some (false)
                else
                  bif (y5.m.boxes.length : Int) != (x0.m.boxes.length : Int) then
                    some (false)
                  else
                    none
def la8 {R : Type} : FuncId → Nat → Option (LAnn R) := fun g b => cond (Nat.beq g 8) (cond (Nat.beq b 0) (some (.ann a8_0)) (cond (Nat.beq b 2) (some (.ann a8_2)) none)) none
theorem e8 (x0 : Turn) : evalFn (cfg (R := Bool) [(30, k30), (32, k32), (35, k35), (42, k42), (43, k43), (44, k44)] [] [] [(8, Tryz.f8)] (la8)) 8 8 [Ty.enc (.d .turn) x0] (RT.dec (.one (.d .bool))) = F8 x0 := by kernel_rfl
@[reducible] def k8 : Ctr := ⟨[.d .turn], .one (.d .bool), F8⟩
theorem c8 : Enters Tryz.prog 8 ∧ Ctr.Ok Tryz.prog 8 k8 :=
  ⟨enters Tryz.func8 n8 rfl, fun x0 y h => valid_of_eval (ρ := .one (.d .bool)) (la := la8) (.cons c30 (.cons c32 (.cons c35 (.cons c42 (.cons c43 (.cons c44 .nil)))))) .nil .nil (.cons Tryz.func8 n8 .nil) (.cons (ls := [(0, bodyAt Tryz.f8 0), (2, bodyAt Tryz.f8 2)]) (by kernel_rfl) ⟨(fun a ha => by have e := annEq ha (show (la8) 8 0 = some (LAnn.ann a8_0) from rfl); subst e; exact r8_0), ⟨(fun a ha => by have e := annEq ha (show (la8) 8 2 = some (LAnn.ann a8_2) from rfl); subst e; exact r8_2), trivial⟩⟩ .nil) ((e8 x0).trans h)⟩
theorem n23 : (Tryz.f23.name == "runtime.NumGoroutine") = false := by kernel_rfl
/- millstreamref06.Node -/
def F23 (x0 : Cfg) (x1 : Int) (x2 : Int) : Option Int :=
  bif decide (x1 < 0) then
    some (-1)
  else
    bif decide (x1 ≥ x0.items) then
      some (-1)
    else
      bif decide (x2 < 1) then
        some (-1)
      else
        (F22 x0).bind fun y4 =>
          bif decide (x2 > y4) then
            some (-1)
          else
            (F68 x0).bind fun y5 =>
              some (IntKind.i64.wrap (IntKind.i64.wrap (x1 * y5) + x2))
theorem e23 (x0 : Cfg) (x1 : Int) (x2 : Int) : evalFn (cfg (R := Int) [(22, k22), (68, k68)] [] [] [(23, Tryz.f23)] (fun _ _ => none)) 8 23 [Ty.enc (.d .cfg) x0, Ty.enc (.d .int) x1, Ty.enc (.d .int) x2] (RT.dec (.one (.d .int))) = F23 x0 x1 x2 := by kernel_rfl
@[reducible] def k23 : Ctr := ⟨[.d .cfg, .d .int, .d .int], .one (.d .int), F23⟩
theorem c23 : Enters Tryz.prog 23 ∧ Ctr.Ok Tryz.prog 23 k23 :=
  ⟨enters Tryz.func23 n23 rfl, fun x0 x1 x2 y h => valid_of_eval (ρ := .one (.d .int)) (.cons c22 (.cons c68 .nil)) .nil .nil (.cons Tryz.func23 n23 .nil) (.none fun _ _ _ h => by cases h) ((e23 x0 x1 x2).trans h)⟩
theorem n24 : (Tryz.f24.name == "runtime.NumGoroutine") = false := by kernel_rfl
/- millstreamref06.Line -/
def F24 (x0 : Cfg) (x1 : Int) : Option Int :=
  bif decide (x1 < 0) then
    some (-1)
  else
    bif decide (x1 ≥ x0.threads) then
      some (-1)
    else
      (F68 x0).bind fun y3 =>
        some (IntKind.i64.wrap (IntKind.i64.wrap (x0.items * y3) + IntKind.i64.wrap (2 * x1)))
theorem e24 (x0 : Cfg) (x1 : Int) : evalFn (cfg (R := Int) [(68, k68)] [] [] [(24, Tryz.f24)] (fun _ _ => none)) 8 24 [Ty.enc (.d .cfg) x0, Ty.enc (.d .int) x1] (RT.dec (.one (.d .int))) = F24 x0 x1 := by kernel_rfl
@[reducible] def k24 : Ctr := ⟨[.d .cfg, .d .int], .one (.d .int), F24⟩
theorem c24 : Enters Tryz.prog 24 ∧ Ctr.Ok Tryz.prog 24 k24 :=
  ⟨enters Tryz.func24 n24 rfl, fun x0 x1 y h => valid_of_eval (ρ := .one (.d .int)) (.cons c68 .nil) .nil .nil (.cons Tryz.func24 n24 .nil) (.none fun _ _ _ h => by cases h) ((e24 x0 x1).trans h)⟩
theorem n45 : (Tryz.f45.name == "runtime.NumGoroutine") = false := by kernel_rfl
/- millstreamref01.May -/
def F45 (x0 : Opn) (x1 : Bool) : Option Bool :=
  bif x1 then
    bif x0.tag == 8 then
      some (true)
    else
      bif x0.tag == 9 then
        some (decide (x0.v ≥ 0))
      else
        some (false)
  else
    bif decide (x0.tag ≥ 1) then
      some (decide (x0.tag ≤ 7))
    else
      some (false)
theorem e45 (x0 : Opn) (x1 : Bool) : evalFn (cfg (R := Bool) [] [] [] [(45, Tryz.f45)] (fun _ _ => none)) 8 45 [Ty.enc (.d .opn) x0, Ty.enc (.d .bool) x1] (RT.dec (.one (.d .bool))) = F45 x0 x1 := by kernel_rfl
@[reducible] def k45 : Ctr := ⟨[.d .opn, .d .bool], .one (.d .bool), F45⟩
theorem c45 : Enters Tryz.prog 45 ∧ Ctr.Ok Tryz.prog 45 k45 :=
  ⟨enters Tryz.func45 n45 rfl, fun x0 x1 y h => valid_of_eval (ρ := .one (.d .bool)) .nil .nil .nil (.cons Tryz.func45 n45 .nil) (.none fun _ _ _ h => by cases h) ((e45 x0 x1).trans h)⟩
theorem n46 : (Tryz.f46.name == "runtime.NumGoroutine") = false := by kernel_rfl
/- config.Steps -/
def F46 (x0 : Cfg) : Option Int :=
  some (IntKind.i64.wrap (IntKind.i64.wrap (20 + IntKind.i64.wrap (8 * x0.depth)) + IntKind.i64.wrap (x0.layers * IntKind.i64.wrap (20 + IntKind.i64.wrap (2 * x0.spin)))))
theorem e46 (x0 : Cfg) : evalFn (cfg (R := Int) [] [] [] [(46, Tryz.f46)] (fun _ _ => none)) 8 46 [Ty.enc (.d .cfg) x0] (RT.dec (.one (.d .int))) = F46 x0 := by kernel_rfl
@[reducible] def k46 : Ctr := ⟨[.d .cfg], .one (.d .int), F46⟩
theorem c46 : Enters Tryz.prog 46 ∧ Ctr.Ok Tryz.prog 46 k46 :=
  ⟨enters Tryz.func46 n46 rfl, fun x0 y h => valid_of_eval (ρ := .one (.d .int)) .nil .nil .nil (.cons Tryz.func46 n46 .nil) (.none fun _ _ _ h => by cases h) ((e46 x0).trans h)⟩
theorem n47 : (Tryz.f47.name == "runtime.NumGoroutine") = false := by kernel_rfl
/- millstreamref06.Cell -/
def F47 (x0 : Cfg) (x1 : Int) : Option Int :=
  bif decide (x1 < 0) then
    some (-1)
  else
    bif decide (x1 ≥ x0.items) then
      some (-1)
    else
      (F68 x0).bind fun y3 =>
        some (IntKind.i64.wrap (x1 * y3))
theorem e47 (x0 : Cfg) (x1 : Int) : evalFn (cfg (R := Int) [(68, k68)] [] [] [(47, Tryz.f47)] (fun _ _ => none)) 8 47 [Ty.enc (.d .cfg) x0, Ty.enc (.d .int) x1] (RT.dec (.one (.d .int))) = F47 x0 x1 := by kernel_rfl
@[reducible] def k47 : Ctr := ⟨[.d .cfg, .d .int], .one (.d .int), F47⟩
theorem c47 : Enters Tryz.prog 47 ∧ Ctr.Ok Tryz.prog 47 k47 :=
  ⟨enters Tryz.func47 n47 rfl, fun x0 x1 y h => valid_of_eval (ρ := .one (.d .int)) (.cons c68 .nil) .nil .nil (.cons Tryz.func47 n47 .nil) (.none fun _ _ _ h => by cases h) ((e47 x0 x1).trans h)⟩
theorem n9 : (Tryz.f9.name == "runtime.NumGoroutine") = false := by kernel_rfl
/- millstreamlaw16.MachineAlone -/
def S9_2 (v : Bool × Int × Int × Int × Int × Int × Cfg × Cfg × Turn × Unit) : Option ((Bool × Int × Int × Int × Int × Int × Cfg × Cfg × Turn × Unit) ⊕ (Bool × Bool × Int × Int × Int × Int × Int × Cfg × Cfg × Turn × Unit)) := match v with
  | (v0, v1, v2, v3, v4, v5, v6, v7, v8, ()) =>
  (F22 v7).bind fun y10 =>
    bif decide (v5 ≤ y10) then
      (F23 v7 v4 v5).bind fun y11 =>
        bif decide (0 ≤ y11) && decide (y11 < (v8.m.words.length : Int)) then
          bif v8.m.words.getD y11.toNat Kd.int.dflt != 0 then
            some (Sum.inr (true, false, v1, v2, v3, v4, v5, v6, v7, v8, ()))
          else
            some (Sum.inl (v0, v1, v2, v3, v4, IntKind.i64.wrap (v5 + 1), v6, v7, v8, ()))
        else
          none
    else
      some (Sum.inr (false, v0, v1, v2, v3, v4, v5, v6, v7, v8, ()))
def X9_2 : Bool × Int × Int × Int × Int × Int × Cfg × Cfg × Turn × Unit → Option (Bool × Bool × Int × Int × Int × Int × Int × Cfg × Cfg × Turn × Unit) := loopF S9_2 bigN
def a9_2 {R : Type} : Ann R := annOf [.sv 10 (.d .bool), .sv 12 (.d .int), .sv 13 (.d .int), .sv 16 (.d .int), .sv 18 (.d .int), .sv 20 (.d .int), .bv 0 .cfg [], .bv 4 .cfg [], .bv 55 .turn []] [.s 5 ⟨false, [.ptr (.box 0 0)]⟩, .s 11 ⟨false, [.ptr (.box 4 0)]⟩, .s 15 ⟨false, [.ptr (.box 55 0)]⟩] 2000 X9_2 (fun k e => cond e.1 (k (.ret) e.2) (k (.exit 2) e.2))
theorem r9_2 {R : Type} : RunOk Tryz.prog Tryz.f9.ntmps (.loop (bodyAt Tryz.f9 2)) (evalAnn (a9_2 (R := R))) :=
  loop_ok (cs := [.sv 10 (.d .bool), .sv 12 (.d .int), .sv 13 (.d .int), .sv 16 (.d .int), .sv 18 (.d .int), .sv 20 (.d .int), .bv 0 .cfg [], .bv 4 .cfg [], .bv 55 .turn []]) (fs := [.s 5 ⟨false, [.ptr (.box 0 0)]⟩, .s 11 ⟨false, [.ptr (.box 4 0)]⟩, .s 15 ⟨false, [.ptr (.box 55 0)]⟩]) (nx := 2000) (S := S9_2) (X := X9_2) rfl (kx := fun k e => cond e.1 (k (.ret) e.2) (k (.exit 2) e.2)) (run_of_eval (R := R) (cs := [(21, k21), (22, k22), (23, k23), (24, k24), (26, k26), (32, k32), (36, k36), (37, k37), (38, k38), (39, k39), (40, k40), (41, k41), (45, k45), (46, k46), (47, k47)]) (fs := []) (ds := []) (fns := []) (la := fun _ _ => none) (.cons c21 (.cons c22 (.cons c23 (.cons c24 (.cons c26 (.cons c32 (.cons c36 (.cons c37 (.cons c38 (.cons c39 (.cons c40 (.cons c41 (.cons c45 (.cons c46 (.cons c47 .nil))))))))))))))) .nil .nil .nil (.none fun _ _ _ h => by cases h) 8 _ 9 (bodyAt Tryz.f9 2) 2 (dstB (by kernel_rfl)) (fun _ _ _ h => by cases h)) fun rec k v => by
    obtain ⟨v0, v1, v2, v3, v4, v5, v6, v7, v8, ⟨⟩⟩ := v; symm; (conv => lhs; simp only [S9_2, need_cond, need_obind, need_val, need_none, onOut_inl, onOut_inr])
    kernel_rfl
def S9_0 (v : Bool × Int × Int × Int × Int × Cfg × Cfg × Turn × Unit) : Option ((Bool × Int × Int × Int × Int × Cfg × Cfg × Turn × Unit) ⊕ (Bool × Bool × Int × Int × Int × Int × Cfg × Cfg × Turn × Unit)) := match v with
  | (v0, v1, v2, v3, v4, v5, v6, v7, ()) =>
  bif decide (v4 < v5.items) then
    bif v4 == v2 then
      (F47 v6 v4).bind fun y9 =>
        bif decide (0 ≤ y9) && decide (y9 < (v7.m.words.length : Int)) then
          bif v7.m.words.getD y9.toNat Kd.int.dflt != v3 then
            some (Sum.inr (true, false, v1, v2, v3, v4, v5, v6, v7, ()))
          else
            (X9_2 (v0, v1, v2, v3, v4, 1, v5, v6, v7, ())).bind fun y10 =>
              bif y10.fst then
                some (Sum.inr (true, y10.2.1, y10.2.2.1, y10.2.2.2.1, y10.2.2.2.2.1, y10.2.2.2.2.2.1, y10.2.2.2.2.2.2.2.1, y10.2.2.2.2.2.2.2.2.1, y10.2.2.2.2.2.2.2.2.2.1, ()))
              else
                some (Sum.inl (y10.2.1, y10.2.2.1, y10.2.2.2.1, y10.2.2.2.2.1, IntKind.i64.wrap (y10.2.2.2.2.2.1 + 1), y10.2.2.2.2.2.2.2.1, y10.2.2.2.2.2.2.2.2.1, y10.2.2.2.2.2.2.2.2.2.1, ()))
        else
          none
    else
      (F47 v6 v4).bind fun y9 =>
        bif decide (0 ≤ y9) && decide (y9 < (v7.m.words.length : Int)) then
          bif v7.m.words.getD y9.toNat Kd.int.dflt != v5.init then
            some (Sum.inr (true, false, v1, v2, v3, v4, v5, v6, v7, ()))
          else
            (X9_2 (v0, v1, v2, v3, v4, 1, v5, v6, v7, ())).bind fun y10 =>
              bif y10.fst then
                some (Sum.inr (true, y10.2.1, y10.2.2.1, y10.2.2.2.1, y10.2.2.2.2.1, y10.2.2.2.2.2.1, y10.2.2.2.2.2.2.2.1, y10.2.2.2.2.2.2.2.2.1, y10.2.2.2.2.2.2.2.2.2.1, ()))
              else
                some (Sum.inl (y10.2.1, y10.2.2.1, y10.2.2.2.1, y10.2.2.2.2.1, IntKind.i64.wrap (y10.2.2.2.2.2.1 + 1), y10.2.2.2.2.2.2.2.1, y10.2.2.2.2.2.2.2.2.1, y10.2.2.2.2.2.2.2.2.2.1, ()))
        else
          none
  else
    some (Sum.inr (false, v0, v1, v2, v3, v4, v5, v6, v7, ()))
def X9_0 : Bool × Int × Int × Int × Int × Cfg × Cfg × Turn × Unit → Option (Bool × Bool × Int × Int × Int × Int × Cfg × Cfg × Turn × Unit) := loopF S9_0 bigN
def a9_0 {R : Type} : Ann R := annOf [.sv 10 (.d .bool), .sv 12 (.d .int), .sv 13 (.d .int), .sv 16 (.d .int), .sv 18 (.d .int), .bv 0 .cfg [], .bv 4 .cfg [], .bv 55 .turn []] [.s 5 ⟨false, [.ptr (.box 0 0)]⟩, .s 11 ⟨false, [.ptr (.box 4 0)]⟩, .s 15 ⟨false, [.ptr (.box 55 0)]⟩] 1000 X9_0 (fun k e => cond e.1 (k (.ret) e.2) (k (.exit 0) e.2))
theorem r9_0 {R : Type} : RunOk Tryz.prog Tryz.f9.ntmps (.loop (bodyAt Tryz.f9 0)) (evalAnn (a9_0 (R := R))) :=
  loop_ok (cs := [.sv 10 (.d .bool), .sv 12 (.d .int), .sv 13 (.d .int), .sv 16 (.d .int), .sv 18 (.d .int), .bv 0 .cfg [], .bv 4 .cfg [], .bv 55 .turn []]) (fs := [.s 5 ⟨false, [.ptr (.box 0 0)]⟩, .s 11 ⟨false, [.ptr (.box 4 0)]⟩, .s 15 ⟨false, [.ptr (.box 55 0)]⟩]) (nx := 1000) (S := S9_0) (X := X9_0) rfl (kx := fun k e => cond e.1 (k (.ret) e.2) (k (.exit 0) e.2)) (run_of_eval (R := R) (cs := [(21, k21), (22, k22), (23, k23), (24, k24), (26, k26), (32, k32), (36, k36), (37, k37), (38, k38), (39, k39), (40, k40), (41, k41), (45, k45), (46, k46), (47, k47)]) (fs := []) (ds := []) (fns := []) (la := fun g b => cond (Nat.beq g 9) (cond (Nat.beq b 2) (some (.ann a9_2)) none) none) (.cons c21 (.cons c22 (.cons c23 (.cons c24 (.cons c26 (.cons c32 (.cons c36 (.cons c37 (.cons c38 (.cons c39 (.cons c40 (.cons c41 (.cons c45 (.cons c46 (.cons c47 .nil))))))))))))))) .nil .nil .nil .nil 8 _ 9 (bodyAt Tryz.f9 0) 0 (dstB (by kernel_rfl)) (hlp_of (R := R) (N := Tryz.f9.ntmps) (la := fun g b => cond (Nat.beq g 9) (cond (Nat.beq b 2) (some (.ann a9_2)) none) none) (g := 9) (c := bodyAt Tryz.f9 0) (b := 0) (ls := [(2, bodyAt Tryz.f9 2)]) (by kernel_rfl) ⟨(fun a ha => by have e := annEq ha (show ((fun g b => cond (Nat.beq g 9) (cond (Nat.beq b 2) (some (.ann a9_2)) none) none : FuncId → Nat → Option (LAnn R))) 9 2 = some (LAnn.ann a9_2) from rfl); subst e; exact r9_2), trivial⟩)) fun rec k v => by
    obtain ⟨v0, v1, v2, v3, v4, v5, v6, v7, ⟨⟩⟩ := v; symm; (conv => lhs; simp only [S9_0, need_cond, need_obind, need_val, need_none, onOut_inl, onOut_inr])
    kernel_rfl
def F9 (x0 : Cfg) (x1 : Int) (x2 : Int) (x3 : Opn) (x4 : Int) : Option Bool :=
  (F37 x0).bind fun y6 =>
    bif y6 != 0 then
      (F32).bind fun y7 =>
        some (y7)
    else
      (F45 x3 x0.bounded).bind fun y7 =>
        bif !y7 then
          (F32).bind fun y8 =>
            some (y8)
        else
          (F32).bind fun y8 =>
            bif !y8 then
              (F32).bind fun y9 =>
                some (y9)
            else
              bif !x0.threads == 0 then
                bif !x0.items == 0 then
                  (F39 x0).bind fun y9 =>
                    (F41).bind fun y10 =>
                      (F40 x0 ((IntKind.i64.wrap x1).tmod x0.threads) y10 ((IntKind.i64.wrap x2).tmod x0.items) x3 (IntKind.i64.wrap x4)).bind fun y11 =>
                        (F46 x0).bind fun y12 =>
                          (F36 { c := x0, t := (IntKind.i64.wrap x1).tmod x0.threads, now := IntKind.i64.wrap x4, m := y9, th := y11, tape := { l := [], at_ := 0 }, log := [], done := false } y12).bind fun y13 =>
                            (F38 x3 x0.init x0.lo x0.hi).bind fun y14 =>
                              bif !y13.done then
                                some (false)
                              else
                                (F26 y13.th).bind fun y15 =>
                                  bif y15 then
                                    some (false)
                                  else
                                    bif y13.th.x != x0.init then
                                      some (false)
                                    else
                                      (F21 x0).bind fun y16 =>
                                        bif (y13.m.words.length : Int) != y16 then
                                          some (false)
                                        else
                                          bif (y13.log.length : Int) != 1 then
                                            some (false)
                                          else
                                            bif decide (0 ≤ 0) && decide (0 < (y13.log.length : Int)) then
                                              bif !((y13.log.getD (Int.toNat 0) Kd.mark.dflt).thread == (IntKind.i64.wrap x1).tmod x0.threads && ((y13.log.getD (Int.toNat 0) Kd.mark.dflt).item == (IntKind.i64.wrap x2).tmod x0.items && ((y13.log.getD (Int.toNat 0) Kd.mark.dflt).op.tag == x3.tag && ((y13.log.getD (Int.toNat 0) Kd.mark.dflt).op.v == x3.v && ((y13.log.getD (Int.toNat 0) Kd.mark.dflt).prior == x0.init && ((y13.log.getD (Int.toNat 0) Kd.mark.dflt).step == 0 && true)))))) then
                                                some (false)
                                              else
                                                none
                                            else
                                              none
                else
                  none
              else
                none
def la9 {R : Type} : FuncId → Nat → Option (LAnn R) := fun g b => cond (Nat.beq g 9) (cond (Nat.beq b 0) (some (.ann a9_0)) (cond (Nat.beq b 2) (some (.ann a9_2)) none)) none
theorem e9 (x0 : Cfg) (x1 : Int) (x2 : Int) (x3 : Opn) (x4 : Int) : evalFn (cfg (R := Bool) [(21, k21), (22, k22), (23, k23), (24, k24), (26, k26), (32, k32), (36, k36), (37, k37), (38, k38), (39, k39), (40, k40), (41, k41), (45, k45), (46, k46), (47, k47)] [] [] [(9, Tryz.f9)] (la9)) 8 9 [Ty.enc (.d .cfg) x0, Ty.enc (.u8) x1, Ty.enc (.u8) x2, Ty.enc (.d .opn) x3, Ty.enc (.u8) x4] (RT.dec (.one (.d .bool))) = F9 x0 x1 x2 x3 x4 := by kernel_rfl
@[reducible] def k9 : Ctr := ⟨[.d .cfg, .u8, .u8, .d .opn, .u8], .one (.d .bool), F9⟩
theorem c9 : Enters Tryz.prog 9 ∧ Ctr.Ok Tryz.prog 9 k9 :=
  ⟨enters Tryz.func9 n9 rfl, fun x0 x1 x2 x3 x4 y h => valid_of_eval (ρ := .one (.d .bool)) (la := la9) (.cons c21 (.cons c22 (.cons c23 (.cons c24 (.cons c26 (.cons c32 (.cons c36 (.cons c37 (.cons c38 (.cons c39 (.cons c40 (.cons c41 (.cons c45 (.cons c46 (.cons c47 .nil))))))))))))))) .nil .nil (.cons Tryz.func9 n9 .nil) (.cons (ls := [(0, bodyAt Tryz.f9 0), (2, bodyAt Tryz.f9 2)]) (by kernel_rfl) ⟨(fun a ha => by have e := annEq ha (show (la9) 9 0 = some (LAnn.ann a9_0) from rfl); subst e; exact r9_0), ⟨(fun a ha => by have e := annEq ha (show (la9) 9 2 = some (LAnn.ann a9_2) from rfl); subst e; exact r9_2), trivial⟩⟩ .nil) ((e9 x0 x1 x2 x3 x4).trans h)⟩
end Go.Proofs.YtihhgenbkiollaaGreat
