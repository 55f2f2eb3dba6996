/- The abstract machine, part w: greatest and least, maps. No condition. -/
import Derived.Test.YtihhgenbkiollaaGreatMa
import Derived.MapKept
import Derived.Conc.LoneSelect
import Derived.Scope
/- The abstract machine, part w: greatest and least, maps. No condition. -/
namespace Go.Proofs.YtihhgenbkiollaaGreat
open Go Go.RowKit
section
variable {P : Program} {Γ : Gam} {B : Nat} {w0 : World} {N : Nat} {T : Nat → Option AVal} {H : Nat → Option Obj} {x : Cx} {a : Act} {w : World} {me : Nat} {o : Oper}
theorem foldMM_ok (s : Sim B w0 N T H x a w) (mx : Bool) : ∀ (rs : List Operand) (n m : Int) (vs : List AVal), opnds T rs = some vs → foldMM mx n vs = some m →
    ((rs.map a.eval).foldlM (if mx then Builtin.max2 else Builtin.min2) (Value.int .i64 n)).run P w = .ok (.int .i64 m) w
  | [], n, m, vs, hv, hm => by cases hv; cases hm; rfl
  | y :: r, n, m, vs, hv, hm => by
    simp only [opnds] at hv
    split at hv
    · rename_i u us h1 h2
      cases hv
      unfold foldMM at hm
      split at hm
      · rename_i heq; cases heq
      · rename_i b r' heq
        cases heq
        have hy := (opnd_ok s h1).leaf.int
        have ih := foldMM_ok s mx r _ m us h2 hm
        simp only [List.map_cons, List.foldlM_cons, hy]
        cases mx with
        | true => simpa [Sem.run_bind, Builtin.max2] using ih
        | false => simpa [Sem.run_bind, Builtin.min2] using ih
      · cases hm
    · cases hv
theorem ok_minmax (s : Sim B w0 N T H x a w) (hd : ∀ d, o.dst = some d → d < N) (mx : Bool) {args : Array Operand} {ts : Array TypeId} (ho : o.op = .call { callee := .builtin (if mx then .max else .min), args := args, argTypes := ts })
    {y : Operand} {r : List Operand} (ha : args.toList = y :: r) {n m : Int} {vs : List AVal} (hy : opnd T y = some (.l (.int .i64 n))) (hv : opnds T r = some vs) (hm : foldMM mx n vs = some m) :
    OpOk P B w0 N T H x a w me 1 o ⟨some (.l (.int .i64 m)), [], []⟩ := by
  obtain rfl : args = (y :: r).toArray := by apply Array.ext'; simpa using ha
  have h0 := (opnd_ok s hy).leaf.int
  have h1 := foldMM_ok (P := P) s mx r n m vs hv hm
  refine ok_val s hd (v := .int .i64 m) ?_ (RL.mk (.of_pl (.int _ _)))
  cases mx with
  | true => 
    simp only [if_true] at h1 ho
    simp [execOp, ho, resolve, Sem.run_bind, invoke, Go.builtin, Builtin.max_, h0, h1]
  | false =>
    simp only [if_neg Bool.false_ne_true] at h1 ho
    simp [execOp, ho, resolve, Sem.run_bind, invoke, Go.builtin, Builtin.min_, h0, h1]
/-- a new block of any sort under a new number -/
theorem Post.newG (s : Sim B w0 N T H x a w) {d : Option Tmp} {me : Nat} (hf : x.ρ me = none) (go : Go.Obj) {o : Obj} {κ : Nat × Nat} {v : Value} {av : AVal}
    (ho : ∀ x' w', Evo x w x' w' → x'.D = x.D → w'.heap[w.heap.size]? = some go → Lies x' w' (some w.heap.size) κ o)
    (hv : ∀ x' w', x'.ρ me = some (some w.heap.size) → x'.κ me = κ → RV x' w' v av)
    (hd : ∀ d', d = some d' → d' < N) {w1 : World} (hw : w1.heap = w.heap.push go) (hos : w1.os = w.os) (htp : w1.tape = w.tape) (hout : w1.output = w.output) :
    ∃ x', Post B w0 N (updT T d (some av)) (updH H [(me, some o)]) x w me 1 x' (a.put d v) w1 := by
  let x' : Cx := ⟨fun b => if b = me then some (some w.heap.size) else x.ρ b, fun b => if b = me then κ else x.κ b, x.D⟩
  have hblk : ∀ k, k < w.heap.size → w1.heap[k]? = w.heap[k]? := by
    intro k hk; rw [hw, Array.getElem?_push, if_neg (by omega)]
  have hnew : w1.heap[w.heap.size]? = some go := by rw [hw]; simp
  have evo : Evo x w x' w1 := by
    refine ⟨fun b o hb => ?_, fun b o hb => ?_, fun _ _ h => h, fun b o hb => ?_, by rw [hw]; simp, fun _ _ _ h => .inl h, fun c b hb hc => ?_⟩
    · show (if b = me then _ else _) = _
      rw [if_neg (by intro h; rw [h, hf] at hb; cases hb)]; exact hb
    · show (if b = me then _ else _) = _
      rw [if_neg (by intro h; rw [h, hf] at hb; cases hb)]
    · exact World.cell?_of_block (w := w) (hblk b (s.dlt b o hb))
    · have hc : (if c = me then some (some w.heap.size) else x.ρ c) = some (some b) := hc
      by_cases h : c = me
      · rw [if_pos h] at hc; simp only [Option.some.injEq] at hc; omega
      · rw [if_neg h] at hc; exact ⟨c, hc⟩
  have hρ : x'.ρ me = some (some w.heap.size) := by show (if me = me then _ else _) = _; rw [if_pos rfl]
  have hκ : x'.κ me = κ := by show (if me = me then _ else _) = _; rw [if_pos rfl]
  have hone : ∀ b q, lk b [(me, some o)] = some (some q) → b = me ∧ q = o := by
    intro b q h
    simp only [lk] at h
    cases he : Nat.beq me b with
    | true => rw [he] at h; simp only [cond_true, Option.some.injEq] at h; exact ⟨(Nat.eq_of_beq_eq_true he).symm, h.symm⟩
    | false => rw [he] at h; simp at h
  refine ⟨x', Post.upd s (fun _ => False) evo (fun b hb => ?_) ⟨hos, htp, hout, by rw [hw]; simp, fun k hk => hblk k (Nat.lt_of_lt_of_le hk s.size)⟩ (fun b q hb => ?_) (fun blk hb _ => ⟨hblk blk hb, fun _ => Iff.rfl⟩) (fun b q hb => ?_) (fun _ _ _ _ _ _ h => h) (fun b b' q q' blk h h' _ _ => ?_) hd (fun u hu => ?_)⟩
  · show (if b = me then _ else _) = _
    rw [if_neg (by omega)]
  · have := s.dlt b q hb; rw [hw]; simp; omega
  · obtain ⟨rfl, rfl⟩ := hone b q hb
    refine ⟨some w.heap.size, hρ, fun blk hb => ?_, ?_⟩
    · cases hb; exact ⟨s.size, by rw [hw]; simp, .inr (Nat.le_refl _)⟩
    · rw [hκ]; exact ho x' w1 evo rfl hnew
  · rw [(hone b q h).1, (hone b' q' h').1]
  · cases hu; exact hv x' w1 hρ hκ
/-- one object of any sort changed -/
theorem Post.setG (s : Sim B w0 N T H x a w) {d : Option Tmp} {b blk : Nat} {o1 o2 : Obj} {old go : Go.Obj} (hb : H b = some o1) (hρ : x.ρ b = some (some blk)) (hh : w.heap[blk]? = some old)
    {w1 : World} (hw : w1.heap = w.heap.setIfInBounds blk go) (hos : w1.os = w.os) (htp : w1.tape = w.tape) (hout : w1.output = w.output)
    (hD : ∀ q, x.D blk q → w1.cell? ⟨blk, q, none⟩ = w.cell? ⟨blk, q, none⟩) (hn : ∀ w', Evo x w x w' → w'.heap[blk]? = some go → Lies x w' (some blk) (x.κ b) o2) (hd : ∀ d', d = some d' → d' < N) {v : Value} {av : Option AVal}
    (hv : ∀ w', Evo x w x w' → ∀ u, av = some u → RV x w' v u) :
    Post B w0 N (updT T d av) (updH H [(b, some o2)]) x w me 1 x (a.put d v) w1 := by
  obtain ⟨ob, g1, g2, g3⟩ := s.heap b _ hb
  have hob : ob = some blk := by rw [hρ] at g1; exact (Option.some.inj g1).symm
  have hblk := g2 blk hob
  have hsame : ∀ k, k ≠ blk → w1.heap[k]? = w.heap[k]? := fun k hk => by rw [hw, Array.getElem?_setIfInBounds, if_neg (fun e => hk e.symm)]
  have hnew : w1.heap[blk]? = some go := by rw [hw, Array.getElem?_setIfInBounds, if_pos rfl, if_pos hblk.2]
  have evo : Evo x w x w1 := by
    refine ⟨fun _ _ h => h, fun _ _ _ => rfl, fun _ _ h => h, fun c q hq => ?_, by rw [hw]; simp, fun _ _ _ h => .inl h, fun c _ _ h => ⟨c, h⟩⟩
    by_cases hc : c = blk
    · subst hc; exact hD q hq
    · exact World.cell?_of_block (w := w) (hsame c hc)
  have hone : ∀ c q, lk c [(b, some o2)] = some (some q) → c = b ∧ q = o2 := by
    intro c q h
    simp only [lk] at h
    cases he : Nat.beq b c with
    | true => rw [he] at h; simp only [cond_true, Option.some.injEq] at h; exact ⟨(Nat.eq_of_beq_eq_true he).symm, h.symm⟩
    | false => rw [he] at h; simp at h
  have hsz : w1.heap.size = w.heap.size := by rw [hw]; simp
  refine Post.upd s (fun k => k = blk) evo (fun _ _ => rfl) ⟨hos, htp, hout, by rw [hsz]; exact Nat.le_refl _, fun k hk => hsame k (by omega)⟩ (fun c q hq => by rw [hsz]; exact s.dlt c q hq)
    (fun k _ hk => ⟨hsame k hk, fun _ => Iff.rfl⟩) (fun c q hc => ?_) (fun c q k hl hc hk hkb => ?_) (fun c c' q q' k hc hc' _ _ => by rw [(hone c q hc).1, (hone c' q' hc').1]) hd (fun u h => hv _ evo u h)
  · obtain ⟨rfl, rfl⟩ := hone c q hc
    exact ⟨some blk, hρ, fun k hk => by cases hk; exact ⟨hblk.1, by rw [hsz]; exact hblk.2, .inl rfl⟩, hn _ evo hnew⟩
  · subst hkb
    have := s.inj c b q o1 k hc hb hk hρ
    subst this
    simp [lk] at hl

/-! maps -/
theorem getMap_run {w : World} {r : Nat} {es : Array MapEntry} {clock : Nat} (hb : w.heap[r]? = some (.map es clock)) : (getObj r).run P w = .ok (.map es clock) w := by simp [getObj, Sem.run, hb]
theorem setMap_run {w : World} {r : Nat} {es : Array MapEntry} {clock : Nat} (o : Go.Obj) (hb : w.heap[r]? = some (.map es clock)) : (setObj r o).run P w = .ok () { w with heap := w.heap.setIfInBounds r o } := by simp [setObj, Sem.run, hb]
theorem ok_makeMap (s : Sim B w0 N T H x a w) (hd : ∀ d, o.dst = some d → d < N) (hf : x.ρ me = none) {t : TypeId} (ho : o.op = .makeMap t none) :
    OpOk P B w0 N T H x a w me 1 o ⟨some (.l (.map me)), [(me, some (.omap []))], []⟩ := by
  refine does_value (v := .map (some w.heap.size)) (w' := w.alloc (.map #[] 0)) ?_ ?_
  · simp [execOp, ho, Instr.makeMap]
  · exact Post.newG (o := .omap []) (av := .l (.map me)) (κ := (0, 0)) s hf (.map #[] 0) (fun x' w' e hD hh => ⟨w.heap.size, [], 0, rfl, hh, trivial⟩)
      (fun x' w' hρ _ => RL.mk (.inl (.inl ⟨w.heap.size, hρ, rfl⟩))) hd rfl rfl rfl rfl
theorem map_obj (s : Sim B w0 N T H x a w) {v : Value} {b : Nat} (hv : RL x w v (.map b)) {es : List (Int × Leaf)} (hb : H b = some (.omap es)) :
    ∃ blk ms clock, x.ρ b = some (some blk) ∧ v = .map (some blk) ∧ blk < w.heap.size ∧ w.heap[blk]? = some (.map (List.toArray ms) clock) ∧ Rs (fun (m : MapEntry) (e : Int × Leaf) => m.key = .int .i64 e.1 ∧ RL x w m.val e.2) ms es := by
  have hv : RL0 x w v (.map b) := by
    rcases hv with (h | ⟨_, _, _, _, h, _⟩) | ⟨_, _, _, h, _⟩
    · exact h
    · cases h
    · cases h
  obtain ⟨blk, h1, rfl⟩ := hv
  obtain ⟨ob, g1, g2, blk', ms, clock, g3, g4, g5⟩ := s.heap b _ hb
  have hob : ob = some blk := by rw [h1] at g1; exact (Option.some.inj g1).symm
  rw [hob] at g3; cases g3
  exact ⟨blk, ms, clock, h1, rfl, (g2 blk hob).2, g4, g5⟩
theorem checkKey_run {k : TypeId} (hk : P.underlying k = some (.int .i64)) (e : Bool) (n : Nat) (v : Value) (w : World) : (Instr.checkKey e (n + 1) k v).run P w = .ok () w := by
  unfold Instr.checkKey
  simp only [Sem.run_bind, run_underlying hk w, Result.andThen_ok]
  rfl
theorem checkKey_run' {k : TypeId} (hk : P.underlying k = some (.int .i64)) (e : Bool) (v : Value) (w : World) : (Instr.checkKey e 10000 k v).run P w = .ok () w := checkKey_run hk e 9999 v w
theorem findNow_ok (n : Int) : ∀ (ms : List MapEntry) (es : List (Int × Leaf)) (i : Nat), Rs (fun (m : MapEntry) (e : Int × Leaf) => m.key = .int .i64 e.1 ∧ RL x w m.val e.2) ms es →
    (es.all (fun e => !(e.1 == n)) = true → Instr.findNow (.int .i64) (.int .i64 n) ms i = some none) ∧
    ∀ {R : Type} {z : AV} {c : AVal → Option R} {r : R}, lookM z c n es = some r → (Instr.findNow (.int .i64) (.int .i64 n) ms i = some none ∧ c (.tup [z, ⟨false, [.bool false]⟩]) = some r) ∨
      ∃ j v l, Instr.findNow (.int .i64) (.int .i64 n) ms i = some (some (j, v)) ∧ RL x w v l ∧ c (.tup [⟨false, [l]⟩, ⟨false, [.bool true]⟩]) = some r
  | [], [], i, _ => ⟨fun _ => rfl, fun h => .inl ⟨rfl, h⟩⟩
  | m :: ms, (q, l) :: es, i, h => by
    obtain ⟨⟨h1, h2⟩, h3⟩ := h
    obtain ⟨ih1, ih2⟩ := findNow_ok n ms es (i + 1) h3
    have e1 : Instr.findNow (.int .i64) (.int .i64 n) (m :: ms) i = if n == q then some (some (i, m.val)) else Instr.findNow (.int .i64) (.int .i64 n) ms (i + 1) := by
      simp only [Instr.findNow, Instr.sameNow, h1, if_true]
      by_cases hq : n = q
      · simp [hq]
      · have : (n == q) = false := by simp [hq]
        simp [this]
    constructor
    · intro ha
      simp only [List.all_cons, Bool.and_eq_true, Bool.not_eq_true', beq_eq_false_iff_ne] at ha
      rw [e1, if_neg (by simpa using fun h => ha.1 h.symm)]
      exact ih1 (by simpa using ha.2)
    · intro R z c r hr
      simp only [lookM] at hr
      by_cases hq : n = q
      · rw [show (n == q) = true by simp [hq]] at hr
        rw [e1, if_pos (by simp [hq])]
        exact .inr ⟨i, m.val, l, rfl, h2, hr⟩
      · rw [show (n == q) = false by simp [hq]] at hr
        rw [e1, if_neg (by simp [hq])]
        exact ih2 hr
  | [], _ :: _, _, h => h.elim
  | _ :: _, [], _, h => h.elim
theorem findKey_run {k : TypeId} (hk : P.underlying k = some (.int .i64)) {v : Value} {ms : List MapEntry} {r : Option (Nat × Value)} (h : Instr.findNow (.int .i64) v ms 0 = some r) (w : World) : (Instr.findKey k v ms).run P w = .ok r w := by
  simp [Instr.findKey, Sem.run_bind, run_underlying hk w, h]
theorem ok_lookup (hΓ : GamOk P Γ) (s : Sim B w0 N T H x a w) (hd : ∀ d, o.dst = some d → d < N) {t : TypeId} {m q : Operand} (ho : o.op = .lookup t m q true) {i : TI} (ht : lk t Γ = some i) (htd : i.td = .map) {b : Nat} (hm : opnd T m = some (.l (.map b)))
    {n : Int} (hq : opnd T q = some (.l (.int .i64 n))) {es : List (Int × Leaf)} (hb : H b = some (.omap es)) {ef : Eff} {rd : List Nat} (h : lookM ⟨false, [.nilf]⟩ (fun v => some (⟨some v, [], rd⟩ : Eff)) n es = some ef) : OpOk P B w0 N T H x a w me 1 o ef := by
  have hu := (hΓ _ _ ht).und
  rw [htd] at hu
  obtain ⟨k, e, hu, hk, ti, hti, hz⟩ := hu
  obtain ⟨blk, ms, clock, h1, h2, h3, h4, h5⟩ := map_obj s (opnd_ok s hm).leaf hb
  have hqv := (opnd_ok s hq).leaf.int
  have hexec : (execOp a.eval o).run P w = ((Instr.lookup t (.map (some blk)) (.int .i64 n) true).run P w).andThen fun v w' => .ok (.value v) w' := by
    simp [execOp, ho, h2, hqv]
  have hzero : (zeroValue e).run P w = .ok .nilFunc w := by simp [zeroValue, typeInfo, hti, hz]
  rcases (findNow_ok n ms es 0 h5).2 h with ⟨f1, f2⟩ | ⟨j, v, l, f1, f2, f3⟩
  · cases f2
    refine ok_val s hd (v := .tuple #[.nilFunc, .bool false]) ?_ ⟨[.nilFunc, .bool false], rfl, ⟨_, rfl, RL.of_pl .nilf⟩, ⟨_, rfl, RL.of_pl (.bool _)⟩, trivial⟩
    rw [hexec]
    simp [Instr.lookup, Sem.run_bind, run_underlying hu w, getMap_run h4, checkKey_run' hk, findKey_run hk f1, hzero]
  · cases f3
    refine ok_val s hd (v := .tuple #[v, .bool true]) ?_ ⟨[v, .bool true], rfl, ⟨_, rfl, f2⟩, ⟨_, rfl, RL.of_pl (.bool _)⟩, trivial⟩
    rw [hexec]
    simp [Instr.lookup, Sem.run_bind, run_underlying hu w, getMap_run h4, checkKey_run' hk, findKey_run hk f1]
theorem map_cell {w1 : World} {blk : Nat} {ms ms' : Array MapEntry} {c c' : Nat} (h : w.heap[blk]? = some (.map ms c)) (h' : w1.heap[blk]? = some (.map ms' c')) (q : Nat) : w1.cell? ⟨blk, q, none⟩ = w.cell? ⟨blk, q, none⟩ := by
  simp [World.cell?, h, h']
theorem ok_insert (hΓ : GamOk P Γ) (s : Sim B w0 N T H x a w) (hd : ∀ d, o.dst = some d → d < N) {t : TypeId} {m q y : Operand} (ho : o.op = .insert t m q y) {i : TI} (ht : lk t Γ = some i) (htd : i.td = .map) {b : Nat} (hm : opnd T m = some (.l (.map b)))
    {n : Int} (hq : opnd T q = some (.l (.int .i64 n))) {l : Leaf} (hy : opnd T y = some (.l l)) {es : List (Int × Leaf)} (hb : H b = some (.omap es)) (ha : es.all (fun e => !(e.1 == n)) = true) {rd : List Nat} :
    OpOk P B w0 N T H x a w me 1 o ⟨none, [(b, some (.omap (es ++ [(n, l)])))], rd⟩ := by
  have hu := (hΓ _ _ ht).und
  rw [htd] at hu
  obtain ⟨k, e, hu, hk, ti, hti, hz⟩ := hu
  obtain ⟨blk, ms, clock, h1, h2, h3, h4, h5⟩ := map_obj s (opnd_ok s hm).leaf hb
  have hqv := (opnd_ok s hq).leaf.int
  have hyv := (opnd_ok s hy).leaf
  have f1 := (findNow_ok n ms es 0 h5).1 ha
  let go : Go.Obj := .map (ms ++ [({ key := .int .i64 n, val := a.eval y, born := clock } : MapEntry)]).toArray (clock + 1)
  let w1 : World := { w with heap := w.heap.setIfInBounds blk go }
  have hnew : w1.heap[blk]? = some go := by show (w.heap.setIfInBounds blk go)[blk]? = _; rw [Array.getElem?_setIfInBounds, if_pos rfl, if_pos h3]
  refine does_skip (w' := w1) ?_ ⟨x, Post.setG (o2 := .omap (es ++ [(n, l)])) (av := none) (go := go) (w1 := w1) s hb h1 h4 rfl rfl rfl rfl (fun q _ => map_cell h4 hnew q) (fun w' e hh => ⟨blk, _, _, rfl, hh, ?_⟩) hd (fun _ _ u hu => by cases hu)⟩
  · simp [execOp, ho, h2, hqv, Instr.mapUpdate, Sem.run_bind, run_underlying hu w, getMap_run h4, checkKey_run' hk, findKey_run hk f1, setMap_run _ h4, w1, go]
  · exact (h5.mono fun _ _ hh => ⟨hh.1, hh.2.evo e⟩).append ⟨⟨rfl, hyv.evo e⟩, trivial⟩
end
end Go.Proofs.YtihhgenbkiollaaGreat

/- The abstract machine, part x: channels. No condition. -/
namespace Go.Proofs.YtihhgenbkiollaaGreat
open Go Go.RowKit
section
variable {P : Program} {Γ : Gam} {B : Nat} {w0 : World} {N : Nat} {T : Nat → Option AVal} {H : Nat → Option Obj} {x : Cx} {a : Act} {w : World} {me : Nat} {o : Oper}
theorem comm_step {ops : Array Oper} {i : Nat} {rest : List Nat} {b : Frame} {k : List Item} {cs : List Frame} {w1 : World} {cases : Array CommCase} {bl : Bool} {sh : CommShape} (ho : ops[i]? = some o) (hw : Region.wanted o (yielded ops a.tmps) = true)
    (hr : (execOp a.eval o).run P w = .ok (.comm cases bl sh) w1) :
    ∃ es, stepG P true (Conc.G (b.at a (.inRegion ops (i :: rest) :: k)) cs) w = .comm (Conc.G (b.at a (.inRegion ops (i :: rest) :: k)) cs) cases bl sh w1 es := by
  have hg := stepG_op (P := P) (b := b) (k := k) (cs := cs) (w := w) (rest := rest) ho hw
  have h2 : ∃ es, stepG.apply P true (b.at a (.inRegion ops (i :: rest) :: k)) cs none (execOp a.eval o) w = .comm (Conc.G (b.at a (.inRegion ops (i :: rest) :: k)) cs) cases bl sh w1 es := by
    simp [stepG.apply, hr, Conc.G]
    exact ⟨_, rfl⟩
  obtain ⟨es, h2⟩ := h2
  exact ⟨es, hg.trans h2⟩
theorem ok_makeChan (hΓ : GamOk P Γ) (s : Sim B w0 N T H x a w) (hd : ∀ d, o.dst = some d → d < N) (hf : x.ρ me = none) {t : TypeId} {y : Operand} (ho : o.op = .makeChan t y) {i : TI} (ht : lk t Γ = some i) (htd : i.td = .chan) {k : IntKind} (hy : opnd T y = some (.l (.int k 1))) :
    OpOk P B w0 N T H x a w me 1 o ⟨some (.l (.chan me)), [(me, some (.chan []))], []⟩ := by
  have hu := (hΓ _ _ ht).und
  rw [htd] at hu
  obtain ⟨d, e, hu, ti, hti, hb⟩ := hu
  have hv := (opnd_ok s hy).leaf.int
  refine does_value (v := .chan (some w.heap.size)) (w' := w.alloc (.chan 1 #[] false 0 0 false)) ?_ ?_
  · have h1 : ¬ (1 : Int) > IntKind.i64.max := by decide
    have h2 : ¬ ti.bytes * 1 > 2 ^ 48 - 112 := by omega
    simp [execOp, ho, Instr.makeChan, hv, Go.asInt, asIntOf, Sem.run_bind, run_underlying hu w, typeInfo, hti]
    have h1' : ¬ (IntKind.i64.max < (1 : Int)) := h1
    have h2' : ¬ (281474976710544 : Int) < ti.bytes := by omega
    have h3 : ¬ (9223372036854775807 : Int) < 1 := by decide
    simp [run_underlying hu w, hti, h1', h2']
  · exact Post.newG (o := .chan []) (av := .l (.chan me)) (κ := (0, 0)) s hf (.chan 1 #[] false 0 0 false) (fun x' w' e hD hh => ⟨w.heap.size, [], 0, 0, rfl, hh, trivial, Nat.zero_le _⟩)
      (fun x' w' hρ _ => RL.mk (.inl (.inl ⟨w.heap.size, hρ, rfl⟩))) hd rfl rfl rfl rfl
theorem chan_obj (s : Sim B w0 N T H x a w) {v : Value} {b : Nat} (hv : RL x w v (.chan b)) {buf : List AV} (hb : H b = some (.chan buf)) :
    ∃ blk vs sn r, x.ρ b = some (some blk) ∧ v = .chan (some blk) ∧ blk < w.heap.size ∧ w.heap[blk]? = some (.chan 1 (List.toArray vs) false sn r false) ∧ Rs (RA x w) vs buf := by
  have hv : RL0 x w v (.chan b) := by
    rcases hv with (h | ⟨_, _, _, _, h, _⟩) | ⟨_, _, _, h, _⟩
    · exact h
    · cases h
    · cases h
  obtain ⟨blk, h1, rfl⟩ := hv
  obtain ⟨ob, g1, g2, blk', vs, sn, r, g3, g4, g5, _⟩ := s.heap b _ hb
  have hob : ob = some blk := by rw [h1] at g1; exact (Option.some.inj g1).symm
  rw [hob] at g3; cases g3
  exact ⟨blk, vs, sn, r, h1, rfl, (g2 blk hob).2, g4, g5⟩
theorem chan_cell {w1 : World} {blk c c' s s' r r' : Nat} {u u' : Array Value} {q q' t t' : Bool} (h : w.heap[blk]? = some (.chan c u q s r t)) (h' : w1.heap[blk]? = some (.chan c' u' q' s' r' t')) (j : Nat) : w1.cell? ⟨blk, j, none⟩ = w.cell? ⟨blk, j, none⟩ := by
  simp [World.cell?, h, h']
theorem ok_send (s : Sim B w0 N T H x a w) (hd : ∀ d, o.dst = some d → d < N) {q y : Operand} (ho : o.op = .send q y) {b : Nat} (hq : opnd T q = some (.l (.chan b))) {u : AV} (hy : opnd T y = some (.v u)) (hb : H b = some (.chan [])) {rd : List Nat} :
    OpOk P B w0 N T H x a w me 1 o ⟨none, [(b, some (.chan [u]))], rd⟩ := by
  obtain ⟨blk, vs, sn, r, h1, h2, h3, h4, h5⟩ := chan_obj s (opnd_ok s hq).leaf hb
  obtain rfl : vs = [] := by cases vs with | nil => rfl | cons => exact h5.elim
  have hyv : RA x w (a.eval y) u := opnd_ok s hy
  have hr : (execOp a.eval o).run P w = .ok (.comm #[Conc.scase blk (a.eval y) (.tuple #[])] true .send) w := by simp [execOp, ho, h2, Conc.scase]
  intro ops i rest f k cs hi hw
  obtain ⟨es, hg⟩ := comm_step (b := f) (rest := rest) (k := k) (cs := cs) hi hw hr
  have hs := Conc.step_lone_send_room hg h4 (by simp)
  rw [finish_eq hi] at hs
  refine ⟨_, _, ⟨x, ?_⟩, .one hs⟩
  refine Post.setG (o2 := .chan [u]) (av := none) (go := .chan 1 #[a.eval y] false (sn + 1) r false) (w1 := w.setChan blk 1 #[a.eval y] false (sn + 1) r false) s hb h1 h4 rfl rfl rfl rfl (fun q _ => chan_cell h4 (Conc.heap_setChan w blk 1 _ false (sn + 1) r false h3) q)
    (fun w' e hh => ⟨blk, [a.eval y], _, _, rfl, hh, ⟨hyv.evo e, trivial⟩, Nat.le_refl _⟩) hd (fun _ _ u hu => by cases hu)
theorem select_run (hΓ : GamOk P Γ) {q : Operand} {e : TypeId} {cs : Array SelectCase} (ho : o.op = .select cs false) (hc : cs.toList = [⟨q, none, e⟩]) {i : TI} (ht : lk e Γ = some i) {blk : Nat} (hq : a.eval q = .chan (some blk)) :
    ∃ z, (execOp a.eval o).run P w = .ok (.comm #[Conc.rcase blk z] false .select) w ∧ RA x w z ⟨i.agg, i.zero⟩ := by
  obtain rfl : cs = #[⟨q, none, e⟩] := by apply Array.ext'; simpa using hc
  obtain ⟨z, h1, h2, h3, h4, h5⟩ := (hΓ _ _ ht).zero_run
  refine ⟨z, by simp [execOp, ho, hq, h1, Conc.rcase], ?_⟩
  have hr := (h3 w x.D).mono (fun _ _ => RL.of_pl (x := x))
  cases hg : i.agg with
  | true => exact ⟨z.cells.toList, by simpa using h4 hg, hr⟩
  | false =>
    have := h5 hg
    rw [this] at hr
    match hz : i.zero, hr with
    | [l], hr => exact ⟨l, rfl, hr.1⟩
    | [], hr => exact hr.elim
    | _ :: _ :: _, hr => exact hr.2.elim
theorem ok_select_none (hΓ : GamOk P Γ) (s : Sim B w0 N T H x a w) (hd : ∀ d, o.dst = some d → d < N) {q : Operand} {e : TypeId} {cs : Array SelectCase} (ho : o.op = .select cs false) (hc : cs.toList = [⟨q, none, e⟩]) {i : TI} (ht : lk e Γ = some i) {b : Nat}
    (hq : opnd T q = some (.l (.chan b))) (hb : H b = some (.chan [])) {rd : List Nat} : OpOk P B w0 N T H x a w me 1 o ⟨some (.tup [⟨false, [.int .i64 (-1)]⟩, ⟨false, [.bool false]⟩, ⟨i.agg, i.zero⟩]), [], rd⟩ := by
  obtain ⟨blk, vs, sn, r, h1, h2, h3, h4, h5⟩ := chan_obj s (opnd_ok s hq).leaf hb
  obtain rfl : vs = [] := by cases vs with | nil => rfl | cons => exact h5.elim
  obtain ⟨z, hr, hz⟩ := select_run (P := P) (x := x) (w := w) hΓ ho hc ht h2
  intro ops j rest f k cs hi hw
  obtain ⟨es, hg⟩ := comm_step (b := f) (rest := rest) (k := k) (cs := cs) hi hw hr
  have hs := Conc.step_lone_select_default hg h4
  rw [finish_eq hi] at hs
  exact ⟨_, _, ⟨x, Post.val s hd (fun _ h => by cases h; exact ⟨[goInt (-1), .bool false, z], rfl, ⟨_, rfl, RL.of_pl (.int _ _)⟩, ⟨_, rfl, RL.of_pl (.bool _)⟩, hz, trivial⟩) me 1⟩, .one hs⟩
theorem ok_select_some (hΓ : GamOk P Γ) (s : Sim B w0 N T H x a w) (hd : ∀ d, o.dst = some d → d < N) {q : Operand} {e : TypeId} {cs : Array SelectCase} (ho : o.op = .select cs false) (hc : cs.toList = [⟨q, none, e⟩]) {i : TI} (ht : lk e Γ = some i) {b : Nat}
    (hq : opnd T q = some (.l (.chan b))) {u : AV} (hb : H b = some (.chan [u])) {rd : List Nat} : OpOk P B w0 N T H x a w me 1 o ⟨some (.tup [⟨false, [.int .i64 0]⟩, ⟨false, [.bool true]⟩, u]), [(b, some (.chan []))], rd⟩ := by
  obtain ⟨blk, vs, sn, r, h1, h2, h3, h4, h5⟩ := chan_obj s (opnd_ok s hq).leaf hb
  match vs, h4, h5 with
  | [v], h4, h5 =>
    obtain ⟨z, hr, hz⟩ := select_run (P := P) (x := x) (w := w) hΓ ho hc ht h2
    intro ops j rest f k cs hi hw
    obtain ⟨es, hg⟩ := comm_step (b := f) (rest := rest) (k := k) (cs := cs) hi hw hr
    have hs := Conc.step_lone_select_recv_buf hg h4 (by simp)
    rw [finish_eq hi] at hs
    refine ⟨_, _, ⟨x, ?_⟩, .one hs⟩
    refine Post.setG (o2 := .chan []) (av := some _) (go := .chan 1 #[] false sn (r + 1) false) (w1 := w.setChan blk 1 #[] false sn (r + 1) false) s hb h1 h4 rfl rfl rfl rfl (fun q _ => chan_cell h4 (Conc.heap_setChan w blk 1 #[] false sn (r + 1) false h3) q)
      (fun w' e hh => ⟨blk, [], _, _, rfl, hh, trivial, Nat.zero_le _⟩) hd (fun w' e u' hu => by
        cases hu
        exact ⟨[goInt 0, .bool true, v], by simp, ⟨_, rfl, RL.of_pl (.int _ _)⟩, ⟨_, rfl, RL.of_pl (.bool _)⟩, h5.1.evo e, trivial⟩)
  | [], _, h5 => exact h5.elim
  | _ :: _ :: _, _, h5 => exact h5.2.elim
end
end Go.Proofs.YtihhgenbkiollaaGreat

/- The abstract machine, part y: every operation does what it says. No condition. -/
namespace Go.Proofs.YtihhgenbkiollaaGreat
open Go Go.RowKit
section
variable {P : Program} {Γ : Gam} {B : Nat} {w0 : World} {N : Nat} {T : Nat → Option AVal} {H : Nat → Option Obj} {x : Cx} {a : Act} {w : World} {me : Nat} {o : Oper}
theorem beq_eq {m n : Nat} (h : Nat.beq m n = true) : m = n := Nat.eq_of_beq_eq_true h
theorem held_some {t : TD} (h : held t = true) : t = .fnc ∨ ∃ fs, t = .struct fs := by
  unfold held at h; split at h
  · exact .inl rfl
  · exact .inr ⟨_, rfl⟩
  · cases h
theorem optInt_some (s : Sim B w0 N T H x a w) {R : Type} {lo : Option Operand} {dflt : Int} {q : Int → Option R} {r : R}
    (h : (match lo with | some y => asInt (opnd T y) fun _ n => q n | none => q dflt) = some r) : ∃ m, q m = some r ∧ ((lo = none ∧ m = dflt) ∨ ∃ z k, lo = some z ∧ a.eval z = .int k m) := by
  cases lo with
  | none => exact ⟨dflt, h, .inl ⟨rfl, rfl⟩⟩
  | some y =>
    obtain ⟨k, n, h1, h2⟩ := asInt_some h
    exact ⟨n, h2, .inr ⟨y, k, rfl, (opnd_ok s h1).leaf.int⟩⟩
theorem eff_ok (hΓ : GamOk P Γ) (s : Sim B w0 N T H x a w) (hd : ∀ d, o.dst = some d → d < N) (hf : x.ρ me = none) {ef : Eff} (h : eff Γ T H me o some = some ef) : OpOk P B w0 N T H x a w me 1 o ef := by
  unfold eff at h
  dsimp only at h
  split at h
  · rename_i y ho
    obtain ⟨u, hu, h⟩ := need_some h
    cases h; exact ok_move s hd (.inl ho) hu
  · rename_i y ho
    obtain ⟨u, hu, h⟩ := need_some h
    cases h; exact ok_move s hd (.inr ho) hu
  · rename_i q y z ho
    obtain ⟨l, hq, h⟩ := asOne_some h
    split at h
    · rename_i b
      cases b with
      | true => obtain ⟨u, hu, h⟩ := need_some h; cases h; exact ok_pick s hd ho hq (b := true) hu
      | false => obtain ⟨u, hu, h⟩ := need_some h; cases h; exact ok_pick s hd ho hq (b := false) hu
    · cases h
  · rename_i t ho
    obtain ⟨i, ht, h⟩ := need_some h
    cases h; exact ok_alloc hΓ s hd hf ho ht
  · rename_i t y ho
    obtain ⟨i, ht, h⟩ := need_some h
    obtain ⟨u, hu, h⟩ := asV_some h
    obtain ⟨hl, h⟩ := cond_some h
    cases h; exact ok_box s hd hf ho hu
  · rename_i t parts ho
    obtain ⟨i, ht, h⟩ := need_some h
    split at h
    · rename_i fs htd
      exact ok_build_struct hΓ s hd ho ht htd h
    · rename_i n e htd
      obtain ⟨ei, he, h⟩ := need_some h
      exact ok_build_array hΓ s hd ho ht htd he h
    · cases h
  · rename_i t n parts ho
    obtain ⟨i, ht, h⟩ := need_some h
    split at h
    · rename_i e k htd
      obtain ⟨ei, he, h⟩ := need_some h
      obtain ⟨hc, h⟩ := cond_some h
      simp only [Bool.and_eq_true] at hc
      exact ok_buildSlice hΓ s hd hf ho ht htd he (beq_eq hc.1) (ble_le hc.2) h
    · cases h
  · rename_i t y ho
    obtain ⟨i, ht, h⟩ := need_some h
    obtain ⟨p, hp, h⟩ := asPtr_some h
    exact ok_load hΓ s hd ho ht hp h
  · rename_i t y z ho
    obtain ⟨i, ht, h⟩ := need_some h
    obtain ⟨p, hp, h⟩ := asPtr_some h
    obtain ⟨u, hu, h⟩ := asV_some h
    obtain ⟨hl, h⟩ := cond_some h
    split at h
    · rename_i b off
      split at h
      · rename_i ls hb
        obtain ⟨hle, h⟩ := cond_some h
        cases h; exact ok_store_box hΓ s hd ho ht hp hu (beq_eq hl) hb (ble_le hle)
      · cases h
    · rename_i b q j off
      split at h
      · rename_i q' xs hb
        split at h
        · rename_i ys hc
          obtain ⟨rfl, hxy⟩ := Kd.cast_eq hc
          have hxy : xs = ys := hxy
          subst hxy
          obtain ⟨hle, h⟩ := cond_some h
          simp only [Bool.and_eq_true] at hle
          obtain ⟨ls, hfix, h⟩ := need_some h
          obtain ⟨yv, hdec, h⟩ := need_some h
          cases h; exact ok_store_arr hΓ s hd ho ht hp hu (beq_eq hl) hb (ble_le hle.1) hle.2 hfix hdec
        · cases h
      · cases h
    · cases h
  · rename_i y ho
    obtain ⟨l, hq, h⟩ := asOne_some h
    split at h
    · cases h; exact ok_nilCheck s hd ho hq (.inl ⟨_, rfl⟩)
    · cases h; exact ok_nilCheck s hd ho hq (.inr (.inl ⟨_, rfl⟩))
    · cases h; exact ok_nilCheck s hd ho hq (.inr (.inr ⟨_, _, _, _, rfl⟩))
    · cases h
  · rename_i op t y z t' ho
    obtain ⟨u, hu, h⟩ := asV_some h
    obtain ⟨v, hv, h⟩ := asV_some h
    exact ok_binOp hΓ s hd ho hu hv h
  · rename_i op t y ho
    obtain ⟨l, hq, h⟩ := asOne_some h
    split at h
    · cases h; exact ok_not s hd ho hq
    · cases h; exact ok_neg s hd ho hq
    · cases h
  · rename_i t t' y ho
    obtain ⟨i, ht, h⟩ := need_some h
    obtain ⟨j, hj, h⟩ := need_some h
    split at h
    · rename_i k k' h1 h2
      obtain ⟨q, n, hq, h⟩ := asInt_some h
      cases h; exact ok_convert hΓ s hd ho ht hj h1 h2 hq
    · cases h
  · rename_i f first cap ho
    split at h
    · rename_i hfi
      obtain ⟨ps, hps, h⟩ := need_some h
      cases h; exact ok_makeFunc_bare s hd ho hfi hps
    · rename_i y hfi
      obtain ⟨u, hu, h⟩ := asV_some h
      obtain ⟨hfl, h⟩ := cond_some h
      obtain ⟨ps, hps, h⟩ := need_some h
      cases h; exact ok_makeFunc_recv s hd ho hfi hu hfl hps
    · cases h
  · rename_i t y f ho
    obtain ⟨i, ht, h⟩ := need_some h
    split at h
    · rename_i fs htd
      obtain ⟨q, hq, h⟩ := need_some h
      obtain ⟨p, hp, h⟩ := asPtr_some h
      cases h; exact ok_fieldAddr hΓ s hd ho ht htd hq hp
    · cases h
  · rename_i t y f ho
    obtain ⟨i, ht, h⟩ := need_some h
    split at h
    · rename_i fs htd
      split at h
      · rename_i off t' hq
        obtain ⟨ti, ht', h⟩ := need_some h
        obtain ⟨u, hu, h⟩ := asV_some h
        obtain ⟨hc, h⟩ := cond_some h
        simp only [Bool.and_eq_true] at hc
        cases h; exact ok_field hΓ s hd ho ht htd hq ht' hu hc.1 (ble_le hc.2)
      · cases h
    · cases h
  · rename_i t y z ho
    obtain ⟨i, ht, h⟩ := need_some h
    obtain ⟨q, n, hn, h⟩ := asInt_some h
    split at h
    · rename_i len e htd
      obtain ⟨ei, he, h⟩ := need_some h
      obtain ⟨p, hp, h⟩ := asPtr_some h
      obtain ⟨hc, h⟩ := cond_some h
      simp only [Bool.and_eq_true, decide_eq_true_eq] at hc
      cases h; exact ok_indexAddr_array hΓ s hd ho ht htd he hn hp hc
    · rename_i e k htd
      obtain ⟨ei, he, h⟩ := need_some h
      obtain ⟨hk, h⟩ := cond_some h
      obtain ⟨l, hp, h⟩ := asOne_some h
      split at h
      · rename_i b
        split at h
        · rename_i q' xs lent hb
          obtain ⟨hq, h⟩ := cond_some h
          have hq := of_decide_eq_true hq
          subst hq
          obtain ⟨hc, h⟩ := cond_some h
          simp only [Bool.and_eq_true, decide_eq_true_eq] at hc
          cases h; exact ok_indexAddr_own hΓ s hd ho ht htd he (beq_eq hk) hn hp hb hc
        · cases h
      · obtain ⟨xs, hxs, h⟩ := need_some h
        obtain ⟨hc, h⟩ := cond_some h
        simp only [Bool.and_eq_true, decide_eq_true_eq] at hc
        cases h; exact ok_indexAddr_list hΓ s hd ho ht htd he (beq_eq hk) hn hp hxs hc
    · cases h
  · rename_i t y z ho
    obtain ⟨i, ht, h⟩ := need_some h
    obtain ⟨q, n, hn, h⟩ := asInt_some h
    split at h
    · rename_i len e htd
      obtain ⟨ei, he, h⟩ := need_some h
      obtain ⟨u, hp, h⟩ := asV_some h
      obtain ⟨hc, h⟩ := cond_some h
      simp only [Bool.and_eq_true, decide_eq_true_eq] at hc
      cases h; exact ok_index_array hΓ s hd ho ht htd he hn hp hc.1.1 (beq_eq hc.1.2) hc.2
    · rename_i htd
      obtain ⟨l, hp, h⟩ := asOne_some h
      split at h
      · obtain ⟨hc, h⟩ := cond_some h
        simp only [Bool.and_eq_true, decide_eq_true_eq] at hc
        cases h; exact ok_index_str hΓ s hd ho ht htd hn hp hc
      · cases h
    · cases h
  · rename_i t y lo hi ho
    obtain ⟨i, ht, h⟩ := need_some h
    split at h
    · rename_i htd
      obtain ⟨l, hp, h⟩ := asOne_some h
      split at h
      · obtain ⟨n, h, hhi⟩ := optInt_some s h
        obtain ⟨m, h, hlo⟩ := optInt_some s h
        obtain ⟨hc, h⟩ := cond_some h
        simp only [Bool.and_eq_true, decide_eq_true_eq] at hc
        cases h; exact ok_slice_str hΓ s hd ho ht htd hp hlo hhi ⟨hc.1.1, hc.1.2, hc.2⟩
      · cases h
    · rename_i e k htd
      obtain ⟨ei, he, h⟩ := need_some h
      obtain ⟨hk, h⟩ := cond_some h
      obtain ⟨l, hp, h⟩ := asOne_some h
      obtain ⟨xs, hxs, h⟩ := need_some h
      obtain ⟨n, h, hhi⟩ := optInt_some s h
      obtain ⟨m, h, hlo⟩ := optInt_some s h
      obtain ⟨hc, h⟩ := cond_some h
      simp only [Bool.and_eq_true, decide_eq_true_eq] at hc
      cases h; exact ok_slice_list hΓ s hd ho ht htd he (beq_eq hk) hp hxs hlo hhi ⟨hc.1.1, hc.1.2, hc.2⟩
    · cases h
  · rename_i y j ho
    split at h
    · rename_i vs hp
      split at h
      · rename_i u hj
        cases h; exact ok_extract s hd ho hp hj
      · cases h
    · cases h
  · rename_i t y ho
    obtain ⟨i, ht, h⟩ := need_some h
    obtain ⟨hh, h⟩ := cond_some h
    obtain ⟨u, hu, h⟩ := asV_some h
    obtain ⟨hfl, h⟩ := cond_some h
    cases h; exact ok_makeInterface hΓ s hd ho ht (held_some hh) hu hfl
  · rename_i y t' want ho
    obtain ⟨l, hp, h⟩ := asOne_some h
    split at h
    · rename_i t g ls
      obtain ⟨i, ht, h⟩ := need_some h
      obtain ⟨hh, h⟩ := cond_some h
      cases hc : Nat.beq t want with
      | true => rw [hc] at h; cases h; exact ok_assert_ok hΓ s hd ho ht (held_some hh) hp (beq_eq hc)
      | false => rw [hc] at h; cases h; exact ok_assert_no hΓ s hd ho ht (held_some hh) hp (Nat.ne_of_beq_eq_false hc)
    · cases h
  · rename_i y t' want ho
    obtain ⟨l, hp, h⟩ := asOne_some h
    split at h
    · rename_i t g ls
      obtain ⟨i, ht, h⟩ := need_some h
      obtain ⟨hh, h⟩ := cond_some h
      obtain ⟨hc, h⟩ := cond_some h
      cases h; exact ok_assert_bare hΓ s hd ho ht (held_some hh) hp (beq_eq hc)
    · cases h
  · rename_i t y y' ho
    obtain ⟨i, ht, h⟩ := need_some h
    split at h
    · rename_i e k htd
      obtain ⟨ei, he, h⟩ := need_some h
      obtain ⟨q, n, hn, h⟩ := asInt_some h
      obtain ⟨q', n', hn', h⟩ := asInt_some h
      obtain ⟨hc, h1⟩ := cond_some h
      clear h
      simp only [Bool.and_eq_true, decide_eq_true_eq] at hc
      obtain ⟨⟨⟨hk, hb⟩, rfl⟩, hr⟩ := hc
      obtain ⟨z, hz, h2⟩ := need_some h1
      cases h2; exact ok_makeSlice hΓ s hd hf ho ht htd he (beq_eq hk) (ble_le hb) hn hn' hr hz
    · cases h
  · rename_i t ho
    cases h; exact ok_makeMap s hd hf ho
  · rename_i t m q y ho
    obtain ⟨i, ht, h⟩ := need_some h
    split at h
    · rename_i htd
      obtain ⟨l, hm, h⟩ := asOne_some h
      split at h
      · obtain ⟨k, n, hn, h⟩ := asInt_some h
        obtain ⟨l', hy, h1⟩ := asOne_some h
        clear h
        split at h1
        · rename_i es hb
          obtain ⟨ha, h2⟩ := cond_some h1
          cases h2; exact ok_insert hΓ s hd ho ht htd hm hn hy hb ha
        · cases h1
      · cases h
    · cases h
  · rename_i t m q ho
    obtain ⟨i, ht, h⟩ := need_some h
    split at h
    · rename_i htd
      obtain ⟨l, hm, h⟩ := asOne_some h
      split at h
      · obtain ⟨k, n, hn, h⟩ := asInt_some h
        split at h
        · rename_i es hb
          exact ok_lookup hΓ s hd ho ht htd hm hn hb h
        · cases h
      · cases h
    · cases h
  · rename_i t y ho
    obtain ⟨i, ht, h⟩ := need_some h
    split at h
    · rename_i htd
      obtain ⟨k, n, hn, h⟩ := asInt_some h
      obtain ⟨hc, h⟩ := cond_some h
      have hc := of_decide_eq_true hc
      subst hc
      cases h; exact ok_makeChan hΓ s hd hf ho ht htd hn
    · cases h
  · rename_i q y ho
    obtain ⟨l, hq, h⟩ := asOne_some h
    split at h
    · obtain ⟨u, hu, h⟩ := asV_some h
      split at h
      · rename_i hb
        cases h; exact ok_send s hd ho hq hu hb
      · cases h
    · cases h
  · rename_i cs ho
    split at h
    · rename_i q e hc
      obtain ⟨i, ht, h⟩ := need_some h
      obtain ⟨l, hq, h⟩ := asOne_some h
      split at h
      · split at h
        · rename_i u hb
          cases h; exact ok_select_some hΓ s hd ho hc ht hq hb
        · rename_i hb
          cases h; exact ok_select_none hΓ s hd ho hc ht hq hb
        · cases h
      · cases h
    · cases h
  · rename_i b args ts ho
    split at h
    · rename_i y ha
      obtain ⟨t, ht, h⟩ := need_some h
      obtain ⟨i, hi, h⟩ := need_some h
      obtain ⟨l, hl, h⟩ := asOne_some h
      exact ok_len hΓ s hd ho ha ht hi hl h
    · rename_i y r ha
      obtain ⟨k, n, hn, h⟩ := asInt_some h
      split at h
      · obtain ⟨vs, hv, h⟩ := need_some h
        obtain ⟨m, hm, h⟩ := need_some h
        cases h; exact ok_minmax s hd true ho ha hn hv hm
      · cases h
    · rename_i y r ha
      obtain ⟨k, n, hn, h⟩ := asInt_some h
      split at h
      · obtain ⟨vs, hv, h⟩ := need_some h
        obtain ⟨m, hm, h⟩ := need_some h
        cases h; exact ok_minmax s hd false ho ha hn hv hm
      · cases h
    · rename_i y z ha
      split at h
      · rename_i t t' tr hts
        obtain ⟨i, ht, h⟩ := need_some h
        obtain ⟨i', ht', h⟩ := need_some h
        split at h
        · rename_i e k e' k' htd htd'
          obtain ⟨ei, he, h⟩ := need_some h
          obtain ⟨hc, h⟩ := cond_some h
          simp only [Bool.and_eq_true] at hc
          obtain ⟨l2, hz, h1⟩ := asOne_some h
          clear h
          cases hl : opnd T y with
          | none => 
            obtain ⟨ys, rd, h2, _⟩ := asElems_ok (P := P) s (opnd_ok s hz).leaf h1
            rw [hl] at h2; cases h2
          | some u => 
            obtain ⟨ys, rd, h2, _⟩ := asElems_ok (P := P) s (opnd_ok s hz).leaf h1
            obtain ⟨l, hl', _⟩ := asOne_some h2
            rw [hl'] at h1
            exact ok_append hΓ s hd hf ho ha hts ht ht' htd htd' he (beq_eq hc.1) (ble_le hc.2) hl' hz h1
        · cases h
      · cases h
    · cases h
  · cases h
end
end Go.Proofs.YtihhgenbkiollaaGreat

/- The abstract machine, part z: contracts. No condition. -/
namespace Go.Proofs.YtihhgenbkiollaaGreat
open Go Go.RowKit
/-- a leaf that is no row of an own, and leads nowhere -/
def plainC : Leaf → Bool
  | .own _ => false | .ptr _ => false | .clo .. => false | .ifc .. => false | .map _ => false | .chan _ => false
  | _ => true
/-- a plain value: what it reads lies in D -/
def PA (w : World) (D : Nat → Nat → Prop) (v : Value) : AV → Prop
  | ⟨true, ls⟩ => ∃ vs : List Value, v = .agg vs.toArray ∧ Rs (PL w D) vs ls
  | ⟨false, ls⟩ => ∃ l, ls = [l] ∧ PL w D v l
/-- a context without objects of its own -/
abbrev frz (D : Nat → Nat → Prop) : Cx := ⟨fun _ => none, fun _ => (0, 0), D⟩
/-! a frozen value in a context with more -/
theorem RL0.lift {x : Cx} {w : World} {v : Value} {l : Leaf} (h : RL0 (frz x.D) w v l) : RL0 x w v l := by
  cases l with
  | ptr p =>
    cases p with
    | box b o => obtain ⟨blk, h1, _⟩ := h; cases h1
    | elt k xs i o => exact h
    | arr b k i o => obtain ⟨blk, h1, _⟩ := h; cases h1
  | own b => obtain ⟨ob, h1, _⟩ := h; cases h1
  | map b => obtain ⟨blk, h1, _⟩ := h; cases h1
  | chan b => obtain ⟨blk, h1, _⟩ := h; cases h1
  | clo => exact h
  | ifc => exact h
  | _ => exact h
theorem RL1.lift {x : Cx} {w : World} {v : Value} {l : Leaf} (h : RL1 (frz x.D) w v l) : RL1 x w v l := by
  rcases h with h | ⟨f, agg, first, cap, rfl, vf, vc, h1, h2, h3⟩
  · exact .inl h.lift
  · exact .inr ⟨f, agg, first, cap, rfl, vf, vc, h1, h2.mono fun _ _ => RL0.lift, h3.mono fun _ _ => RL0.lift⟩
theorem RL.lift {x : Cx} {w : World} {v : Value} {l : Leaf} (h : RL (frz x.D) w v l) : RL x w v l := by
  rcases h with h | ⟨t, agg, ls, rfl, vs, h1, h2, h3⟩
  · exact .inl h.lift
  · exact .inr ⟨t, agg, ls, rfl, vs, h1.mono fun _ _ => RL1.lift, h2, h3⟩
theorem RA.lift {x : Cx} {w : World} {v : Value} {a : AV} (h : RA (frz x.D) w v a) : RA x w v a := by
  obtain ⟨g, ls⟩ := a
  cases g with
  | true => obtain ⟨vs, h1, h2⟩ := h; exact ⟨vs, h1, h2.mono fun _ _ => RL.lift⟩
  | false => obtain ⟨l, h1, h2⟩ := h; exact ⟨l, h1, h2.lift⟩
/-- a leaf of a mixed value -/
def Mx (w : World) (D : Nat → Nat → Prop) (ob : Option Nat) (n cap : Nat) (v : Value) (l : Leaf) : Prop := (l = .own 0 ∧ v = .slice (Option.map (fun blk => ⟨blk, 0, none⟩) ob) n cap) ∨ (plainC l = true ∧ PL w D v l)
def MixA (w : World) (D : Nat → Nat → Prop) (ob : Option Nat) (n cap : Nat) (v : Value) : AV → Prop
  | ⟨true, ls⟩ => ∃ vs : List Value, v = .agg vs.toArray ∧ Rs (Mx w D ob n cap) vs ls
  | ⟨false, ls⟩ => ∃ l, ls = [l] ∧ Mx w D ob n cap v l
def MixV (w : World) (D : Nat → Nat → Prop) (ob : Option Nat) (n cap : Nat) (v : Value) : AVal → Prop
  | .v a => MixA w D ob n cap v a
  | .tup as => ∃ vs : List Value, v = .tuple vs.toArray ∧ Rs (MixA w D ob n cap) vs as
/-- what a call answers -/
def Answers (w w' : World) (D' : Nat → Nat → Prop) (v : Value) : CRes → Prop
  | .val (.v a) => RA (frz D') w' v a
  | .val (.tup as) => ∃ vs : List Value, v = .tuple vs.toArray ∧ Rs (RA (frz D') w') vs as
  | .mix u k xs => ∃ ob cap, (∀ blk, ob = some blk → w.heap.size ≤ blk ∧ blk < w'.heap.size) ∧ Lies ⟨fun _ => none, fun _ => (0, 0), D'⟩ w' ob (xs.length, cap) (.arr k xs false) ∧ MixV w' D' ob xs.length cap v u
  | .arr k xs => ∃ ob cap, v = .slice (Option.map (fun blk => ⟨blk, 0, none⟩) ob) xs.length cap ∧ (∀ blk, ob = some blk → w.heap.size ≤ blk ∧ blk < w'.heap.size) ∧ Lies ⟨fun _ => none, fun _ => (0, 0), D'⟩ w' ob (xs.length, cap) (.arr k xs false)
/-- behind a call that answers res -/
def Ret (w : World) (D : Nat → Nat → Prop) (res : CRes) (e : Ending) (w' : World) : Prop :=
  ∃ v, e = .returned v ∧ Below w.heap.size w w' ∧ ∃ D' : Nat → Nat → Prop, (∀ b o, D b o → D' b o) ∧ (∀ b o, D' b o → b < w'.heap.size) ∧ (∀ b o, D' b o → b < w.heap.size → D b o) ∧ Answers w w' D' v res
/-- function f, handed these, answers this -/
def Valid (P : Program) (f : FuncId) (args : List AV) (res : CRes) : Prop :=
  ∀ (w : World) (D : Nat → Nat → Prop) (vs : List Value), (∀ b o, D b o → b < w.heap.size) → Rs (RA (frz D) w) vs args → Calls P f vs.toArray w (Ret w D res)
/-- what a call by its contract does -/
def effOf (me : Nat) (lent : List (Nat × Option Obj)) (rd : List Nat) : CRes → Eff
  | .val v => ⟨some v, lent, rd⟩
  | .arr k xs => ⟨some (.l (.own me)), (me, some (.arr k xs false)) :: lent, rd⟩
  | .mix v k xs => ⟨some (renV me v), (me, some (.arr k xs false)) :: lent, rd⟩
/-- a contract that holds -/
def CtrOk (P : Program) {R : Type} (f : FuncId) (ctr : List AV → (CRes → Option R) → Option R) : Prop := ∀ args k r, ctr args k = some r → ∃ res, Valid P f args res ∧ k res = some r

theorem PA.mono {w w' : World} {D D' : Nat → Nat → Prop} (hD : ∀ b o, D b o → D' b o) (hc : ∀ b o, D b o → w'.cell? ⟨b, o, none⟩ = w.cell? ⟨b, o, none⟩) {v : Value} {a : AV} (h : PA w D v a) : PA w' D' v a := by
  obtain ⟨g, ls⟩ := a
  cases g with
  | true => obtain ⟨vs, h1, h2⟩ := h; exact ⟨vs, h1, h2.mono fun _ _ => PL.mono hD hc⟩
  | false => obtain ⟨l, h1, h2⟩ := h; exact ⟨l, h1, h2.mono hD hc⟩
theorem PA.rel {x : Cx} {w : World} {v : Value} {a : AV} (h : PA w x.D v a) : RA x w v a := by
  obtain ⟨g, ls⟩ := a
  cases g with
  | true => obtain ⟨vs, h1, h2⟩ := h; exact ⟨vs, h1, h2.mono fun _ _ => RL.of_pl⟩
  | false => obtain ⟨l, h1, h2⟩ := h; exact ⟨l, h1, RL.of_pl h2⟩
section
variable {P : Program} {Γ : Gam} {B : Nat} {w0 : World} {N : Nat} {T : Nat → Option AVal} {H : Nat → Option Obj} {x : Cx} {a : Act} {w : World} {me : Nat} {o : Oper}
theorem eltF {D1 : Nat → Nat → Prop} (hD : ∀ b q, x.D b q → D1 b q) {v : Value} {p : Loc} (hp : isElt p = true) (h : RL0 x w v (.ptr p)) : RL0 (frz D1) w v (.ptr p) := by
  cases p with
  | elt k xs i o =>
    obtain ⟨blk, base, h1, h2, h3⟩ := h
    refine ⟨blk, base, h1, h2, fun j hj => ?_⟩
    obtain ⟨c, hd, hc, hp⟩ := h3 j hj
    exact ⟨c, hD _ _ hd, hc, hp.mono hD fun _ _ _ => rfl⟩
  | _ => cases hp
theorem eltsF {D1 : Nat → Nat → Prop} (hD : ∀ b q, x.D b q → D1 b q) : ∀ {vs : List Value} {ps : List Loc}, ps.all isElt = true → Rs (fun v l => RL0 x w v (.ptr l)) vs ps → Rs (fun v l => RL0 (frz D1) w v (.ptr l)) vs ps
  | [], [], _, _ => trivial
  | v :: vs, p :: ps, hp, h => by
    simp only [List.all_cons, Bool.and_eq_true] at hp
    exact ⟨eltF hD hp.1 h.1, eltsF hD hp.2 h.2⟩
  | [], _ :: _, _, h => h.elim
  | _ :: _, [], _, h => h.elim
theorem RL.isFrozen {D1 : Nat → Nat → Prop} (hD : ∀ b q, x.D b q → D1 b q) {v : Value} {l : Leaf} (hl : frozenL l = true) (h : RL x w v l) : RL (frz D1) w v l := by
  unfold frozenL at hl
  split at hl
  · exact .inl (.inl (eltF hD hl h.ptr))
  · rcases h with (h | ⟨f, agg, first, cap, he, vf, vc, h1, h2, h3⟩) | ⟨_, _, _, h, _⟩
    · exact h.elim
    · cases he
      have : vf = [] := by cases vf with | nil => rfl | cons => exact h2.elim
      subst this
      exact .inl (.inr ⟨_, _, _, _, rfl, [], vc, h1, trivial, eltsF hD hl h3⟩)
    · cases h
  · cases hl
theorem RA.fixed {v : Value} {u u' : AV} (h : RA x w v u) (hf : fixA H u = some u') {D1 : Nat → Nat → Prop} (hD : ∀ b q, x.D b q → D1 b q)
    (hp : ∀ b ∈ ownsL u.ls, ∀ k (xs : List k.C) lt, H b = some (.arr k xs lt) → ∀ v, RL x w v (.own b) → PL w D1 v (.list k xs)) : RA (frz D1) w v u' := by
  obtain ⟨g, ls⟩ := u
  unfold fixA at hf
  split at hf
  · rename_i ls' hls
    cases hf
    refine PA.rel (x := frz D1) ?_
    show PA w D1 v ⟨g, ls'⟩
    cases g with
    | true => obtain ⟨vs, h1, h2⟩ := h; exact ⟨vs, h1, Rs.fixed hD h2 hls hp⟩
    | false =>
      obtain ⟨l, h1, h2⟩ := h
      have h1 : ls = [l] := h1
      subst h1
      have h3 : Rs (RL x w) [v] [l] := ⟨h2, trivial⟩
      have h4 := Rs.fixed hD h3 hls hp
      match ls', h4 with
      | [l'], h4 => exact ⟨l', rfl, h4.1⟩
      | [], h4 => exact h4.elim
      | _ :: _ :: _, h4 => exact h4.2.elim
  · split at hf
    · rename_i l he
      cases he
      obtain ⟨hl, hf⟩ := cond_some hf
      cases hf
      obtain ⟨l', h1, h2⟩ := h
      cases h1
      exact ⟨_, rfl, h2.isFrozen hD hl⟩
    · cases hf
theorem RAs.fixed {D1 : Nat → Nat → Prop} (hD : ∀ b q, x.D b q → D1 b q) : ∀ {vs : List Value} {us us' : List AV}, Rs (RA x w) vs us → fixAs H us = some us' →
    (∀ b ∈ ownsA us, ∀ k (xs : List k.C) lt, H b = some (.arr k xs lt) → ∀ v, RL x w v (.own b) → PL w D1 v (.list k xs)) → Rs (RA (frz D1) w) vs us'
  | [], [], us', _, hf, _ => by cases hf; trivial
  | v :: vs, u :: us, us', h, hf, hp => by
    simp only [fixAs] at hf
    split at hf
    · rename_i y ys h1 h2
      cases hf
      exact ⟨h.1.fixed h1 hD fun b hb => hp b (by simp [ownsA, hb]), RAs.fixed hD h.2 h2 fun b hb => hp b (by simp [ownsA, hb])⟩
    · cases hf
  | [], _ :: _, _, h, _, _ => h.elim
  | _ :: _, [], _, h, _, _ => h.elim
/-- behind a call -/
theorem Post.call (s : Sim B w0 N T H x a w) {w' : World} (hb : Below w.heap.size w w') {D' : Nat → Nat → Prop} (h1 : ∀ b q, x.D b q → D' b q) (h2 : ∀ b q, D' b q → b < w'.heap.size) (h3 : ∀ b q, D' b q → b < w.heap.size → x.D b q) :
    Evo x w { x with D := D' } w' ∧ Sim B w0 N T H { x with D := D' } a w' := by
  have hcell : ∀ b q, x.D b q → w'.cell? ⟨b, q, none⟩ = w.cell? ⟨b, q, none⟩ := fun b q h => World.cell?_of_block (w := w) (hb.block b (s.dlt b q h))
  have evo : Evo x w { x with D := D' } w' := ⟨fun _ _ h => h, fun _ _ _ => rfl, h1, hcell, hb.size, fun b q hlt h => .inl (h3 b q h hlt), fun c _ _ h => ⟨c, h⟩⟩
  refine ⟨evo, ?_⟩
  exact {
    below := s.below.trans (hb.mono s.size)
    size := Nat.le_trans s.size hb.size
    slots := s.slots
    defers := s.defers
    tmps := fun t v h => (s.tmps t v h).evo evo
    heap := fun b q h => by
      obtain ⟨ob, g1, g2, g3⟩ := s.heap b q h
      refine ⟨ob, g1, fun blk hblk => ⟨(g2 blk hblk).1, Nat.lt_of_lt_of_le (g2 blk hblk).2 hb.size⟩, g3.frame evo fun blk hblk => ⟨hb.block blk (g2 blk hblk).2, fun q => ⟨fun h => h3 blk q h (g2 blk hblk).2, h1 blk q⟩⟩⟩
    inj := s.inj
    dlt := h2 }
theorem Lies.ctx {x y : Cx} (hD : x.D = y.D) {ob : Option Nat} {κ : Nat × Nat} {k : Kd} {xs : List k.C} {lt : Bool} (h : Lies x w ob κ (.arr k xs lt)) : Lies y w ob κ (.arr k xs lt) := by
  simp only [Lies] at h ⊢
  rw [← hD]; exact h
/-- a call by its contract -/
theorem effCall_some {g : FuncId} {args : List AV} {R : Type} {ctr : List AV → (CRes → Option R) → Option R} (hc : CtrOk P g ctr) {c : Eff → Option R} {r : R} (h : effCall H me ctr args c = some r) :
    ∃ args' lent res, fixAs H args = some args' ∧ lends H (ownsA args) = some lent ∧ Valid P g args' res ∧ c (effOf me lent (ownsA args) res) = some r := by
  unfold effCall at h
  obtain ⟨args', hfix, h⟩ := need_some h
  obtain ⟨lent, hlent, h⟩ := need_some h
  obtain ⟨res, hval, h⟩ := hc _ _ _ h
  exact ⟨args', lent, res, hfix, hlent, hval, by cases res <;> exact h⟩
theorem Mx.ren {x' : Cx} {w' : World} {D' : Nat → Nat → Prop} {ob : Option Nat} {n cap me : Nat} (hme : x'.ρ me = some ob) (hκ : x'.κ me = (n, cap)) (hD : x'.D = D') {v : Value} {l : Leaf} (h : Mx w' D' ob n cap v l) : RL x' w' v (renL me l) := by
  rcases h with ⟨rfl, rfl⟩ | ⟨hp, h⟩
  · exact .inl (.inl ⟨ob, hme, by rw [hκ]⟩)
  · subst hD
    cases l <;> first | exact RL.of_pl h | cases hp
theorem MixA.ren {x' : Cx} {w' : World} {D' : Nat → Nat → Prop} {ob : Option Nat} {n cap me : Nat} (hme : x'.ρ me = some ob) (hκ : x'.κ me = (n, cap)) (hD : x'.D = D') {v : Value} {a : AV} (h : MixA w' D' ob n cap v a) : RA x' w' v (renA me a) := by
  obtain ⟨g, ls⟩ := a
  cases g with
  | true =>
    obtain ⟨vs, h1, h2⟩ := h
    refine ⟨vs, h1, ?_⟩
    clear h1
    induction vs generalizing ls with
    | nil => cases ls with | nil => trivial | cons => exact h2.elim
    | cons v vs ih => cases ls with | nil => exact h2.elim | cons l ls => exact ⟨h2.1.ren hme hκ hD, ih _ h2.2⟩
  | false => obtain ⟨l, h1, h2⟩ := h; exact ⟨_, by show List.map _ ls = _; rw [show ls = [l] from h1]; rfl, h2.ren hme hκ hD⟩
theorem MixV.ren {x' : Cx} {w' : World} {D' : Nat → Nat → Prop} {ob : Option Nat} {n cap me : Nat} (hme : x'.ρ me = some ob) (hκ : x'.κ me = (n, cap)) (hD : x'.D = D') {v : Value} {a : AVal} (h : MixV w' D' ob n cap v a) : RV x' w' v (renV me a) := by
  cases a with
  | v a => exact MixA.ren hme hκ hD h
  | tup as =>
    obtain ⟨vs, h1, h2⟩ := h
    refine ⟨vs, h1, ?_⟩
    clear h1
    induction vs generalizing as with
    | nil => cases as with | nil => trivial | cons => exact h2.elim
    | cons v vs ih => cases as with | nil => exact h2.elim | cons l ls => exact ⟨h2.1.ren hme hκ hD, ih _ h2.2⟩
theorem callNew_ok {lent : List (Nat × Option Obj)} {D1 : Nat → Nat → Prop} (s1 : Sim B w0 N T (updH H lent) { x with D := D1 } a w) (e1 : Evo x w { x with D := D1 } w) (hd : ∀ d, o.dst = some d → d < N) (hf : x.ρ me = none) {w' : World} (hb : Below w.heap.size w w') {D' : Nat → Nat → Prop}
    (d1 : ∀ b q, D1 b q → D' b q) (d2 : ∀ b q, D' b q → b < w'.heap.size) (d3 : ∀ b q, D' b q → b < w.heap.size → D1 b q) {k : Kd} {xs : List k.C} {ob : Option Nat} {cap : Nat} (hnew : ∀ blk, ob = some blk → w.heap.size ≤ blk ∧ blk < w'.heap.size)
    (hl : Lies ⟨fun _ => none, fun _ => (0, 0), D'⟩ w' ob (xs.length, cap) (.arr k xs false)) {v : Value} {u : AVal} (hv : ∀ x' : Cx, x'.ρ me = some ob → x'.κ me = (xs.length, cap) → x'.D = D' → RV x' w' v u) :
    ∃ x', Post B w0 N (updT T o.dst (some u)) (updH H ((me, some (.arr k xs false)) :: lent)) x w me 1 x' (a.put o.dst v) w' := by
    let x' : Cx := ⟨fun c => if c = me then some ob else x.ρ c, fun c => if c = me then (xs.length, cap) else x.κ c, D'⟩
    have hme : x'.ρ me = some ob := by show (if me = me then _ else _) = _; rw [if_pos rfl]
    have hκ : x'.κ me = (xs.length, cap) := by show (if me = me then _ else _) = _; rw [if_pos rfl]
    have evo : Evo { x with D := D1 } w x' w' := by
      refine ⟨fun c q hc => ?_, fun c q hc => ?_, d1, fun c q hc => World.cell?_of_block (w := w) (hb.block c (s1.dlt c q hc)), hb.size, fun c q hlt h => .inl (d3 c q h hlt), fun c q hlt hc => ?_⟩
      · show (if c = me then _ else _) = _
        rw [if_neg (by intro h; rw [h] at hc; rw [show ({ x with D := D1 } : Cx).ρ me = x.ρ me from rfl, hf] at hc; cases hc)]; exact hc
      · show (if c = me then _ else _) = _
        rw [if_neg (by intro h; rw [h] at hc; rw [show ({ x with D := D1 } : Cx).ρ me = x.ρ me from rfl, hf] at hc; cases hc)]
      · have hc : (if c = me then some ob else x.ρ c) = some (some q) := hc
        by_cases h : c = me
        · rw [if_pos h] at hc
          have := (hnew q (Option.some.inj hc)).1
          omega
        · rw [if_neg h] at hc; exact ⟨c, hc⟩
    have p := Post.upd (d := o.dst) (v := v) (av := some u) (me := me) (n := 1) (l := [(me, some (.arr k xs false))]) s1 (fun _ => False) evo (fun c hc => by
        show (if c = me then _ else _) = _
        rw [if_neg (by omega)]) (hb.mono s1.size) d2 (fun blk hlt _ => ⟨hb.block blk hlt, fun q => ⟨fun h => d3 blk q h hlt, d1 blk q⟩⟩)
      (fun c q hq => by
        obtain ⟨rfl, h2⟩ := lk_one hq
        cases h2
        refine ⟨ob, hme, fun blk hblk => ⟨Nat.le_trans s1.size (hnew blk hblk).1, (hnew blk hblk).2, .inr (hnew blk hblk).1⟩, ?_⟩
        rw [hκ]
        exact hl.ctx rfl)
      (fun _ _ _ _ _ _ h => h) (fun c c' q1 q2 _ hc hc' _ _ => by rw [(lk_one hc).1, (lk_one hc').1]) hd (fun u' hu => by cases hu; exact hv x' hme hκ rfl)
    refine ⟨x', e1.trans p.evo, p.old, ?_⟩
    show Sim B w0 N _ (updH H ((me, some (.arr k xs false)) :: lent)) x' _ _
    rw [updH_cons]; exact p.sim
theorem callBy_ok (s : Sim B w0 N T H x a w) (hd : ∀ d, o.dst = some d → d < N) (hf : x.ρ me = none) {g : FuncId} {vs : List Value} {args : List AV} (hvs : Rs (RA x w) vs args) (hrun : (execOp a.eval o).run P w = .ok (.enter g vs.toArray) w)
    {args' : List AV} {lent : List (Nat × Option Obj)} {res : CRes} (hfix : fixAs H args = some args') (hlent : lends H (ownsA args) = some lent) (hval : Valid P g args' res) : OpOk P B w0 N T H x a w me 1 o (effOf me lent (ownsA args) res) := by
  obtain ⟨D1, e1, s1, p1, u1⟩ := s.lend _ _ hlent
  have hcall := hval w D1 vs s1.dlt (RAs.fixed e1.D hvs hfix p1)
  cases res with
  | val u =>
    refine does_enter hrun (hcall.mono fun e w' => ?_)
    rintro ⟨v, rfl, hb, D', d1, d2, d3, hans⟩
    obtain ⟨e2, s2⟩ := Post.call s1 hb d1 d2 d3
    refine ⟨v, rfl, { x with D := D' }, e1.trans e2, fun _ _ => rfl, s2.put hd fun u' hu' => ?_⟩
    cases hu'
    cases u with
    | v u => exact RA.lift (x := { x with D := D' }) hans
    | tup us => obtain ⟨ws, h1, h2⟩ := hans; exact ⟨ws, h1, h2.mono fun _ _ h => RA.lift (x := { x with D := D' }) h⟩
  | arr k xs =>
    refine does_enter hrun (hcall.mono fun e w' => ?_)
    rintro ⟨v, rfl, hb, D', d1, d2, d3, ob, cap, rfl, hnew, hl⟩
    exact ⟨_, rfl, callNew_ok s1 e1 hd hf hb d1 d2 d3 hnew hl fun x' hme hκ _ => RL.mk (.inl (.inl ⟨ob, hme, by rw [hκ]⟩))⟩
  | mix u k xs =>
    refine does_enter hrun (hcall.mono fun e w' => ?_)
    rintro ⟨v, rfl, hb, D', d1, d2, d3, ob, cap, hnew, hl, hv⟩
    exact ⟨_, rfl, callNew_ok s1 e1 hd hf hb d1 d2 d3 hnew hl fun x' hme hκ hD => MixV.ren hme hκ hD hv⟩
theorem effCall_ok (s : Sim B w0 N T H x a w) (hd : ∀ d, o.dst = some d → d < N) (hf : x.ρ me = none) {g : FuncId} {vs : List Value} {args : List AV} (hvs : Rs (RA x w) vs args) (hrun : (execOp a.eval o).run P w = .ok (.enter g vs.toArray) w)
    {R : Type} {ctr : List AV → (CRes → Option R) → Option R} (hc : CtrOk P g ctr) {c : Eff → Option R} {r : R} (h : effCall H me ctr args c = some r) : ∃ ef, c ef = some r ∧ OpOk P B w0 N T H x a w me 1 o ef := by
  obtain ⟨args', lent, res, h1, h2, h3, h4⟩ := effCall_some hc h
  exact ⟨_, h4, callBy_ok s hd hf hvs hrun h1 h2 h3⟩
end
end Go.Proofs.YtihhgenbkiollaaGreat

/- The abstract machine, part fa: typed contracts. No condition. -/
namespace Go.Proofs.YtihhgenbkiollaaGreat
open Go Go.RowKit
/-- what may be handed on for something else -/
def LeR (a b : AV) : Prop := ∀ w D v, RA (frz D) w v a → RA (frz D) w v b
theorem LeR.refl (a : AV) : LeR a a := fun _ _ _ h => h
theorem RL.co {x : Cx} {w : World} {v : Value} {l l' : Leaf} (h : RL x w v l) (hc : Co l l') : RL x w v l' := by
  cases hc with
  | refl => exact h
  | nils k =>
    have hv := h.nils
    subst hv
    exact RL.of_pl ((PL.nils (w := w) (D := x.D)).co (.nils k))
theorem RLs.cos {x : Cx} {w : World} : ∀ {vs : List Value} {ls ls' : List Leaf}, Rs (RL x w) vs ls → Cos ls ls' → Rs (RL x w) vs ls'
  | [], [], [], _, _ => trivial
  | v :: vs, l :: ls, l' :: ls', h, hc => ⟨h.1.co hc.1, RLs.cos h.2 hc.2⟩
  | [], [], _ :: _, _, hc => hc.elim
  | _ :: _, _ :: _, [], _, hc => hc.elim
  | [], _ :: _, _, h, _ => h.elim
  | _ :: _, [], _, h, _ => h.elim
theorem one?_eq {k : Kd} {p : Loc} {x : k.C} (h : one? k p = some x) : p = .elt k [x] 0 0 := by
  unfold one? at h
  split at h
  · split at h
    · rename_i hy
      obtain ⟨rfl, hy⟩ := Kd.cast_eq hy
      cases hy; cases h; rfl
    · cases h
  · cases h
theorem Ty.dec_leR : ∀ {τ : Ty} {a : AV} {x : τ.C}, τ.dec a = some x → LeR a (τ.enc x)
  | .d k, ⟨g, ls⟩, x, h => by
    intro w D v hv
    simp only [Ty.dec] at h
    obtain ⟨hg, h1⟩ := cond_some h
    clear h
    have hg : g = k.isAgg := by simpa using hg
    subst hg
    have hc := Kd.dec_cos h1
    show RA (frz D) w v ⟨k.isAgg, k.cells x⟩
    cases hk : k.isAgg with
    | true => rw [hk] at hv; obtain ⟨vs, h1, h2⟩ := hv; exact ⟨vs, h1, RLs.cos h2 hc⟩
    | false =>
      rw [hk] at hv
      obtain ⟨l, h1, h2⟩ := hv
      have h1 : ls = [l] := h1
      subst h1
      match hq : k.cells x, hc with
      | [l'], hc => exact ⟨l', rfl, h2.co hc.1⟩
      | [], hc => exact hc.elim
      | _ :: _ :: _, hc => exact hc.2.elim
  | .l k, ⟨false, [q]⟩, x, h => by
    intro w D v hv
    obtain ⟨l, h1, h2⟩ := hv
    cases h1
    exact ⟨_, rfl, h2.co (asList_co h)⟩
  | .str, ⟨false, [.str s]⟩, x, h => by cases h; exact LeR.refl _
  | .u8, ⟨false, [.int .u8 n]⟩, x, h => by cases h; exact LeR.refl _
  | .ref k, ⟨false, [.ptr p]⟩, x, h => by cases one?_eq h; exact LeR.refl _
  | .clo f a b c, ⟨false, [.clo g false [] [p, q, r]]⟩, x, h => by
    simp only [Ty.dec] at h
    obtain ⟨hg, h1⟩ := cond_some h
    clear h
    cases beq_eq hg
    split at h1
    · rename_i e1 e2 e3
      cases one?_eq e1; cases one?_eq e2; cases one?_eq e3; cases h1; exact LeR.refl _
    · cases h1
  | .clo2 f a b, ⟨false, [.clo g false [] [p, q]]⟩, x, h => by
    simp only [Ty.dec] at h
    obtain ⟨hg, h1⟩ := cond_some h
    clear h
    cases beq_eq hg
    split at h1
    · rename_i e1 e2
      cases one?_eq e1; cases one?_eq e2; cases h1; exact LeR.refl _
    · cases h1
  | .clo1 f a, ⟨false, [.clo g false [] [p]]⟩, x, h => by
    simp only [Ty.dec] at h
    obtain ⟨hg, h1⟩ := cond_some h
    clear h
    cases beq_eq hg
    cases one?_eq h1; exact LeR.refl _
  | .nils, ⟨false, [.nils]⟩, x, h => LeR.refl _
theorem LeRs.val {w : World} {D : Nat → Nat → Prop} : ∀ {vs : List Value} {as bs : List AV}, Rs (RA (frz D) w) vs as → Rs LeR as bs → Rs (RA (frz D) w) vs bs
  | [], [], [], _, _ => trivial
  | v :: vs, a :: as, b :: bs, h, h' => ⟨h'.1 w D v h.1, LeRs.val h.2 h'.2⟩
  | [], [], _ :: _, _, h => h.elim
  | _ :: _, _ :: _, [], _, h => h.elim
  | [], _ :: _, _, h, _ => h.elim
  | _ :: _, [], _, h, _ => h.elim
theorem Valid.args {P : Program} {f : FuncId} {as bs : List AV} {res : CRes} (h : Valid P f bs res) (hl : Rs LeR as bs) : Valid P f as res :=
  fun w D vs hD hvs => h w D vs hD (LeRs.val hvs hl)
/-- an own row, seen as a list -/
theorem Ret.frozen {w : World} {D : Nat → Nat → Prop} {e : Ending} {w' : World} {k : Kd} {xs : List k.C} (h : Ret w D (.arr k xs) e w') : Ret w D (.val (.v ⟨false, [.list k xs]⟩)) e w' := by
  revert h
  rintro ⟨v, rfl, hb, D', d1, d2, d3, ob, cap, rfl, hnew, l1, l2, l3⟩
  let D2 : Nat → Nat → Prop := fun c q => D' c q ∨ (ob = some c ∧ q < xs.length * k.sz)
  refine ⟨_, rfl, hb, D2, fun b q h => .inl (d1 b q h), fun b q h => ?_, fun b q h hlt => ?_, ?_⟩
  · rcases h with h | ⟨h, _⟩
    · exact d2 b q h
    · exact (hnew b h).2
  · rcases h with h | ⟨h, _⟩
    · exact d3 b q h hlt
    · have := (hnew b h).1; omega
  · refine ⟨_, rfl, RL.of_pl ?_⟩
    show PL w' D2 _ _
    rcases l3 with ⟨l3, l4⟩ | ⟨blk, cs, t, g1, g2, g3, g4, g5, g6⟩
    · have hx : xs = [] := List.eq_nil_of_length_eq_zero (by simpa using congrArg Prod.fst l4)
      subst hx
      exact PL.list k [] _ _ (Nat.zero_le _) (fun _ _ => undef) (fun i j hi => absurd hi (by simp)) (fun i j hi => absurd hi (by simp))
    · subst g1
      refine PL.list k xs _ _ l2 (fun i j => cs.getD (i * k.sz + j) undef) (fun i j hi hj => ?_) (fun i j hi hj => ?_)
      · obtain ⟨c, hc, _⟩ := g4 i j hi hj
        refine ⟨blk, 0, rfl, .inr ⟨rfl, ?_⟩, ?_⟩
        · have := Nat.mul_le_mul_right k.sz (show i + 1 ≤ xs.length by omega)
          rw [Nat.add_mul] at this; omega
        · have hc' : cs.getD (i * k.sz + j) undef = c := by rw [Array.getD_eq_getD_getElem?, hc]; rfl
          simp only [World.cell?, g2, Nat.zero_add, hc']
          simpa using hc
      · obtain ⟨c, hc, hp⟩ := g4 i j hi hj
        have hc' : cs.getD (i * k.sz + j) undef = c := by rw [Array.getD_eq_getD_getElem?, hc]; rfl
        rw [hc']
        exact hp.mono (fun _ _ h => .inl h) fun _ _ _ => rfl
theorem Ret.one {w : World} {D : Nat → Nat → Prop} {e : Ending} {w' : World} {a b : AV} (h : Ret w D (.val (.v a)) e w') (hl : LeR a b) : Ret w D (.val (.v b)) e w' := by
  revert h
  rintro ⟨v, rfl, hb, D', d1, d2, d3, hans⟩
  exact ⟨v, rfl, hb, D', d1, d2, d3, hl _ _ _ hans⟩
theorem Ret.tup {w : World} {D : Nat → Nat → Prop} {e : Ending} {w' : World} {us vs : List AV} (h : Ret w D (.val (.tup us)) e w') (hl : Rs LeR us vs) : Ret w D (.val (.tup vs)) e w' := by
  revert h
  rintro ⟨v, rfl, hb, D', d1, d2, d3, q, hq, hans⟩
  exact ⟨v, rfl, hb, D', d1, d2, d3, q, hq, LeRs.val hans hl⟩
theorem Kd.cells_plainC (k : Kd) (y : k.C) : (k.cells y).all plainC = true := by cases k <;> rfl
theorem Mx.co {w : World} {D : Nat → Nat → Prop} {ob : Option Nat} {n cap : Nat} {v : Value} {l c : Leaf} (h : Mx w D ob n cap v l) (hc : Co l c) (hp : plainC c = true) : Mx w D ob n cap v c := by
  rcases h with ⟨rfl, _⟩ | ⟨_, h⟩
  · cases hc; cases hp
  · exact .inr ⟨hp, h.co hc⟩
theorem Mxs.co {w : World} {D : Nat → Nat → Prop} {ob : Option Nat} {n cap : Nat} : ∀ {vs : List Value} {ls cs : List Leaf}, Rs (Mx w D ob n cap) vs ls → Cos ls cs → cs.all plainC = true → Rs (Mx w D ob n cap) vs cs
  | [], [], [], _, _, _ => trivial
  | v :: vs, l :: ls, c :: cs, h, hc, hp => by
    simp only [List.all_cons, Bool.and_eq_true] at hp
    exact ⟨h.1.co hc.1 hp.1, Mxs.co h.2 hc.2 hp.2⟩
  | [], [], _ :: _, _, hc, _ => hc.elim
  | _ :: _, _ :: _, [], _, hc, _ => hc.elim
  | [], _ :: _, _, h, _, _ => h.elim
  | _ :: _, [], _, h, _, _ => h.elim
theorem isOwn0_some {x : Option Leaf} (h : isOwn0 x = true) : x = some (.own 0) := by
  unfold isOwn0 at h
  split at h
  · rfl
  · cases h
theorem Mxs.set {w : World} {D : Nat → Nat → Prop} {ob : Option Nat} {n cap : Nat} {k : Kd} {xs : List k.C} : ∀ {ls : List Leaf} {j : Nat} {vs : List Value} {cs : List Leaf}, Rs (Mx w D ob n cap) vs ls → ls[j]? = some (.own 0) → Cos (ls.set j (.list k xs)) cs → cs.all plainC = true →
    Rs (Mx w D ob n cap) vs (cs.set j (.own 0)) ∧ cs[j]? = some (.list k xs)
  | [], j, _, _, _, h, _, _ => by simp at h
  | l :: ls, 0, v :: vs, c :: cs, hv, h, hc, hp => by
    simp only [List.getElem?_cons_zero, Option.some.injEq] at h
    subst h
    simp only [List.set_cons_zero] at hc
    have h1 : c = .list k xs := by have := hc.1; cases this; rfl
    subst h1
    simp only [List.all_cons, Bool.and_eq_true] at hp
    exact ⟨⟨hv.1, Mxs.co hv.2 hc.2 hp.2⟩, rfl⟩
  | l :: ls, j + 1, v :: vs, c :: cs, hv, h, hc, hp => by
    simp only [List.set_cons_succ] at hc
    simp only [List.all_cons, Bool.and_eq_true] at hp
    obtain ⟨h1, h2⟩ := Mxs.set (ls := ls) (j := j) hv.2 (by simpa using h) hc.2 hp.2
    exact ⟨⟨hv.1.co hc.1 hp.1, h1⟩, by simpa using h2⟩
  | _ :: _, 0, _ :: _, [], _, _, hc, _ => hc.elim
  | _ :: _, _ + 1, _ :: _, [], _, _, hc, _ => hc.elim
  | _ :: _, _, [], _, hv, _, _, _ => hv.elim
theorem Kd.cast_refl (k : Kd) (xs : List k.C) : Kd.cast k k xs = some xs := by cases k <;> rfl
theorem rowAt_eq {k : Kd} {cs : List Leaf} {j : Nat} {xs : List k.C} (h : cs[j]? = some (.list k xs)) : rowAt k cs j = xs := by
  unfold rowAt; rw [h]; show (match Kd.cast k k xs with | some ys => ys | none => []) = xs; rw [Kd.cast_refl]
theorem Ret.dec {w : World} {D : Nat → Nat → Prop} {e : Ending} {w' : World} {ρ : RT} {res : CRes} {y : ρ.C} (h : Ret w D res e w') (hd : ρ.dec res = some y) : Ret w D (ρ.enc y) e w' := by
  unfold RT.dec at hd
  split at hd
  · exact h.one (Ty.dec_leR hd)
  · obtain ⟨rfl, hxy⟩ := Kd.cast_eq hd
    subst hxy
    exact h.frozen
  · split at hd
    · rename_i h1 h2
      cases hd
      exact h.tup ⟨Ty.dec_leR h1, Ty.dec_leR h2, trivial⟩
    · cases hd
  · split at hd
    · rename_i h1 h2 h3
      cases hd
      exact h.tup ⟨Ty.dec_leR h1, Ty.dec_leR h2, Ty.dec_leR h3, trivial⟩
    · cases hd
  · split at hd
    · rename_i h1 h2 h3 h4
      cases hd
      exact h.tup ⟨Ty.dec_leR h1, Ty.dec_leR h2, Ty.dec_leR h3, Ty.dec_leR h4, trivial⟩
    · cases hd
  · obtain ⟨rfl, hxy⟩ := Kd.cast_eq hd
    subst hxy
    exact h
  · cases hd
    revert h
    rintro ⟨v, rfl, hb, D', d1, d2, d3, l, hl1, hl2⟩
    cases hl1
    have := hl2.nils
    subst this
    exact ⟨_, rfl, hb, D', d1, d2, d3, none, 0, rfl, (fun _ h => by cases h), rfl, Nat.le_refl _, .inl ⟨rfl, rfl⟩⟩
  · rename_i q j k ls k' xs
    split at hd
    · rename_i ys hy
      obtain ⟨rfl, hxy⟩ := Kd.cast_eq hy
      have hxy : xs = ys := hxy
      subst hxy
      obtain ⟨h0, hd⟩ := cond_some hd
      revert h
      rintro ⟨v, rfl, hb, D', d1, d2, d3, ob, cap, hnew, hl, vs, hv1, hv2⟩
      obtain ⟨g1, g2⟩ := Mxs.set hv2 (isOwn0_some h0) (Kd.dec_cos hd) (Kd.cells_plainC q y)
      refine ⟨v, rfl, hb, D', d1, d2, d3, ob, cap, hnew, ?_⟩
      rw [rowAt_eq g2]
      exact ⟨hl, vs, hv1, g1⟩
    · cases hd
  · rename_i q j k ls n k' xs
    split at hd
    · rename_i ys hy
      obtain ⟨rfl, hxy⟩ := Kd.cast_eq hy
      have hxy : xs = ys := hxy
      subst hxy
      obtain ⟨h0, hd⟩ := cond_some hd
      split at hd
      · rename_i z hz
        cases hd
        revert h
        rintro ⟨v, rfl, hb, D', d1, d2, d3, ob, cap, hnew, hl, us, hu1, hu2⟩
        match us, hu2 with
        | [u, u'], ⟨⟨vs, hv1, hv2⟩, hu3, _⟩ =>
          obtain ⟨g1, g2⟩ := Mxs.set hv2 (isOwn0_some h0) (Kd.dec_cos hz) (Kd.cells_plainC q z)
          refine ⟨v, rfl, hb, D', d1, d2, d3, ob, cap, hnew, ?_⟩
          rw [rowAt_eq g2]
          exact ⟨hl, [u, u'], hu1, ⟨vs, hv1, g1⟩, hu3, trivial⟩
      · cases hd
    · cases hd
  · cases hd
/-- a typed function that holds -/
def FunOk (P : Program) (g : FuncId) (ρ : RT) : (τs : List Ty) → Fun τs (Option ρ.C) → List AV → Prop
  | [], f, as => ∀ y, f = some y → Valid P g as (ρ.enc y)
  | τ :: r, f, as => ∀ x, FunOk P g ρ r (f x) (as ++ [τ.enc x])
theorem ctrOf_ok {P : Program} {g : FuncId} {ρ : RT} {R : Type} {k : CRes → Option R} {r : R} : ∀ (τs : List Ty) (f : Fun τs (Option ρ.C)) (pre as : List AV), FunOk P g ρ τs f pre → ctrOf ρ k τs f as = some r →
    ∃ res bs, Rs LeR as bs ∧ Valid P g (pre ++ bs) res ∧ k res = some r
  | [], f, pre, [], hf, h => by
    obtain ⟨y, hy, h⟩ := need_some h
    exact ⟨ρ.enc y, [], trivial, by simpa using hf y hy, h⟩
  | τ :: τs, f, pre, a :: as, hf, h => by
    obtain ⟨x, hx, h⟩ := need_some h
    obtain ⟨res, bs, h1, h2, h3⟩ := ctrOf_ok τs (f x) (pre ++ [τ.enc x]) as (hf x) h
    exact ⟨res, τ.enc x :: bs, ⟨Ty.dec_leR hx, h1⟩, by simpa using h2, h3⟩
  | [], f, pre, _ :: _, hf, h => by cases h
  | _ :: _, f, pre, [], hf, h => by cases h
def Ctr.Ok (P : Program) (g : FuncId) (c : Ctr) : Prop := FunOk P g c.ρ c.τs c.f []
theorem Ctr.ok {P : Program} {g : FuncId} {c : Ctr} (h : c.Ok P g) {R : Type} : CtrOk P g (c.run (R := R)) := by
  intro args k r hr
  obtain ⟨res, bs, h1, h2, h3⟩ := ctrOf_ok c.τs c.f [] args h hr
  exact ⟨res, Valid.args (by simpa using h2) h1, h3⟩
end Go.Proofs.YtihhgenbkiollaaGreat

/- The abstract machine, part fb: rows of operations. No condition. -/
namespace Go.Proofs.YtihhgenbkiollaaGreat
open Go Go.RowKit
/-- the operations l, run to their end -/
def OpsDo (P : Program) (ops : Array Oper) (l : List Nat) (Q : Act → World → Prop) (a : Act) (w : World) : Prop :=
  ∀ (b : Frame) (k : List Item) (cs : List Frame), ∃ a' w', Q a' w' ∧ Steps P (lone (b.at a (.inRegion ops l :: k)) cs w) (lone (b.at a' k) cs w')
section
variable {P : Program} {ops : Array Oper} {Q : Act → World → Prop} {a : Act} {w : World}
theorem opsDo_nil (h : Q a w) : OpsDo P ops [] Q a w := fun b k cs => ⟨a, w, h, .one step_region_end⟩
theorem opsDo_skip {i : Nat} {l : List Nat} {o : Oper} (hi : ops[i]? = some o) (hw : Region.wanted o (yielded ops a.tmps) = false) (h : OpsDo P ops l Q (a.put o.dst undef) w) : OpsDo P ops (i :: l) Q a w := by
  intro b k cs
  obtain ⟨a', w', h1, h2⟩ := h b k cs
  refine ⟨a', w', h1, .head (step_op_skip (by rw [hi]; exact hw)) ?_⟩
  rw [hi]; exact h2
theorem opsDo_cons {i : Nat} {l : List Nat} {o : Oper} {next : Act → World → Prop} (hi : ops[i]? = some o) (hw : Region.wanted o (yielded ops a.tmps) = true) (hd : Does P o a w next) (h : ∀ a w, next a w → OpsDo P ops l Q a w) : OpsDo P ops (i :: l) Q a w := by
  intro b k cs
  obtain ⟨a1, w1, h1, h2⟩ := hd ops i l b k cs hi hw
  obtain ⟨a', w', h3, h4⟩ := h a1 w1 h1 b k cs
  exact ⟨a', w', h3, h2.trans h4⟩
theorem wp_of_opsDo {id : Nat} {Q : Exit → Act → World → Prop} (h : OpsDo P ops (List.range ops.size) (Q .normal) a w) : (Code.region id ops false).wp P Q a w := by
  intro b k cs
  obtain ⟨a', w', h1, h2⟩ := h b k cs
  exact ⟨.normal, a', w', h1, .head step_region h2⟩
theorem wp_of_opsDo_draw {id : Nat} {Q : Exit → Act → World → Prop} (h : ∀ t, OpsDo P ops (Region.schedule (P.follows .mixedOrders) ops t) (Q .normal) a { w with drawn := w.drawn + 1 }) : (Code.region id ops true).wp P Q a w := by
  intro b k cs
  obtain ⟨a', w', h1, h2⟩ := h (w.tape w.drawn (.order b.fn id)) b k cs
  exact ⟨.normal, a', w', h1, .head step_region_draw h2⟩
end
/-- how the context goes on: numbers nx .. nx' - 1 are new -/
structure Nxt (x : Cx) (w : World) (nx : Nat) (x' : Cx) (w' : World) (nx' : Nat) : Prop where
  evo : Evo x w x' w'
  le : nx ≤ nx'
  old : ∀ b, ¬ (nx ≤ b ∧ b < nx') → x'.ρ b = x.ρ b
def Fresh (nx : Nat) (x : Cx) : Prop := ∀ b, nx ≤ b → x.ρ b = none
theorem Nxt.refl (x : Cx) (w : World) (nx : Nat) : Nxt x w nx x w nx := ⟨.refl _ _, Nat.le_refl _, fun _ _ => rfl⟩
theorem Nxt.trans {x y z : Cx} {u v w : World} {m n p : Nat} (h : Nxt x u m y v n) (k : Nxt y v n z w p) : Nxt x u m z w p :=
  ⟨h.evo.trans k.evo, Nat.le_trans h.le k.le, fun b hb => (k.old b (fun hh => hb ⟨Nat.le_trans h.le hh.1, hh.2⟩)).trans (h.old b (fun hh => hb ⟨hh.1, Nat.lt_of_lt_of_le hh.2 k.le⟩))⟩
theorem Fresh.next {x y : Cx} {u v : World} {m n : Nat} (f : Fresh m x) (h : Nxt x u m y v n) : Fresh n y :=
  fun b hb => (h.old b (fun hh => by omega)).trans (f b (Nat.le_trans h.le hb))
theorem Nxt.of_post {B : Nat} {w0 : World} {N : Nat} {T : Nat → Option AVal} {H : Nat → Option Obj} {x : Cx} {w : World} {me n : Nat} {x' : Cx} {a' : Act} {w' : World} (p : Post B w0 N T H x w me n x' a' w') : Nxt x w me x' w' (me + n) :=
  ⟨p.evo, Nat.le_add_right _ _, p.old⟩

/-! the state's functions -/
theorem lk_append {α : Type} (t : Nat) : ∀ (l m : List (Nat × α)), lk t (l ++ m) = match lk t l with | some v => some v | none => lk t m
  | [], m => rfl
  | (u, y) :: l, m => by
    simp only [List.cons_append, lk]
    cases Nat.beq u t with
    | true => rfl
    | false => exact lk_append t l m
theorem getT_put (e : Env) (d : Option Nat) (v : Option AVal) (s : St) : getT e (putDst d v s) = updT (getT e s) d v := by
  funext t
  cases d with
  | none => simp [putDst, updT]
  | some d =>
    simp only [putDst, getT, updT, lk, Option.some.injEq]
    by_cases h : d = t
    · subst h; simp
    · have : Nat.beq d t = false := by
        cases he : Nat.beq d t with
        | true => exact absurd (Nat.eq_of_beq_eq_true he) h
        | false => rfl
      simp [this, h]
theorem getH_put (e : Env) (d : Option Nat) (v : Option AVal) (s : St) : getH e (putDst d v s) = getH e s := by cases d <;> rfl
theorem getH_lay (e : Env) (s : St) (l : List (Nat × Option Obj)) : getH e { s with hp := l ++ s.hp } = updH (getH e s) l := by
  funext b
  simp only [getH, updH, lk_append]
  cases lk b l <;> rfl
theorem getT_lay (e : Env) (s : St) (l : List (Nat × Option Obj)) : getT e { s with hp := l } = getT e s := rfl
theorem lays_some {s s' : St} {nx n : Nat} {l : List (Nat × Option Obj)} (h : lays s nx n l = some s') : s' = { s with hp := l ++ s.hp } := by
  obtain ⟨_, h⟩ := cond_some h
  exact (Option.some.inj h).symm
/-- a state that puts what it knows in front -/
theorem getT_same {e : Env} {s : St} {t : Nat} {v : AVal} (h : getT e s t = some v) : getT e { s with tm := (t, some v) :: s.tm } = getT e s := by
  funext u
  by_cases hu : t = u
  · subst hu; rw [h]; simp [getT, lk]
  · simp only [getT]; rw [lk_ne _ _ hu]
end Go.Proofs.YtihhgenbkiollaaGreat

/- The abstract machine, part fc: calls. No condition. -/
namespace Go.Proofs.YtihhgenbkiollaaGreat
open Go Go.RowKit
/-- a function of Go's, that is entered -/
def Enters (P : Program) (g : FuncId) : Prop := ∃ fn, P.funcs[g]? = some fn ∧ (fn.name == "runtime.NumGoroutine") = false ∧ fn.body.isNone = false
section
variable {P : Program} {B : Nat} {w0 : World} {N : Nat} {T : Nat → Option AVal} {H : Nat → Option Obj} {x : Cx} {a : Act} {w : World} {o : Oper}
theorem callFunc_enters {g : FuncId} (h : Enters P g) (args : Array Value) (w : World) : (callFunc g args).run P w = .ok (.enter g args) w := by
  obtain ⟨fn, h1, h2, h3⟩ := h
  have h2' : ¬ fn.name = "runtime.NumGoroutine" := by simpa using h2
  have h3' : ¬ fn.body = none := by intro h; rw [h] at h3; cases h3
  simp [callFunc, Sem.run_bind, h1, h2', h3']
theorem opnds_ok (s : Sim B w0 N T H x a w) : ∀ (l : List Operand) (us : List AVal), opnds T l = some us → Rs (RV x w) (l.map a.eval) us
  | [], us, h => by cases h; trivial
  | y :: l, us, h => by
    simp only [opnds] at h
    split at h
    · rename_i u us' h1 h2
      cases h
      exact ⟨opnd_ok s h1, opnds_ok s l us' h2⟩
    · cases h
theorem asVs_ok : ∀ {vs : List Value} {us : List AVal} {as : List AV}, Rs (RV x w) vs us → asVs us = some as → Rs (RA x w) vs as
  | [], [], as, _, h => by cases h; trivial
  | v :: vs, .v a :: us, as, hv, h => by
    simp only [asVs] at h
    split at h
    · rename_i as' h2
      cases h
      exact ⟨hv.1, asVs_ok hv.2 h2⟩
    · cases h
  | _ :: _, .tup _ :: _, _, _, h => by cases h
  | [], _ :: _, _, h, _ => h.elim
  | _ :: _, [], _, h, _ => h.elim
theorem Rs.mapR {α β γ : Type} {R : α → β → Prop} {S : α → γ → Prop} {f : β → γ} (hf : ∀ a b, R a b → S a (f b)) : ∀ {as : List α} {bs : List β}, Rs R as bs → Rs S as (bs.map f)
  | [], [], _ => trivial
  | a :: as, b :: bs, h => ⟨hf _ _ h.1, Rs.mapR hf h.2⟩
  | [], _ :: _, h => h.elim
  | _ :: _, [], h => h.elim
theorem RL.closure {v : Value} {f : FuncId} {g : Bool} {first : List Leaf} {cap : List Loc} (h : RL x w v (.clo f g first cap)) :
    ∃ (vf : List Value) (vc : List Value), v = .func (.func f) (if g then #[.agg vf.toArray] else vf.toArray) vc.toArray ∧ Rs (RL0 x w) vf first ∧ Rs (fun v l => RL0 x w v (.ptr l)) vc cap := by
  rcases h with (h | ⟨_, _, _, _, h, h'⟩) | ⟨_, _, _, h, _⟩
  · exact h.elim
  · cases h; exact h'
  · cases h
/-- who is called -/
theorem callee_ok (s : Sim B w0 N T H x a w) {R : Type} {c : FuncId → List AV → Option R} {other : Option R} {r : R} (h : callee T o c other = some r) :
    (∃ g as vs, c g as = some r ∧ Rs (RA x w) vs as ∧ (Enters P g → (execOp a.eval o).run P w = .ok (.enter g vs.toArray) w)) ∨ other = some r := by
  unfold callee at h
  split at h
  · rename_i f args ts ho
    obtain ⟨us, hus, h⟩ := need_some h
    obtain ⟨as, has, h⟩ := need_some h
    obtain ⟨l, hl, h⟩ := asOne_some h
    have hv := (opnd_ok s hl).leaf
    have hargs := asVs_ok (opnds_ok s _ _ hus) has
    have hmap : (args.map a.eval) = (args.toList.map a.eval).toArray := by apply Array.ext'; simp
    split at h
    · rename_i g
      refine .inl ⟨g, as, _, h, hargs, fun he => ?_⟩
      have := hv.fn
      simp [execOp, ho, resolve, Sem.run_bind, this, Deferred.ofValue, invoke, callFunc_enters he, hmap]
    · rename_i g agg first cap
      obtain ⟨vf, vc, h1, h2, h3⟩ := hv.closure
      have hcap : Rs (RA x w) vc (cap.map fun p => ⟨false, [.ptr p]⟩) := Rs.mapR (fun v p hp => ⟨_, rfl, .inl (.inl hp)⟩) h3
      cases agg with
      | true =>
        refine .inl ⟨g, _, [.agg vf.toArray] ++ args.toList.map a.eval ++ vc, h, Rs.append (Rs.append (cs := args.toList.map a.eval) ⟨⟨vf, rfl, h2.mono fun _ _ h => .inl (.inl h)⟩, trivial⟩ hargs) hcap, fun he => ?_⟩
        simp [execOp, ho, resolve, Sem.run_bind, h1, Deferred.ofValue, invoke, callFunc_enters he, hmap]
      | false =>
        have hfirst : Rs (RA x w) vf (first.map fun l => ⟨false, [l]⟩) := Rs.mapR (fun v l hl => ⟨_, rfl, .inl (.inl hl)⟩) h2
        refine .inl ⟨g, _, vf ++ args.toList.map a.eval ++ vc, h, Rs.append (Rs.append hfirst hargs) hcap, fun he => ?_⟩
        simp [execOp, ho, resolve, Sem.run_bind, h1, Deferred.ofValue, invoke, callFunc_enters he, hmap]
    · cases h
  · exact .inr h
end
end Go.Proofs.YtihhgenbkiollaaGreat

/- The abstract machine, part fd: regions in order. No condition. -/
namespace Go.Proofs.YtihhgenbkiollaaGreat
open Go Go.RowKit
section
variable {P : Program} {R : Type}
/-- an inline call that is as it says -/
def FnRunOk (P : Program) (call : RunFn R) : Prop :=
  ∀ (g : FuncId) (args : List AV) (e : Env) (nx : Nat) (s : St) (k : AVal → Nat → St → Option R) (r : R) (B : Nat) (w0 : World) (N : Nat) (x : Cx) (a : Act) (w : World) (vs : List Value),
    Sim B w0 N (getT e s) (getH e s) x a w → Fresh nx x → Rs (RA x w) vs args → call g args e nx s k = some r → Enters P g ∧
    Calls P g vs.toArray w fun en w' => ∃ v, en = .returned v ∧ ∃ x' nx' u s', k u nx' s' = some r ∧ Nxt x w nx x' w' nx' ∧ RV x' w' v u ∧ s'.tm = s.tm ∧ Sim B w0 N (getT e s) (getH e s') x' a w'
structure CfgOk (P : Program) (C : Cfgs R) : Prop where
  Γ : GamOk P C.Γ
  ctr : ∀ g c, C.ctr g = some c → Enters P g ∧ CtrOk P g c
  fctr : ∀ g c, C.fctr g = some c → Enters P g ∧ CtrOk P g c
  dctr : ∀ g c, C.dctr g = some c → Enters P g ∧ CtrOk P g c
  mix : P.follows .mixedOrders = true
section
variable {B : Nat} {w0 : World} {N : Nat} {x : Cx} {a : Act} {w : World} {o : Oper} {e : Env} {s : St}
theorem updT_same {T : Nat → Option AVal} (d : Option Nat) (v : Option AVal) : updT T d v = fun t => if d = some t then v else T t := rfl
/-- one operation, by eff or by a call -/
theorem does_ok {C : Cfgs R} (hC : CfgOk P C) {call : RunFn R} (hcall : FnRunOk P call) (sim : Sim B w0 N (getT e s) (getH e s) x a w) {nx : Nat} (hf : Fresh nx x) (hd : ∀ d, o.dst = some d → d < N) {k : Nat → St → Option R} {r : R}
    (h : callee (getT e s) o
        (fun g args => match C.ctr g with
          | some ctr => effCall (getH e s) nx ctr args fun ef => need (lays s nx 1 ef.hp) fun s' => k (nx + 1) (putDst o.dst ef.val s')
          | none => call g args e nx s fun v nx' s' => k nx' (putDst o.dst (some v) s'))
        (eff C.Γ (getT e s) (getH e s) nx o fun ef => need (lays s nx 1 ef.hp) fun s' => k (nx + 1) (putDst o.dst ef.val s')) = some r) :
    Does P o a w fun a' w' => ∃ x' nx' s', k nx' s' = some r ∧ Nxt x w nx x' w' nx' ∧ Sim B w0 N (getT e s') (getH e s') x' a' w' := by
  have fin : ∀ ef, (need (lays s nx 1 ef.hp) fun s' => k (nx + 1) (putDst o.dst ef.val s')) = some r → OpOk P B w0 N (getT e s) (getH e s) x a w nx 1 o ef →
      Does P o a w fun a' w' => ∃ x' nx' s', k nx' s' = some r ∧ Nxt x w nx x' w' nx' ∧ Sim B w0 N (getT e s') (getH e s') x' a' w' := by
    intro ef h hop
    obtain ⟨s', hl, h⟩ := need_some h
    have hl := lays_some hl
    refine hop.mono fun a' w' => ?_
    rintro ⟨x', p⟩
    refine ⟨x', nx + 1, _, h, .of_post p, ?_⟩
    rw [getT_put, getH_put, hl, getH_lay, getT_lay]
    exact p.sim
  rcases callee_ok sim h with ⟨g, as, vs, h, hvs, hrun⟩ | h
  · split at h
    · rename_i ctr hctr
      obtain ⟨hen, hok⟩ := hC.ctr g ctr hctr
      obtain ⟨ef, h1, h2⟩ := effCall_ok sim hd (hf nx (Nat.le_refl _)) hvs (hrun hen) hok h
      exact fin ef h1 h2
    · obtain ⟨hen, hcalls⟩ := hcall g as e nx s _ r B w0 N x a w vs sim hf hvs h
      refine does_enter (hrun hen) (hcalls.mono fun en w' => ?_)
      rintro ⟨v, rfl, x', nx', u, s', h1, h2, h3, h4, h5⟩
      refine ⟨v, rfl, x', nx', _, h1, h2, ?_⟩
      rw [getT_put, getH_put]
      have : getT e s' = getT e s := by funext t; simp only [getT, h4]
      rw [this]
      exact h5.put hd fun u' hu' => by cases hu'; exact h3
  · rw [← eff_bind] at h
    cases hef : eff C.Γ (getT e s) (getH e s) nx o some with
    | none => rw [hef] at h; cases h
    | some ef =>
      rw [hef] at h
      exact fin ef h (eff_ok hC.Γ sim hd (hf nx (Nat.le_refl _)) hef)
/-- the guard of an operation -/
theorem guarded_ok {ops : Array Oper} {run skip : St → Option R} {r : R} (sim : Sim B w0 N (getT e s) (getH e s) x a w) (h : guarded ops e s o run skip = some r) :
    ∃ s', getT e s' = getT e s ∧ getH e s' = getH e s ∧ ((Region.wanted o (yielded ops a.tmps) = true ∧ run s' = some r) ∨ (Region.wanted o (yielded ops a.tmps) = false ∧ skip s' = some r)) := by
  unfold guarded at h
  split at h
  · rename_i hg
    exact ⟨s, rfl, rfl, .inl ⟨by simp [Region.wanted, hg], h⟩⟩
  · rename_i j want hg
    split at h
    · rename_i t ht
      split at h
      · rename_i b hb
        have hv := (sim.tmps t _ hb).leaf.bool
        have hlt : t < a.tmps.size := by
          rcases Nat.lt_or_ge t a.tmps.size with hlt | hge
          · exact hlt
          · rw [Array.getD_eq_getD_getElem?, Array.getElem?_eq_none hge] at hv; cases hv
        have hy : yielded ops a.tmps j = some b := by
          have h1 : a.tmps[t]? = some (.bool b) := by
            rw [Array.getD_eq_getD_getElem?] at hv
            rw [Array.getElem?_eq_getElem hlt] at hv ⊢
            exact congrArg some hv
          simp only [yielded, ht, Option.bind_some, h1]
        have hw : Region.wanted o (yielded ops a.tmps) = (b == want) := by simp [Region.wanted, hg, hy]
        refine ⟨{ s with tm := (t, some (.l (.bool b))) :: s.tm }, getT_same hb, rfl, ?_⟩
        rw [hw]
        cases b <;> cases want <;> first | exact .inl ⟨rfl, h⟩ | exact .inr ⟨rfl, h⟩
      · rename_i hb
        have hv := sim.tmps t _ hb
        obtain ⟨vs, h1, h2⟩ := hv
        have hvs : vs = [] := by cases vs with | nil => rfl | cons => exact h2.elim
        subst hvs
        refine ⟨s, rfl, rfl, .inr ⟨?_, h⟩⟩
        have hy : yielded ops a.tmps j = none := by
          simp only [yielded, ht, Option.bind_some]
          cases hq : a.tmps[t]? with
          | none => rfl
          | some v =>
            rw [Array.getD_eq_getD_getElem?, hq] at h1
            have h1 : v = .tuple #[] := h1
            rw [h1]
        simp [Region.wanted, hg, hy]
      · cases h
    · cases h
end
theorem runSeq_ok {C : Cfgs R} (hC : CfgOk P C) {call : RunFn R} (hcall : FnRunOk P call) {B : Nat} {w0 : World} {N : Nat} {e : Env} {ops : Array Oper} {k : Nat → St → Option R} {r : R} : ∀ (rest : List Oper) (l : List Nat) (nx : Nat) (s : St) (x : Cx) (a : Act) (w : World),
    Rs (fun i o => ops[i]? = some o) l rest → (∀ o ∈ rest, ∀ d, o.dst = some d → d < N) → Sim B w0 N (getT e s) (getH e s) x a w → Fresh nx x → runSeq C call ops e rest nx s k = some r →
    OpsDo P ops l (fun a' w' => ∃ x' nx' s', k nx' s' = some r ∧ Nxt x w nx x' w' nx' ∧ Sim B w0 N (getT e s') (getH e s') x' a' w') a w
  | [], [], nx, s, x, a, w, _, _, sim, hf, h => opsDo_nil ⟨x, nx, s, h, .refl _ _ _, sim⟩
  | o :: rest, i :: l, nx, s, x, a, w, hl, hd, sim, hf, h => by
    have more : ∀ (x1 : Cx) (nx1 : Nat) (s1 : St) (a1 : Act) (w1 : World), runSeq C call ops e rest nx1 s1 k = some r → Nxt x w nx x1 w1 nx1 → Sim B w0 N (getT e s1) (getH e s1) x1 a1 w1 →
        OpsDo P ops l (fun a' w' => ∃ x' nx' s', k nx' s' = some r ∧ Nxt x w nx x' w' nx' ∧ Sim B w0 N (getT e s') (getH e s') x' a' w') a1 w1 := by
      intro x1 nx1 s1 a1 w1 h1 h2 h3
      intro b q cs
      obtain ⟨a', w', ⟨x', nx', s', g1, g2, g3⟩, g4⟩ := runSeq_ok hC hcall rest l nx1 s1 x1 a1 w1 hl.2 (fun o ho => hd o (List.mem_cons_of_mem _ ho)) h3 (hf.next h2) h1 b q cs
      exact ⟨a', w', ⟨x', nx', s', g1, h2.trans g2, g3⟩, g4⟩
    simp only [runSeq] at h
    obtain ⟨s', e1, e2, ⟨hw, h⟩ | ⟨hw, h⟩⟩ := guarded_ok sim h
    · rw [← e1, ← e2] at sim
      have := does_ok (k := fun nx s => runSeq C call ops e rest nx s k) hC hcall sim hf (hd o (List.mem_cons_self ..)) h
      refine opsDo_cons hl.1 hw this fun a1 w1 => ?_
      rintro ⟨x1, nx1, s1, h1, h2, h3⟩
      exact more x1 nx1 s1 a1 w1 h1 h2 h3
    · rw [← e1, ← e2] at sim
      refine opsDo_skip hl.1 hw (more x nx _ _ w h (.refl _ _ _) ?_)
      rw [getT_put, getH_put]
      exact sim.put (hd o (List.mem_cons_self ..)) fun u hu => by cases hu; exact ⟨[], rfl, trivial⟩
  | [], _ :: _, _, _, _, _, _, hl, _, _, _, _ => hl.elim
  | _ :: _, [], _, _, _, _, _, hl, _, _, _, _ => hl.elim
end
end Go.Proofs.YtihhgenbkiollaaGreat

/- The abstract machine, part fe: codes. No condition. -/
namespace Go.Proofs.YtihhgenbkiollaaGreat
open Go Go.RowKit
section
variable {P : Program} {Q : Exit → Act → World → Prop} {a : Act} {w : World}
theorem wp_loop_n {c : Code} (I : Nat → Act → World → Prop) (round : ∀ n a w, I n a w → c.wp P (Exit.then (fun a' w' => ∃ m, m < n ∧ I m a' w') Q) a w) {n : Nat} (h : I n a w) : (Code.loop c).wp P Q a w := by
  intro b k cs
  have key : ∀ n a w, I n a w → ∃ e a' w', Q e a' w' ∧ Arrives P (lone (b.at a (.code c :: .inLoop c :: k)) cs w) b k cs e a' w' := by
    intro n
    induction n using Nat.strongRecOn with
    | _ n ih =>
      intro a w hI
      obtain ⟨e, a₁, w₁, hq, harr⟩ := round n a w hI b (.inLoop c :: k) cs
      cases e with
      | normal =>
        obtain ⟨m, hlt, hI₁⟩ := hq
        obtain ⟨e₂, a₂, w₂, hq₂, harr₂⟩ := ih m hlt a₁ w₁ hI₁
        exact ⟨e₂, a₂, w₂, hq₂, .of_steps (Steps.trans harr (.one step_inLoop)) harr₂⟩
      | exit id => exact ⟨_, a₁, w₁, hq, .pass (x := .inLoop c) rfl (fun _ _ => .inl (by simp)) harr⟩
      | goto l => exact ⟨_, a₁, w₁, hq, .pass (x := .inLoop c) rfl (fun _ _ => .inl (by simp)) harr⟩
      | ret => exact ⟨_, a₁, w₁, hq, .pass (x := .inLoop c) rfl (fun _ _ => .inl (by simp)) harr⟩
      | panic ch => exact ⟨_, a₁, w₁, hq, .pass (x := .inLoop c) rfl (fun _ _ => .inl (by simp)) harr⟩
      | outgrown => exact ⟨_, a₁, w₁, hq, .pass (x := .inLoop c) rfl (fun _ _ => .inl (by simp)) harr⟩
  obtain ⟨e, a', w', hq, harr⟩ := key n a w h
  exact ⟨e, a', w', hq, .of_steps (.one step_loop) harr⟩
/-- behind a scope's code -/
def Exit.inScope (P : Program) (c : Code) (Q : Exit → Act → World → Prop) : Exit → Act → World → Prop
  | .goto l, a, w => (∃ rest, findLabel c l = some rest ∧ rest.wp P (Exit.noGoto Q) a w) ∨ (findLabel c l = none ∧ Q (.goto l) a w)
  | e, a, w => Q e a w
theorem wp_scope {c : Code} (h : c.wp P (Exit.inScope P c Q) a w) : (Code.scope c).wp P Q a w := by
  intro b k cs
  obtain ⟨e, a₁, w₁, hq, harr⟩ := h b (.inScope c :: k) cs
  cases e with
  | normal => exact ⟨.normal, a₁, w₁, hq, .head step_scope (Steps.trans harr (.one step_inScope))⟩
  | exit id => exact ⟨.exit id, a₁, w₁, hq, fun k' hk => .head step_scope (harr k' (by simp [exitTo, hk]))⟩
  | ret => exact ⟨_, a₁, w₁, hq, .of_steps (.one step_scope) harr⟩
  | panic ch => exact ⟨_, a₁, w₁, hq, .of_steps (.one step_scope) harr⟩
  | outgrown => exact ⟨_, a₁, w₁, hq, .of_steps (.one step_scope) harr⟩
  | goto l =>
    rcases hq with ⟨rest, hf, hq⟩ | ⟨hf, hq⟩
    · have hs := harr (.code rest :: .inScope c :: k) (by simp [gotoIn, hf])
      obtain ⟨e₂, a₂, w₂, hq₂, harr₂⟩ := hq b (.inScope c :: k) cs
      have hall := Steps.head step_scope hs
      cases e₂ with
      | normal => exact ⟨.normal, a₂, w₂, hq₂, hall.trans (Steps.trans harr₂ (.one step_inScope))⟩
      | exit id => exact ⟨.exit id, a₂, w₂, hq₂, fun k' hk => hall.trans (harr₂ k' (by simp [exitTo, hk]))⟩
      | goto l => exact hq₂.elim
      | ret => exact ⟨_, a₂, w₂, hq₂, .of_steps hall harr₂⟩
      | panic ch => exact ⟨_, a₂, w₂, hq₂, .of_steps hall harr₂⟩
      | outgrown => exact ⟨_, a₂, w₂, hq₂, .of_steps hall harr₂⟩
    · exact ⟨.goto l, a₁, w₁, hq, fun k' hk => .head step_scope (harr k' (by simp [gotoIn, hf, hk]))⟩
end
def Ex.to : Ex → Exit | .normal => .normal | .exit id => .exit id | .goto l => .goto l | .ret => .ret
/-- what holds behind a code -/
def Aft {R : Type} (B : Nat) (w0 : World) (N : Nat) (e : Env) (x : Cx) (w : World) (nx : Nat) (k : Ex → Nat → St → Option R) (r : R) (ex : Exit) (a' : Act) (w' : World) : Prop :=
  ∃ xe x' nx' s', ex = xe.to ∧ k xe nx' s' = some r ∧ Nxt x w nx x' w' nx' ∧ Sim B w0 N (getT e s') (getH e s') x' a' w'
/-- a code that runs as it says -/
def RunOk {R : Type} (P : Program) (N : Nat) (c : Code) (run : Run R) : Prop :=
  ∀ (e : Env) (nx : Nat) (s : St) (k : Ex → Nat → St → Option R) (r : R) (B : Nat) (w0 : World) (x : Cx) (a : Act) (w : World), Sim B w0 N (getT e s) (getH e s) x a w → Fresh nx x → run e nx s k = some r →
    c.wp P (Aft B w0 N e x w nx k r) a w
theorem Aft.trans {R : Type} {B : Nat} {w0 : World} {N : Nat} {e : Env} {x y : Cx} {u v : World} {m n : Nat} {k : Ex → Nat → St → Option R} {r : R} (h : Nxt x u m y v n) {ex : Exit} {a' : Act} {w' : World} (g : Aft B w0 N e y v n k r ex a' w') : Aft B w0 N e x u m k r ex a' w' :=
  let ⟨xe, x', nx', s', h1, h2, h3, h4⟩ := g; ⟨xe, x', nx', s', h1, h2, h.trans h3, h4⟩
section
variable {R : Type} {P : Program} {N : Nat}
theorem runOk_seq {c d : Code} {rc rd : Run R} (hc : RunOk P N c rc) (hd : RunOk P N d rd) :
    RunOk P N (.seq c d) (fun e nx s k => rc e nx s fun x nx' s' => match x with | .normal => rd e nx' s' k | x => k x nx' s') := by
  intro e nx s k r B w0 x a w sim hf h
  refine wp_seq (wp_mono (hc e nx s _ r B w0 x a w sim hf h) fun ex a' w' => ?_)
  rintro ⟨xe, x', nx', s', rfl, h1, h2, h3⟩
  cases xe with
  | normal => exact wp_mono (hd e nx' s' k r B w0 x' a' w' h3 (hf.next h2) h1) fun _ _ _ g => Aft.trans h2 g
  | exit id => exact ⟨.exit id, x', nx', s', rfl, h1, h2, h3⟩
  | goto l => exact ⟨.goto l, x', nx', s', rfl, h1, h2, h3⟩
  | ret => exact ⟨.ret, x', nx', s', rfl, h1, h2, h3⟩
theorem runOk_block {id : Nat} {c : Code} {rc : Run R} (hc : RunOk P N c rc) :
    RunOk P N (.block id c) (fun e nx s k => rc e nx s fun x nx' s' => match x with | .exit j => cond (Nat.beq j id) (k .normal nx' s') (k (.exit j) nx' s') | x => k x nx' s') := by
  intro e nx s k r B w0 x a w sim hf h
  refine wp_block (wp_mono (hc e nx s _ r B w0 x a w sim hf h) fun ex a' w' => ?_)
  rintro ⟨xe, x', nx', s', rfl, h1, h2, h3⟩
  cases xe with
  | normal => exact ⟨.normal, x', nx', s', rfl, h1, h2, h3⟩
  | exit j =>
    show if j = id then _ else _
    dsimp only at h1
    by_cases hj : j = id
    · subst hj; rw [if_pos rfl]; simp only [Nat.beq_refl, cond_true] at h1; exact ⟨.normal, x', nx', s', rfl, h1, h2, h3⟩
    · rw [if_neg hj]
      have : Nat.beq j id = false := by
        cases he : Nat.beq j id with
        | true => exact absurd (Nat.eq_of_beq_eq_true he) hj
        | false => rfl
      rw [this] at h1
      exact ⟨.exit j, x', nx', s', rfl, h1, h2, h3⟩
  | goto l => exact ⟨.goto l, x', nx', s', rfl, h1, h2, h3⟩
  | ret => exact ⟨.ret, x', nx', s', rfl, h1, h2, h3⟩
end
end Go.Proofs.YtihhgenbkiollaaGreat

/- The abstract machine, part ff: codes run as they say. No condition. -/
namespace Go.Proofs.YtihhgenbkiollaaGreat
open Go Go.RowKit
section
variable {R : Type} {P : Program}
/-- every slot is one of the N, every annotated loop is as it says -/
def CodeOk (P : Program) (C : Cfgs R) (N : Nat) (fid : FuncId) : Code → Nat → Prop
  | .region id ops draw, _ => (∀ o ∈ ops.toList, ∀ d, o.dst = some d → d < N) ∧ ∀ run, C.ra fid (2 * id) = some run → RunOk P N (.region id ops draw) run
  | .rangeFunc f ps a b, bid => ∀ run, C.ra fid (2 * bid + 1) = some run → RunOk P N (.rangeFunc f ps a b) run
  | .seq a b, bid => CodeOk P C N fid a bid ∧ CodeOk P C N fid b bid
  | .cond _ a b, bid => CodeOk P C N fid a bid ∧ CodeOk P C N fid b bid
  | .block id c, _ => CodeOk P C N fid c id
  | .loop c, bid => CodeOk P C N fid c bid ∧ ∀ a, C.la fid bid = some (.ann a) → RunOk P N (.loop c) (evalAnn a)
  | .scope c, bid => CodeOk P C N fid c bid
  | _, _ => True
theorem CodeOk.label {C : Cfgs R} {N : Nat} {fid : FuncId} {l : Nat} {bid : Nat} : ∀ (c : Code) {rest : Code}, CodeOk P C N fid c bid → findLabel c l = some rest → CodeOk P C N fid rest bid
  | .seq a b, rest, h, hf => by
    simp only [findLabel] at hf
    split at hf
    · rename_i r hr
      cases hf
      exact ⟨CodeOk.label a h.1 hr, h.2⟩
    · exact CodeOk.label b h.2 hf
  | .label l', rest, h, hf => by
    simp only [findLabel] at hf
    split at hf
    · cases hf; trivial
    · cases hf
  | .skip, _, _, hf => by cases hf
  | .ret, _, _, hf => by cases hf
  | .exit _, _, _, hf => by cases hf
  | .goto _, _, _, hf => by cases hf
  | .region _ _ _, _, _, hf => by cases hf
  | .cond _ _ _, _, _, hf => by cases hf
  | .block _ _, _, _, hf => by cases hf
  | .loop _, _, _, hf => by cases hf
  | .scope _, _, _, hf => by cases hf
  | .rangeFunc .., _, _, hf => by cases hf
  | .refuse _, _, _, hf => by cases hf
/-- regions that draw their order run as they say -/
def DrawOk (P : Program) (C : Cfgs R) : Prop :=
  ∀ (N : Nat) (id : Nat) (ops : Array Oper) (call : RunFn R), (∀ o ∈ ops.toList, ∀ d, o.dst = some d → d < N) → RunOk P N (.region id ops true) (fun e nx s k => runRegion C call ops true e nx s (k .normal))
theorem range_rs (ops : Array Oper) : Rs (fun i o => ops[i]? = some o) (List.range ops.size) ops.toList :=
  Rs.of_get (by simp) fun j i o hi ho => by
    have hlt : j < ops.size := by
      rcases Nat.lt_or_ge j ops.size with h | h
      · exact h
      · rw [List.getElem?_eq_none (by simpa using h)] at ho; cases ho
    rw [List.getElem?_range hlt] at hi
    cases hi
    simpa using ho
theorem refine_ok {B : Nat} {w0 : World} {N : Nat} {x : Cx} {a : Act} {w : World} {e : Env} {s : St} {c : Operand} {b : Bool} (h : opnd (getT e s) c = some (.l (.bool b))) : getT e (refine e s c b) = getT e s ∧ getH e (refine e s c b) = getH e s := by
  cases c with
  | tmp t => exact ⟨getT_same h, rfl⟩
  | _ => exact ⟨rfl, rfl⟩
theorem evalUnroll_ok {N : Nat} {c : Code} {body : Run R} (hb : RunOk P N c body) {e : Env} {k : Ex → Nat → St → Option R} {r : R} {B : Nat} {w0 : World} (n : Nat) {nx : Nat} {s : St} {x : Cx} {a : Act} {w : World} (sim : Sim B w0 N (getT e s) (getH e s) x a w) (hf : Fresh nx x)
    (h : evalUnroll body e k n nx s = some r) : (Code.loop c).wp P (Aft B w0 N e x w nx k r) a w := by
  refine wp_loop_n (n := n) (fun n a' w' => ∃ x' nx' s', Nxt x w nx x' w' nx' ∧ Sim B w0 N (getT e s') (getH e s') x' a' w' ∧ evalUnroll body e k n nx' s' = some r) ?_ ⟨x, nx, s, .refl _ _ _, sim, h⟩
  rintro n a1 w1 ⟨x1, nx1, s1, h1, h2, h3⟩
  cases n with
  | zero => cases h3
  | succ n =>
    refine wp_mono (hb e nx1 s1 _ r B w0 x1 a1 w1 h2 (hf.next h1) h3) fun ex a' w' => ?_
    rintro ⟨xe, x', nx', s', rfl, g1, g2, g3⟩
    cases xe with
    | normal => exact ⟨n, Nat.lt_succ_self n, x', nx', s', h1.trans g2, g3, g1⟩
    | exit id => exact ⟨.exit id, x', nx', s', rfl, g1, h1.trans g2, g3⟩
    | goto l => exact ⟨.goto l, x', nx', s', rfl, g1, h1.trans g2, g3⟩
    | ret => exact ⟨.ret, x', nx', s', rfl, g1, h1.trans g2, g3⟩
theorem evalCode_ok {C : Cfgs R} (hC : CfgOk P C) {call : RunFn R} (hcall : FnRunOk P call) (hdraw : DrawOk P C) {N : Nat} {fid : FuncId} {sub : Code → Nat → Run R} (hsub : ∀ c bid, CodeOk P C N fid c bid → RunOk P N c (sub c bid)) :
    ∀ (c : Code) (bid : Nat), CodeOk P C N fid c bid → RunOk P N c (evalCode C call sub fid c bid)
  | .skip, bid, hc => fun e nx s k r B w0 x a w sim hf h => wp_skip ⟨.normal, x, nx, s, rfl, h, .refl _ _ _, sim⟩
  | .label _, bid, hc => fun e nx s k r B w0 x a w sim hf h => wp_label ⟨.normal, x, nx, s, rfl, h, .refl _ _ _, sim⟩
  | .ret, bid, hc => fun e nx s k r B w0 x a w sim hf h => wp_ret ⟨.ret, x, nx, s, rfl, h, .refl _ _ _, sim⟩
  | .exit id, bid, hc => fun e nx s k r B w0 x a w sim hf h => wp_exit ⟨.exit id, x, nx, s, rfl, h, .refl _ _ _, sim⟩
  | .goto l, bid, hc => fun e nx s k r B w0 x a w sim hf h => wp_goto ⟨.goto l, x, nx, s, rfl, h, .refl _ _ _, sim⟩
  | .region id ops draw, bid, hc => fun e nx s k r B w0 x a w sim hf h => by
    have hd : ∀ o ∈ ops.toList, ∀ d, o.dst = some d → d < N := hc.1
    simp only [evalCode] at h
    split at h
    · rename_i run hr
      exact hc.2 run hr e nx s k r B w0 x a w sim hf h
    cases draw with
    | true => exact hdraw N id ops call hd e nx s k r B w0 x a w sim hf h
    | false =>
    have h : runSeq C call ops e ops.toList nx s (k .normal) = some r := h
    refine wp_of_opsDo ?_
    intro b q cs
    obtain ⟨a', w', ⟨x', nx', s', g1, g2, g3⟩, g4⟩ := runSeq_ok hC hcall _ _ nx s x a w (range_rs ops) hd sim hf h b q cs
    exact ⟨a', w', ⟨.normal, x', nx', s', rfl, g1, g2, g3⟩, g4⟩
  | .seq c d, bid, hc => runOk_seq (evalCode_ok hC hcall hdraw hsub c bid hc.1) (evalCode_ok hC hcall hdraw hsub d bid hc.2)
  | .cond q c d, bid, hc => fun e nx s k r B w0 x a w sim hf h => by
    obtain ⟨l, hl, h⟩ := asOne_some (show asOne (opnd (getT e s) q) _ = some r from h)
    split at h
    · rename_i b
      have hv := (opnd_ok sim hl).leaf.bool
      obtain ⟨e1, e2⟩ := refine_ok (B := B) (w0 := w0) (N := N) (x := x) (a := a) (w := w) hl
      refine wp_cond hv ?_
      cases b with
      | true => exact evalCode_ok hC hcall hdraw hsub c bid hc.1 e nx _ k r B w0 x a w (by rw [e1, e2]; exact sim) hf h
      | false => exact evalCode_ok hC hcall hdraw hsub d bid hc.2 e nx _ k r B w0 x a w (by rw [e1, e2]; exact sim) hf h
    · cases h
  | .block id c, bid, hc => runOk_block (evalCode_ok hC hcall hdraw hsub c id hc)
  | .loop c, bid, hc => fun e nx s k r B w0 x a w sim hf h => by
    simp only [evalCode] at h
    split at h
    · rename_i n hn
      exact evalUnroll_ok (evalCode_ok hC hcall hdraw hsub c bid hc.1) n sim hf h
    · rename_i an ha
      exact hc.2 an ha e nx s k r B w0 x a w sim hf h
    · cases h
  | .scope c, bid, hc => fun e nx s k r B w0 x a w sim hf h => by
    have h : evalCode C call sub fid c bid e nx s _ = some r := h
    refine wp_scope (wp_mono (evalCode_ok hC hcall hdraw hsub c bid hc e nx s _ r B w0 x a w sim hf h) fun ex a' w' => ?_)
    rintro ⟨xe, x', nx', s', rfl, h1, h2, h3⟩
    cases xe with
    | normal => exact ⟨.normal, x', nx', s', rfl, h1, h2, h3⟩
    | exit id => exact ⟨.exit id, x', nx', s', rfl, h1, h2, h3⟩
    | ret => exact ⟨.ret, x', nx', s', rfl, h1, h2, h3⟩
    | goto l =>
      dsimp only at h1
      split at h1
      · rename_i rest hr
        refine .inl ⟨rest, hr, wp_mono (hsub rest bid (CodeOk.label c hc hr) e nx' s' _ r B w0 x' a' w' h3 (hf.next h2) h1) fun ex a2 w2 => ?_⟩
        rintro ⟨xe, x2, nx2, s2, rfl, g1, g2, g3⟩
        cases xe with
        | normal => exact ⟨.normal, x2, nx2, s2, rfl, g1, h2.trans g2, g3⟩
        | exit id => exact ⟨.exit id, x2, nx2, s2, rfl, g1, h2.trans g2, g3⟩
        | ret => exact ⟨.ret, x2, nx2, s2, rfl, g1, h2.trans g2, g3⟩
        | goto l => cases g1
      · rename_i hr
        exact .inr ⟨hr, .goto l, x', nx', s', rfl, h1, h2, h3⟩
  | .rangeFunc f ps c d, bid, hc => fun e nx s k r B w0 x a w sim hf h => by
    simp only [evalCode] at h
    split at h
    · rename_i run hr
      exact hc run hr e nx s k r B w0 x a w sim hf h
    · cases h
  | .refuse _, bid, hc => fun e nx s k r B w0 x a w sim hf h => by cases h
end
end Go.Proofs.YtihhgenbkiollaaGreat

/- The abstract machine, part fg: functions. No condition. -/
namespace Go.Proofs.YtihhgenbkiollaaGreat
open Go Go.RowKit
section
variable {R : Type} {P : Program} {B : Nat} {w0 : World} {N : Nat} {x : Cx} {a : Act} {w : World} {e : Env} {s : St}
/-- what a result variable holds -/
def resOf (tmps : Array Value) : ResultVar → Sem Value
  | .tmp t => pure (tmps.getD t undef)
  | .cell a t => do loadVar t (← asAddr (tmps.getD a undef))
theorem resV_ok {Γ : Gam} (hΓ : GamOk P Γ) (sim : Sim B w0 N (getT e s) (getH e s) x a w) {v : ResultVar} {k : AV → Option R} {r : R} (h : resV Γ e s v k = some r) :
    ∃ u q, k q = some r ∧ RA x w u q ∧ (resOf a.tmps v).run P w = .ok u w := by
  cases v with
  | tmp t =>
    obtain ⟨q, hq, h⟩ := asV_some h
    exact ⟨_, q, h, sim.tmps t _ hq, rfl⟩
  | cell t ty =>
    obtain ⟨i, hi, h⟩ := need_some h
    obtain ⟨p, hp, h⟩ := asPtr_some h
    have hv := (sim.tmps t _ hp).leaf
    obtain ⟨ls, rd, h1, h2, b, o, cs, h3, h4, h5, h6⟩ := rdLoc_ok sim hv h
    have ht' := hΓ ty i hi
    refine ⟨if i.agg then .agg cs.toArray else cs.headD undef, _, h1, ra_of_cells h6 fun hg => by rw [h2]; exact ht'.one hg, ?_⟩
    simp [resOf, Sem.run_bind, h3, asAddr, run_loadVar_cells ht' h5 h4 (fun hg => ht'.one hg)]
theorem resVs_ok {Γ : Gam} (hΓ : GamOk P Γ) (sim : Sim B w0 N (getT e s) (getH e s) x a w) : ∀ (l : List ResultVar) {k : List AV → Option R} {r : R}, resVs Γ e s l k = some r →
    ∃ us as, k as = some r ∧ Rs (RA x w) us as ∧ (l.mapM (resOf a.tmps)).run P w = .ok us w
  | [], k, r, h => ⟨[], [], h, trivial, rfl⟩
  | v :: l, k, r, h => by
    obtain ⟨u, q, h, h1, h2⟩ := resV_ok hΓ sim (show resV Γ e s v _ = some r from h)
    obtain ⟨us, as, h, h3, h4⟩ := resVs_ok hΓ sim l h
    refine ⟨u :: us, q :: as, h, ⟨h1, h3⟩, ?_⟩
    simp [List.mapM_cons, Sem.run_bind, h2, h4]
theorem results_ok {Γ : Gam} (hΓ : GamOk P Γ) (sim : Sim B w0 N (getT e s) (getH e s) x a w) {fn : Func} {k : List AV → Option R} {r : R} (h : resVs Γ e s fn.results.toList k = some r) :
    ∃ u as, k as = some r ∧ RV x w u (finRes as) ∧ (results fn a.tmps).run P w = .ok u w := by
  obtain ⟨us, as, h, h1, h2⟩ := resVs_ok hΓ sim _ h
  have hm : (fn.results.mapM (resOf a.tmps)).run P w = .ok us.toArray w := by
    rw [Array.mapM_eq_mapM_toList]
    simp [h2]
  have hrun : (results fn a.tmps).run P w = .ok (if h : us.toArray.size = 1 then us.toArray[0] else .tuple us.toArray) w := by
    show ((fn.results.mapM (resOf a.tmps)) >>= fun vs => pure (if h : vs.size = 1 then vs[0] else .tuple vs)).run P w = _
    rw [Sem.run_bind, hm]; rfl
  refine ⟨_, as, h, ?_, hrun⟩
  have hl := h1.length
  match us, as, h1 with
  | [], [], _ => exact ⟨[], rfl, trivial⟩
  | [u], [q], h1 => exact h1.1
  | u :: u' :: us, q :: q' :: as, h1 =>
    rw [dif_neg (by simp)]
    exact ⟨_, rfl, h1⟩
theorem lk_pars : ∀ (as : List AV) (n t : Nat), lk t (pars n as) = if n ≤ t then (as[t - n]?).map fun a => some (AVal.v a) else none
  | [], n, t => by simp [pars, lk]
  | a :: as, n, t => by
    simp only [pars]
    by_cases h : n = t
    · subst h; rw [lk_self]; simp
    · rw [lk_ne _ _ h, lk_pars as (n + 1) t]
      by_cases hn : n ≤ t
      · rw [if_pos (by omega), if_pos hn]
        have : t - n = (t - (n + 1)) + 1 := by omega
        rw [this]; simp
      · rw [if_neg (by omega), if_neg hn]
/-- the functions that are run inline are the program's -/
def FnsOk (P : Program) (C : Cfgs R) : Prop := ∀ g fn, lk g C.fns = some fn → P.funcs[g]? = some fn ∧ (fn.name == "runtime.NumGoroutine") = false
def AnnsOk (P : Program) (C : Cfgs R) : Prop := ∀ g fn c, lk g C.fns = some fn → fn.body = some c → (∀ d ∈ codeDsts c, d < fn.ntmps) → CodeOk P C fn.ntmps g c 0
theorem enter_tmps {T : Nat → Option AVal} {H : Nat → Option Obj} (sim : Sim B w0 N T H x a w) {hp : List (Nat × Option Obj)} {s2 : List (Nat × Option Obj)} (hH : getH ⟨[], hp⟩ ⟨[], s2⟩ = H) {vs : List Value} {args : List AV} (hvs : Rs (RA x w) vs args) {n : Nat} (hn : args.length ≤ n) :
    Sim B w0 n (getT ⟨[], hp⟩ ⟨pars 0 args, s2⟩) (getH ⟨[], hp⟩ ⟨pars 0 args, s2⟩) x { tmps := vs.toArray ++ Array.replicate (n - vs.toArray.size) undef, defers := [] } w where
  below := sim.below
  size := sim.size
  slots := by have := hvs.length; simp; omega
  defers := rfl
  tmps := by
    intro t v ht
    simp only [getT, lk_pars, Nat.zero_le, if_true, Nat.sub_zero] at ht
    cases hq : args[t]? with
    | none => rw [hq] at ht; simp [lk] at ht
    | some q =>
      rw [hq] at ht
      simp only [Option.map_some, Option.some.injEq] at ht
      subst ht
      obtain ⟨u, h1, h2⟩ := hvs.get t q hq
      have hlt : t < vs.length := by
        rcases Nat.lt_or_ge t vs.length with h | h
        · exact h
        · rw [List.getElem?_eq_none h] at h1; cases h1
      have : (vs.toArray ++ Array.replicate (n - vs.toArray.size) undef).getD t undef = u := by
        rw [Array.getD_eq_getD_getElem?, Array.getElem?_append_left (by simpa using hlt)]
        simp [h1]
      show RA x w _ q
      rw [this]; exact h2
  heap := by rw [show getH ⟨[], hp⟩ ⟨pars 0 args, s2⟩ = H from hH]; exact sim.heap
  inj := by rw [show getH ⟨[], hp⟩ ⟨pars 0 args, s2⟩ = H from hH]; exact sim.inj
  dlt := sim.dlt
theorem runFn_ok {C : Cfgs R} (hC : CfgOk P C) (hF : FnsOk P C) (hA : AnnsOk P C) {ev : FuncId → Code → Nat → Run R} (hev : ∀ N fid c bid, CodeOk P C N fid c bid → RunOk P N c (ev fid c bid)) : FnRunOk P (runFn C ev) := by
  intro g args e nx s k r B w0 N x a w vs sim hf hvs h
  obtain ⟨fn, hfn, h⟩ := need_some h
  obtain ⟨c, hc, h⟩ := need_some h
  obtain ⟨hd, h⟩ := cond_some h
  simp only [Bool.and_eq_true, List.all_eq_true] at hd
  obtain ⟨hfn1, hfn2⟩ := hF g fn hfn
  have hds : ∀ d ∈ codeDsts c, d < fn.ntmps := fun d h => ble_le (hd.1 d h)
  have hcode := hA g fn c hfn hc hds
  refine ⟨⟨fn, hfn1, hfn2, by rw [hc]; rfl⟩, calls_of_wp hfn1 hc ?_⟩
  have sim0 := enter_tmps (hp := e.hp) (s2 := s.hp) sim rfl hvs (ble_le hd.2)
  refine wp_mono (hev fn.ntmps g c 0 hcode ⟨[], e.hp⟩ nx ⟨pars 0 args, s.hp⟩ _ r B w0 x _ w sim0 hf h) fun ex a' w' => ?_
  rintro ⟨xe, x', nx', s', rfl, h1, h2, h3⟩
  have fin : resVs C.Γ ⟨[], e.hp⟩ s' fn.results.toList (fun as => k (finRes as) nx' ⟨s.tm, s'.hp⟩) = some r →
      a'.defers = [] ∧ ∃ v, (results fn a'.tmps).run P w' = .ok v w' ∧ ∃ v', Ending.returned v = .returned v' ∧ ∃ x' nx' u s', k u nx' s' = some r ∧ Nxt x w nx x' w' nx' ∧ RV x' w' v' u ∧ s'.tm = s.tm ∧ Sim B w0 N (getT e s) (getH e s') x' a w' := by
    intro h1
    obtain ⟨u, as, g1, g2, g3⟩ := results_ok hC.Γ h3 h1
    refine ⟨h3.defers, u, g3, u, rfl, x', nx', finRes as, ⟨s.tm, s'.hp⟩, g1, h2, g2, rfl, ?_⟩
    exact {
      below := h3.below
      size := h3.size
      slots := sim.slots
      defers := sim.defers
      tmps := fun t v ht => (sim.tmps t v ht).evo h2.evo
      heap := h3.heap
      inj := h3.inj
      dlt := h3.dlt }
  cases xe with
  | normal => exact fin h1
  | ret => exact fin h1
  | exit id => cases h1
  | goto l => cases h1
end
end Go.Proofs.YtihhgenbkiollaaGreat

/- The abstract machine, part fh: a function's answer. No condition. -/
namespace Go.Proofs.YtihhgenbkiollaaGreat
open Go Go.RowKit
section
variable {B : Nat} {w0 : World} {N : Nat} {T : Nat → Option AVal} {H : Nat → Option Obj} {x : Cx} {a : Act} {w : World} {D1 : Nat → Nat → Prop}
/-! pointers, as places that stay -/
theorem decFirst_ok {ls : List Leaf} : ∀ {ks : List Kd} {k : Kd} {y : k.C}, decFirst ls ks = some ⟨k, y⟩ → k.dec ls = some y
  | [], _, _, h => by cases h
  | q :: ks, k, y, h => by
    simp only [decFirst] at h
    split at h
    · rename_i z hz; cases h; exact hz
    · exact decFirst_ok h
theorem RL.plain {v : Value} {l l' : Leaf} (hD : ∀ b q, x.D b q → D1 b q) (h : RL x w v l) (hf : fixL (fun _ => none) l = some l') : PL w D1 v l' :=
  h.fixed (H := fun _ => none) hf hD (by
    intro b hb
    cases l <;> simp [ownsL] at hb
    subst hb
    simp [fixL] at hf)
theorem RLs.plain (hD : ∀ b q, x.D b q → D1 b q) : ∀ {vs : List Value} {ls ls' : List Leaf}, Rs (RL x w) vs ls → fixLs (fun _ => none) ls = some ls' → Rs (PL w D1) vs ls'
  | [], [], ls', _, hf => by cases hf; trivial
  | v :: vs, l :: ls, ls', h, hf => by
    simp only [fixLs] at hf
    split at hf
    · rename_i y ys h1 h2; cases hf; exact ⟨h.1.plain hD h1, RLs.plain hD h.2 h2⟩
    · cases hf
  | [], _ :: _, _, h, _ => h.elim
  | _ :: _, [], _, h, _ => h.elim
theorem thawP_ok (s : Sim B w0 N T H x a w) (hD : ∀ b q, x.D b q → D1 b q) (hB : ∀ b q, B ≤ b → b < w.heap.size → D1 b q) {v : Value} {p p' : Loc} {ids : List Nat} (h : RL0 x w v (.ptr p)) (ht : thawP H p = some (p', ids)) : RL0 (frz D1) w v (.ptr p') := by
  unfold thawP at ht
  split at ht
  · rename_i b o
    split at ht
    · rename_i ls hb
      split at ht
      · rename_i ls' hls
        split at ht
        · rename_i k y hk
          cases ht
          obtain ⟨blk, h1, rfl⟩ := h
          obtain ⟨ob, g1, g2, g3⟩ := s.heap b _ hb
          obtain ⟨blk', cs, t, g4, g5, g6, g7⟩ := g3
          have e : blk' = blk := by rw [h1] at g1; cases g1; cases g4; rfl
          subst e
          have hpl := Rs.cos (RLs.plain hD g6 hls) (Kd.dec_cos (decFirst_ok hk))
          refine ⟨blk', 0, by simp, by simp, fun j hj => ?_⟩
          have hl : (k.cells y).length = k.sz := Kd.cells_length k y
          have hj' : j < (k.cells y).length := by omega
          obtain ⟨c, hc, hp⟩ := hpl.get j ((k.cells y)[j]) (List.getElem?_eq_getElem hj')
          refine ⟨c, hB _ _ (g2 blk' g4).1 (g2 blk' g4).2, ?_, ?_⟩
          · simp only [World.cell?, g5, Nat.zero_add]; simpa using hc
          · have : ((k.cells ([y].getD 0 k.dflt)).getD j .nils) = (k.cells y)[j] := by
              show (k.cells y).getD j .nils = _
              rw [List.getD_eq_getElem?_getD, List.getElem?_eq_getElem hj']; rfl
            rw [this]; exact hp
        · cases ht
      · cases ht
    · cases ht
  · cases ht
    obtain ⟨blk, base, h1, h2, h3⟩ := h
    refine ⟨blk, base, h1, h2, fun j hj => ?_⟩
    obtain ⟨c, hd, hc, hp⟩ := h3 j hj
    exact ⟨c, hD _ _ hd, hc, hp.mono hD fun _ _ _ => rfl⟩
  · cases ht
theorem thawPs_ok (s : Sim B w0 N T H x a w) (hD : ∀ b q, x.D b q → D1 b q) (hB : ∀ b q, B ≤ b → b < w.heap.size → D1 b q) : ∀ {vs : List Value} {ps ps' : List Loc} {ids : List Nat}, Rs (fun v l => RL0 x w v (.ptr l)) vs ps → thawPs H ps = some (ps', ids) → Rs (fun v l => RL0 (frz D1) w v (.ptr l)) vs ps'
  | [], [], ps', ids, _, hf => by cases hf; trivial
  | v :: vs, l :: ls, ls', ids, h, hf => by
    simp only [thawPs] at hf
    split at hf
    · rename_i y b ys bs h1 h2; cases hf; exact ⟨thawP_ok s hD hB h.1 h1, thawPs_ok s hD hB h.2 h2⟩
    · cases hf
  | [], _ :: _, _, _, h, _ => h.elim
  | _ :: _, [], _, _, h, _ => h.elim
theorem thawL_ok (s : Sim B w0 N T H x a w) (hD : ∀ b q, x.D b q → D1 b q) (hB : ∀ b q, B ≤ b → b < w.heap.size → D1 b q) {v : Value} {l l' : Leaf} {ids : List Nat} (h : RL x w v l) (ht : thawL H l = some (l', ids)) : RL (frz D1) w v l' := by
  unfold thawL at ht
  split at ht
  · split at ht
    · rename_i hp; cases ht; exact .inl (.inl (thawP_ok s hD hB h.ptr hp))
    · cases ht
  · split at ht
    · rename_i f agg cap q ps b hp
      cases ht
      obtain ⟨vf, vc, h1, h2, h3⟩ := h.closure
      have : vf = [] := by cases vf with | nil => rfl | cons => exact h2.elim
      subst this
      exact .inl (.inr ⟨f, agg, [], ps, rfl, [], vc, h1, trivial, thawPs_ok s hD hB h3 hp⟩)
    · cases ht
  · split at ht
    · rename_i hl; cases ht; exact RL.of_pl (h.plain hD hl)
    · cases ht
theorem thawLs_ok (s : Sim B w0 N T H x a w) (hD : ∀ b q, x.D b q → D1 b q) (hB : ∀ b q, B ≤ b → b < w.heap.size → D1 b q) : ∀ {vs : List Value} {ps ps' : List Leaf} {ids : List Nat}, Rs (RL x w) vs ps → thawLs H ps = some (ps', ids) → Rs (RL (frz D1) w) vs ps'
  | [], [], ps', ids, _, hf => by cases hf; trivial
  | v :: vs, l :: ls, ls', ids, h, hf => by
    simp only [thawLs] at hf
    split at hf
    · rename_i y b ys bs h1 h2; cases hf; exact ⟨thawL_ok s hD hB h.1 h1, thawLs_ok s hD hB h.2 h2⟩
    · cases hf
  | [], _ :: _, _, _, h, _ => h.elim
  | _ :: _, [], _, _, h, _ => h.elim
theorem thawAs_ok (s : Sim B w0 N T H x a w) (hD : ∀ b q, x.D b q → D1 b q) (hB : ∀ b q, B ≤ b → b < w.heap.size → D1 b q) : ∀ {vs : List Value} {ps ps' : List AV} {ids : List Nat}, Rs (RA x w) vs ps → thawAs H ps = some (ps', ids) → Rs (RA (frz D1) w) vs ps'
  | [], [], ps', ids, _, hf => by cases hf; trivial
  | v :: vs, l :: ls, ls', ids, h, hf => by
    simp only [thawAs] at hf
    split at hf
    · rename_i y b ys bs h1 h2
      cases hf
      refine ⟨?_, thawAs_ok s hD hB h.2 h2⟩
      obtain ⟨g, ms⟩ := l
      have h0 := h.1
      cases g with
      | true => obtain ⟨us, g1, g2⟩ := h0; exact ⟨us, g1, thawLs_ok s hD hB g2 h1⟩
      | false =>
        obtain ⟨m, g1, g2⟩ := h0
        have g1 : ms = [m] := g1
        subst g1
        have h3 : Rs (RL x w) [v] [m] := ⟨g2, trivial⟩
        have h4 := thawLs_ok s hD hB h3 h1
        match y, h4 with
        | [l'], h4 => exact ⟨l', rfl, h4.1⟩
        | [], h4 => exact h4.elim
        | _ :: _ :: _, h4 => exact h4.2.elim
    · cases hf
  | [], _ :: _, _, _, h, _ => h.elim
  | _ :: _, [], _, _, h, _ => h.elim
end
section
variable {R : Type} {P : Program}
theorem evalD_ok {C : Cfgs R} (hC : CfgOk P C) (hF : FnsOk P C) (hA : AnnsOk P C) (hdraw : DrawOk P C) : ∀ (d : Nat) (N : Nat) (fid : FuncId) (c : Code) (bid : Nat), CodeOk P C N fid c bid → RunOk P N c (evalD C d fid c bid)
  | 0, N, fid, c, bid, _ => fun e nx s k r B w0 x a w sim hf h => by cases h
  | d + 1, N, fid, c, bid, hc => by
    have ih := evalD_ok hC hF hA hdraw d
    have hcall := runFn_ok hC hF hA ih
    exact evalCode_ok hC hcall hdraw (fun c bid hc => ih N fid c bid hc) c bid hc
theorem lends_append {H : Nat → Option Obj} : ∀ (as bs : List Nat) {l m : List (Nat × Option Obj)}, lends H as = some l → lends H bs = some m → ∃ n, lends H (as ++ bs) = some n
  | [], bs, l, m, _, h => ⟨m, h⟩
  | a :: as, bs, l, m, h, h' => by
    simp only [lends] at h
    split at h
    · rename_i y ys h1 h2
      obtain ⟨n, hn⟩ := lends_append as bs h2 h'
      exact ⟨y :: n, by simp [lends, h1, hn]⟩
    · cases h
theorem lends_of_fixLs {H : Nat → Option Obj} : ∀ (ls : List Leaf) {ls' : List Leaf}, fixLs H ls = some ls' → ∃ l, lends H (ownsL ls) = some l
  | [], _, _ => ⟨[], rfl⟩
  | l :: ls, ls', h => by
    simp only [fixLs] at h
    split at h
    · rename_i y ys h1 h2
      obtain ⟨m, hm⟩ := lends_of_fixLs ls h2
      cases l with
      | own b =>
        simp only [fixL] at h1
        split at h1
        · rename_i k xs lt hb
          exact ⟨_, by simp only [ownsL, lends, lendOne, hb, hm]; rfl⟩
        · cases h1
      | _ => exact ⟨m, by simpa [ownsL] using hm⟩
    · cases h
theorem lends_of_fixA {H : Nat → Option Obj} {a a' : AV} (h : fixA H a = some a') : ∃ l, lends H (ownsL a.ls) = some l := by
  obtain ⟨g, ls⟩ := a
  unfold fixA at h
  cases hls : fixLs H ls with
  | some ls' => exact lends_of_fixLs _ hls
  | none =>
    simp only [hls] at h
    split at h
    · rename_i l he
      cases he
      obtain ⟨hl, _⟩ := cond_some h
      refine ⟨[], ?_⟩
      cases l <;> first | rfl | (simp [frozenL] at hl)
    · cases h
theorem lends_of_fixAs {H : Nat → Option Obj} : ∀ (as : List AV) {as' : List AV}, fixAs H as = some as' → ∃ l, lends H (ownsA as) = some l
  | [], _, _ => ⟨[], rfl⟩
  | a :: as, as', h => by
    simp only [fixAs] at h
    split at h
    · rename_i y ys h1 h2
      obtain ⟨l, hl⟩ := lends_of_fixA h1
      obtain ⟨m, hm⟩ := lends_of_fixAs as h2
      exact lends_append _ _ hl hm
    · cases h
/-- the state at the beginning -/
theorem Sim.start (w : World) (D : Nat → Nat → Prop) (hD : ∀ b o, D b o → b < w.heap.size) : Sim w.heap.size w 0 (getT ⟨[], []⟩ ⟨[], []⟩) (getH ⟨[], []⟩ ⟨[], []⟩) ⟨fun _ => none, fun _ => (0, 0), D⟩ ⟨#[], []⟩ w where
  below := Below.refl _ _
  size := Nat.le_refl _
  slots := rfl
  defers := rfl
  tmps := fun t v h => by simp [getT, lk] at h
  heap := fun b o h => by simp [getH, lk] at h
  inj := fun b b' o o' blk h => by simp [getH, lk] at h
  dlt := hD
theorem evalFn_ok {C : Cfgs R} (hC : CfgOk P C) (hF : FnsOk P C) (hA : AnnsOk P C) (hdraw : DrawOk P C) {d : Nat} {g : FuncId} {args : List AV} {k : CRes → Option R} {r : R} (h : evalFn C d g args k = some r)
    (w : World) (D : Nat → Nat → Prop) (vs : List Value) (hD : ∀ b o, D b o → b < w.heap.size) (hvs : Rs (RA (frz D) w) vs args) : Calls P g vs.toArray w fun e w' => ∃ res, k res = some r ∧ Ret w D res e w' := by
  have hrun := runFn_ok hC hF hA (evalD_ok hC hF hA hdraw d)
  have hx : Fresh 0 (⟨fun _ => none, fun _ => (0, 0), D⟩ : Cx) := fun _ _ => rfl
  obtain ⟨_, hc⟩ := hrun g args ⟨[], []⟩ 0 ⟨[], []⟩ _ r w.heap.size w 0 _ _ w vs (Sim.start w D hD) hx hvs h
  refine hc.mono fun e w' => ?_
  rintro ⟨v, rfl, x', nx', u, s', h1, h2, h3, h4, h5⟩
  have base : ∀ (D' : Nat → Nat → Prop) (res : CRes), (∀ b q, x'.D b q → D' b q) → (∀ b q, D' b q → b < w'.heap.size) → (∀ b q, D' b q → b < w.heap.size → x'.D b q) → Answers w w' D' v res → Ret w D res (.returned v) w' := fun D' res g1 g2 g3 g4 =>
    ⟨v, rfl, h5.below, D', fun b q h => g1 b q (h2.evo.D b q h), g2, (fun b q h hlt => by
      rcases h2.evo.dn b q hlt (g3 b q h hlt) with h | ⟨c, hc⟩
      · exact h
      · cases hc), g4⟩
  have lent : ∀ bs l, lends (getH ⟨[], []⟩ s') bs = some l → ∃ D1 : Nat → Nat → Prop, (∀ b q, x'.D b q → D1 b q) ∧ (∀ b q, D1 b q → b < w'.heap.size) ∧ (∀ b q, D1 b q → b < w.heap.size → x'.D b q) ∧
      ∀ b ∈ bs, ∀ k (xs : List k.C) lt, getH ⟨[], []⟩ s' b = some (.arr k xs lt) → ∀ v, RL x' w' v (.own b) → PL w' D1 v (.list k xs) := by
    intro bs l hl
    obtain ⟨D1, e1, s1, p1, _⟩ := h5.lend bs l hl
    refine ⟨D1, e1.D, s1.dlt, fun b q h hlt => ?_, p1⟩
    rcases e1.dn b q (Nat.lt_of_lt_of_le hlt h2.evo.sz) h with h | ⟨c, hc⟩
    · exact h
    · obtain ⟨c', hc'⟩ := h2.evo.rn c b hlt hc
      cases hc'
  have plain : ∀ a, (need (fixA (getH ⟨[], []⟩ s') a) fun a => k (.val (.v a))) = some r → RA x' w' v a → ∃ res, k res = some r ∧ Ret w D res (.returned v) w' := by
    intro a ha hv
    obtain ⟨a', hfix, ha⟩ := need_some ha
    obtain ⟨l, hl⟩ := lends_of_fixA hfix
    obtain ⟨D1, g1, g2, g3, g4⟩ := lent _ l hl
    exact ⟨_, ha, base D1 _ g1 g2 g3 (hv.fixed hfix g1 g4)⟩
  split at h1
  · rename_i b
    split at h1
    · rename_i q xs hb
      have hH : getH ⟨[], []⟩ s' b = some (.arr q xs false) := by simp [getH, hb]
      obtain ⟨_, ob, g1, g2, g3, g4, g5, g6⟩ := own_row h5 h3.leaf hH
      refine ⟨_, h1, base x'.D _ (fun _ _ h => h) h5.dlt (fun _ _ h _ => h) ⟨ob, (x'.κ b).2, g4, g6, ?_⟩⟩
      have : x'.κ b = (xs.length, (x'.κ b).2) := by rw [← g3]
      rw [← this]
      exact Lies.ctx rfl g5
    · rename_i q xs hb
      have hH : getH ⟨[], []⟩ s' b = some (.arr q xs true) := by simp [getH, hb]
      obtain ⟨D1, g1, g2, g3, g4⟩ := lent [b] [(b, some (.arr q xs true))] (by simp [lends, lendOne, hH])
      exact ⟨_, h1, base D1 _ g1 g2 g3 ⟨_, rfl, RL.of_pl (g4 b (by simp) q xs true hH v h3.leaf)⟩⟩
    · cases h1
  · rename_i f g cap
    obtain ⟨⟨ps, ids⟩, hth, h1⟩ := need_some h1
    let D1 : Nat → Nat → Prop := fun b q => x'.D b q ∨ (w.heap.size ≤ b ∧ b < w'.heap.size)
    obtain ⟨vf, vc, g1, g2, g3⟩ := h3.leaf.closure
    have : vf = [] := by cases vf with | nil => rfl | cons => exact g2.elim
    subst this
    have g4 := thawPs_ok (D1 := D1) h5 (fun b q h => .inl h) (fun b q h h' => .inr ⟨h, h'⟩) g3 hth
    exact ⟨_, h1, base D1 _ (fun b q h => .inl h) (fun b q h => h.elim (fun h => h5.dlt b q h) fun h => h.2) (fun b q h hlt => h.elim id fun h => absurd hlt (by omega)) ⟨_, rfl, .inl (.inr ⟨_, _, _, _, rfl, [], vc, g1, trivial, g4⟩)⟩⟩
  · exact plain _ h1 h3
  · rename_i as
    obtain ⟨as', hfix, h1⟩ := need_some h1
    obtain ⟨l, hl⟩ := lends_of_fixAs _ hfix
    obtain ⟨D1, g1, g2, g3, g4⟩ := lent _ l hl
    obtain ⟨us, rfl, hus⟩ := h3
    exact ⟨_, h1, base D1 _ g1 g2 g3 ⟨us, rfl, RAs.fixed g1 hus hfix g4⟩⟩
end
end Go.Proofs.YtihhgenbkiollaaGreat

/- The abstract machine, part fi: an operation looks at its operands, and at the objects that it lists. No condition. -/
namespace Go.Proofs.YtihhgenbkiollaaGreat
open Go Go.RowKit
section
variable {R : Type} {Γ : Gam} {T T' : Nat → Option AVal} {H H' : Nat → Option Obj} {me : Nat} {o : Oper} {c : Eff → Option R}
theorem buildA_T {place : Nat → Option (Nat × Nat)} {k : List Leaf → Option R} : ∀ (ps : List (Nat × Operand)) (z : List Leaf), (∀ y ∈ ps.map (·.2), opnd T y = opnd T' y) → buildA z place T k ps = buildA z place T' k ps
  | [], z, _ => rfl
  | (i, y) :: r, z, h => by
    have h1 := h y (by simp)
    have h2 : ∀ z, buildA z place T k r = buildA z place T' k r := fun z => buildA_T r z fun y hy => h y (by simp at hy ⊢; exact .inr hy)
    simp only [buildA, h1, h2]
theorem opnds_T : ∀ (l : List Operand), (∀ y ∈ l, opnd T y = opnd T' y) → opnds T l = opnds T' l
  | [], _ => rfl
  | y :: r, h => by simp only [opnds, h y (by simp), opnds_T r fun y hy => h y (by simp [hy])]
theorem caps_T (l : List Operand) (h : ∀ y ∈ l, opnd T y = opnd T' y) : l.foldr (fun (y : Operand) (r : Option (List Loc)) => match opnd T y, r with | some (.v ⟨false, [.ptr p]⟩), some r => some (p :: r) | _, _ => none) (some []) =
    l.foldr (fun (y : Operand) (r : Option (List Loc)) => match opnd T' y, r with | some (.v ⟨false, [.ptr p]⟩), some r => some (p :: r) | _, _ => none) (some []) := by
  induction l with
  | nil => rfl
  | cons y r ih => simp only [List.foldr_cons, h y (by simp), ih fun y hy => h y (by simp [hy])]
theorem eff_T (h : ∀ y ∈ o.op.operands.toList, opnd T y = opnd T' y) : eff Γ T H me o c = eff Γ T' H me o c := by
  unfold eff
  dsimp only
  split
  all_goals
    first
    | rfl
    | (rename_i hop; rw [hop] at h; simp [Op.operands] at h; simp only [h]; done)
    | (rename_i hop; rw [hop] at h)
  · -- build
    rename_i t ps
    have hb : ∀ y ∈ ps.toList.map (·.2), opnd T y = opnd T' y := fun y hy => h y (by simpa [Op.operands] using hy)
    have hb2 : ∀ (place : Nat → Option (Nat × Nat)) (k : List Leaf → Option R) z, buildA z place T k ps.toList = buildA z place T' k ps.toList := fun place k z => buildA_T _ z hb
    simp only [hb2]
  · -- buildSlice
    rename_i t n ps
    have hb : ∀ y ∈ ps.toList.map (·.2), opnd T y = opnd T' y := fun y hy => h y (by simpa [Op.operands] using hy)
    have hb2 : ∀ (place : Nat → Option (Nat × Nat)) (k : List Leaf → Option R) z, buildA z place T k ps.toList = buildA z place T' k ps.toList := fun place k z => buildA_T _ z hb
    simp only [hb2]
  · -- makeFunc
    rename_i f first cap
    simp only [Op.operands, Array.toList_append, List.mem_append] at h
    have hc := caps_T cap.toList fun y hy => h y (.inr hy)
    split
    · exact congrArg (fun z => need z _) hc
    · rename_i y hy
      rw [h y (.inl (by rw [hy]; simp))]
      refine congrArg (asV _) (funext fun a => congrArg (fun z => cond _ z none) (congrArg (fun z => need z _) hc))
    · rfl
  · -- slice
    rename_i t y lo hi
    have hy := h y (by simp [Op.operands])
    have hlo : ∀ z, lo = some z → opnd T z = opnd T' z := fun z hz => h z (by simp [Op.operands, hz])
    have hhi : ∀ z, hi = some z → opnd T z = opnd T' z := fun z hz => h z (by simp [Op.operands, hz])
    simp only [hy]
    cases lo with
    | none => cases hi with
      | none => rfl
      | some z => simp only [hhi _ rfl]
    | some z => cases hi with
      | none => simp only [hlo _ rfl]
      | some z => simp only [hlo _ rfl, hhi _ rfl]
  · -- select
    rename_i cs
    split
    · rename_i q e hc
      have : cs = #[⟨q, none, e⟩] := by apply Array.ext'; simpa using hc
      rw [h q (by rw [this]; simp [Op.operands])]
    · rfl
  · -- call
    rename_i b args ts
    have ha : ∀ y ∈ args.toList, opnd T y = opnd T' y := fun y hy => h y (by simp only [Op.operands, Call.operands, Array.toList_append, List.mem_append]; exact .inr hy)
    split
    · rename_i y hy
      rw [ha y (by rw [hy]; simp)]
    · rename_i y r hy
      rw [ha y (by rw [hy]; simp), opnds_T r fun z hz => ha z (by rw [hy]; simp [hz])]
    · rename_i y r hy
      rw [ha y (by rw [hy]; simp), opnds_T r fun z hz => ha z (by rw [hy]; simp [hz])]
    · rename_i y z hy
      rw [ha y (by rw [hy]; simp), ha z (by rw [hy]; simp)]
    · rfl
end
end Go.Proofs.YtihhgenbkiollaaGreat

/- The abstract machine, part fj: an operation looks at no objects but those that it lists. No condition. -/
namespace Go.Proofs.YtihhgenbkiollaaGreat
open Go Go.RowKit
section
variable {R : Type} {Γ : Gam} {T : Nat → Option AVal} {H H' : Nat → Option Obj} {me : Nat} {o : Oper}
theorem ownsL_cons (l : Leaf) (r : List Leaf) : ownsL (l :: r) = ownsL [l] ++ ownsL r := by cases l <;> rfl
theorem fixL_H {l : Leaf} (h : ∀ b ∈ ownsL [l], H' b = H b) : fixL H' l = fixL H l := by
  cases l with
  | own b =>
    have h1 : H' b = H b := h b (by simp [ownsL])
    simp only [fixL, h1]
  | _ => rfl
theorem fixLs_H : ∀ (ls : List Leaf) (_ : ∀ b ∈ ownsL ls, H' b = H b), fixLs H' ls = fixLs H ls
  | [], _ => rfl
  | l :: r, h => by
    rw [ownsL_cons] at h
    have h1 : fixL H' l = fixL H l := fixL_H fun b hb => h b (by simp [hb])
    have h2 := fixLs_H r fun b hb => h b (by simp [hb])
    simp only [fixLs, h1, h2]
theorem lends_H : ∀ (bs : List Nat) (_ : ∀ b ∈ bs, H' b = H b), lends H' bs = lends H bs
  | [], _ => rfl
  | b :: r, h => by
    have h1 := h b (by simp)
    have h2 := lends_H r fun c hc => h c (by simp [hc])
    simp only [lends, lendOne, h1, h2]
theorem fixA_H {a : AV} (h : ∀ b ∈ ownsL a.ls, H' b = H b) : fixA H' a = fixA H a := by simp only [fixA, fixLs_H _ h]
theorem fixAs_H : ∀ (as : List AV) (_ : ∀ b ∈ ownsA as, H' b = H b), fixAs H' as = fixAs H as
  | [], _ => rfl
  | a :: r, h => by
    have h1 : fixA H' a = fixA H a := fixA_H fun b hb => h b (by simp [ownsA, hb])
    have h2 := fixAs_H r fun b hb => h b (by simp [ownsA, hb])
    simp only [fixAs, h1, h2]
theorem rdLoc_H {p : Loc} {n : Nat} {k : List Leaf → List Nat → Option Eff} {r : Eff} (h : rdLoc H p n k = some r) (hk : ∀ ls rd, k ls rd = some r → r.rd = rd) (hH : ∀ b ∈ r.rd, H' b = H b) : rdLoc H' p n k = some r := by
  unfold rdLoc at h ⊢
  cases p with
  | box b o =>
    dsimp only at h ⊢
    split at h
    · rename_i ls hb
      have h1 := (cond_some h).2
      rw [hH b (by rw [hk _ _ h1]; simp), hb]; exact h
    · cases h
  | elt q xs i o => exact h
  | arr b q i o =>
    dsimp only at h ⊢
    split at h
    · rename_i q' xs lt hb
      split at h
      · rename_i ys hy
        have h1 := (cond_some h).2
        rw [hH b (by rw [hk _ _ h1]; simp), hb]
        simp only [hy]; exact h
      · cases h
    · cases h
theorem lenOf_H {td : TD} {l : Leaf} {k : Nat → List Nat → Option Eff} {r : Eff} (h : lenOf td H l k = some r) (hk : ∀ n rd, k n rd = some r → r.rd = rd) (hH : ∀ b ∈ r.rd, H' b = H b) : lenOf td H' l k = some r := by
  unfold lenOf at h ⊢
  split at h
  · exact h
  · exact h
  · split at h
    · rename_i q xs lt hb
      rw [hH _ (by rw [hk _ _ h]; simp), hb]; exact h
    · cases h
  · exact h
  · cases h
theorem asElems_rd {q : Kd} {l : Leaf} {k : List q.C → List Nat → Option Eff} {r : Eff} (h : asElems H q l k = some r) : ∃ ys rd, k ys rd = some r ∧ ((∀ b ∈ rd, H' b = H b) → asElems H' q l k = some r) := by
  unfold asElems at h ⊢
  split at h
  · rename_i b
    split at h
    · rename_i q' xs lt hb
      split at h
      · rename_i ys hy
        refine ⟨ys, [b], h, fun hH => ?_⟩
        rw [hH b (by simp), hb]; simp only [hy]; exact h
      · cases h
    · cases h
  · rename_i l hl
    split at h
    · rename_i xs hx
      exact ⟨xs, [], h, fun _ => h⟩
    · cases h
theorem need_imp {α : Type} {x : Option α} {k k' : α → Option R} {r : R} (hk : ∀ a, k a = some r → k' a = some r) (h : need x k = some r) : need x k' = some r := by
  cases x with
  | none => cases h
  | some a => exact hk a h
theorem cond_imp {b : Bool} {k k' : Option R} {r : R} (hk : k = some r → k' = some r) (h : cond b k none = some r) : cond b k' none = some r := by
  cases b with
  | false => cases h
  | true => exact hk h
theorem asOne_imp {x : Option AVal} {k k' : Leaf → Option R} {r : R} (hk : ∀ a, k a = some r → k' a = some r) (h : asOne x k = some r) : asOne x k' = some r := by
  obtain ⟨l, hl, h⟩ := asOne_some h
  rw [hl]; exact hk l h
theorem asInt_imp {x : Option AVal} {k k' : IntKind → Int → Option R} {r : R} (hk : ∀ a n, k a n = some r → k' a n = some r) (h : asInt x k = some r) : asInt x k' = some r := by
  obtain ⟨q, n, hl, h⟩ := asInt_some h
  rw [hl]; exact hk q n h
theorem asV_imp {x : Option AVal} {k k' : AV → Option R} {r : R} (hk : ∀ a, k a = some r → k' a = some r) (h : asV x k = some r) : asV x k' = some r := by
  obtain ⟨l, hl, h⟩ := asV_some h
  rw [hl]; exact hk l h
theorem asPtr_imp {x : Option AVal} {k k' : Loc → Option R} {r : R} (hk : ∀ a, k a = some r → k' a = some r) (h : asPtr x k = some r) : asPtr x k' = some r := by
  obtain ⟨l, hl, h⟩ := asPtr_some h
  rw [hl]; exact hk l h
theorem buildA_imp {place : Nat → Option (Nat × Nat)} {k k' : List Leaf → Option R} {r : R} (hk : ∀ ls, k ls = some r → k' ls = some r) : ∀ (ps : List (Nat × Operand)) (z : List Leaf), buildA z place T k ps = some r → buildA z place T k' ps = some r
  | [], z, h => hk z h
  | (i, y) :: ps, z, h => by
    simp only [buildA] at h ⊢
    split at h
    · exact cond_imp (buildA_imp hk ps _) h
    · cases h
set_option maxHeartbeats 4000000 in
theorem eff_H {ef : Eff} (h : eff Γ T H me o some = some ef) (hH : ∀ b ∈ ef.rd, H' b = H b) : eff Γ T H' me o some = some ef := by
  unfold eff at h ⊢
  dsimp only at h ⊢
  split at h
  all_goals
    rename_i ho
    try rw [ho]
    try dsimp only at h ⊢
    try (exact h)
  · -- buildSlice
    refine need_imp (fun i h => ?_) h
    split at h
    · refine need_imp (fun ei h => cond_imp (buildA_imp (fun ls h => ?_) _ _) h) h
      have key : ∀ b ∈ ownsL ls, H' b = H b := by
        obtain ⟨ls', h1, h⟩ := need_some h
        obtain ⟨lent, h2, h⟩ := need_some h
        obtain ⟨xs, h3, h⟩ := need_some h
        cases h
        exact hH
      rw [fixLs_H _ key, lends_H _ key]
      exact h
    · cases h
  · -- load
    exact need_imp (fun i => asPtr_imp fun p h => rdLoc_H h (by rintro ls rd h; cases h; rfl) hH) h
  · -- store
    refine need_imp (fun i => asPtr_imp fun p => asV_imp fun v => cond_imp fun h => ?_) h
    split at h
    · rename_i b off
      split at h
      · rename_i ls hb
        have : H' b = H b := hH b (by have h := (cond_some h).2; cases h; simp)
        simp only [this, hb]; exact h
      · cases h
    · rename_i b q j off
      split at h
      · rename_i q' xs hb
        split at h
        · rename_i ys hy
          obtain ⟨hc, h1⟩ := cond_some h
          simp only [Bool.and_eq_true, List.isEmpty_iff] at hc
          have : H' b = H b := hH b (by obtain ⟨_, _, h⟩ := need_some h1; obtain ⟨_, _, h⟩ := need_some h; cases h; simp)
          have hf : fixLs H' v.ls = fixLs H v.ls := fixLs_H v.ls fun c hc' => by rw [hc.2] at hc'; cases hc'
          simp only [this, hb, hy, hf]
          exact h
        · cases h
      · cases h
    · cases h
  · -- indexAddr
    refine need_imp (fun i => asInt_imp fun q n h => ?_) h
    split at h
    · exact h
    · refine need_imp (fun ei => cond_imp (asOne_imp fun l h => ?_)) h
      split at h
      · rename_i b
        split at h
        · rename_i q' xs lt hb
          have : H' b = H b := hH b (by have h := (cond_some (cond_some h).2).2; cases h; simp)
          simp only [this, hb]; exact h
        · cases h
      · exact h
    · cases h
  · -- insert
    refine need_imp (fun i h => ?_) h
    split at h
    · refine asOne_imp (fun l h => ?_) h
      split at h
      · rename_i b
        refine asInt_imp (fun k n => asOne_imp fun l h => ?_) h
        split at h
        · rename_i es hb
          have : H' b = H b := hH b (by have h := (cond_some h).2; cases h; simp)
          rw [this, hb]; exact h
        · cases h
      · cases h
    · cases h
  · -- lookup
    refine need_imp (fun i h => ?_) h
    split at h
    · refine asOne_imp (fun l h => ?_) h
      split at h
      · rename_i b
        refine asInt_imp (fun k n h => ?_) h
        split at h
        · rename_i es hb
          have key : ∀ es, lookM (R := Eff) ⟨false, [Leaf.nilf]⟩ (fun v => some ⟨some v, [], [b]⟩) n es = some ef → ef.rd = [b] := by
            intro es
            induction es with
            | nil => intro h; cases h; rfl
            | cons e es ih =>
              obtain ⟨m, l⟩ := e
              intro h
              simp only [lookM] at h
              cases hm : (n == m) with
              | true => rw [hm] at h; cases h; rfl
              | false => rw [hm] at h; exact ih h
          have : H' b = H b := hH b (by rw [key es h]; simp)
          rw [this, hb]; exact h
        · cases h
      · cases h
    · cases h
  · -- send
    refine asOne_imp (fun l h => ?_) h
    split at h
    · rename_i b
      refine asV_imp (fun a h => ?_) h
      split at h
      · rename_i hb
        have : H' b = H b := hH b (by cases h; simp)
        rw [this, hb]; exact h
      · cases h
    · cases h
  · -- select
    split at h
    · rename_i q e hc
      refine need_imp (fun i => asOne_imp fun l h => ?_) h
      split at h
      · rename_i b
        split at h
        · rename_i a hb
          have : H' b = H b := hH b (by cases h; simp)
          rw [this, hb]; exact h
        · rename_i hb
          have : H' b = H b := hH b (by cases h; simp)
          rw [this, hb]; exact h
        · cases h
      · cases h
    · cases h
  · -- builtins
    split at h
    · exact need_imp (fun t => need_imp fun i => asOne_imp fun l h => lenOf_H h (by rintro n rd h; cases h; rfl) hH) h
    · exact h
    · exact h
    · split at h
      · refine need_imp (fun i => need_imp fun i' h => ?_) h
        split at h
        · refine need_imp (fun ei => cond_imp (asOne_imp fun l2 h => ?_)) h
          obtain ⟨ys, rd, h1, h2⟩ := asElems_rd (H' := H') h
          obtain ⟨l, hl, h1⟩ := asOne_some h1
          split at h1
          · obtain ⟨_, h1⟩ := cond_some h1
            have hrd : ef.rd = rd := by
              cases he : ys.isEmpty with
              | true => rw [he] at h1; cases h1; rfl
              | false => rw [he] at h1; cases h1; rfl
            have h3 := h2 fun b hb => hH b (by rw [hrd]; exact hb)
            rw [hl] at h3 ⊢
            exact h3
          · rename_i b
            split at h1
            · rename_i q xs lt hb
              split at h1
              · rename_i zs hz
                have h1 := (cond_some h1).2
                have hrd : ef.rd = b :: rd := by cases h1; rfl
                have h3 := h2 fun c hc => hH c (by rw [hrd]; exact List.mem_cons_of_mem _ hc)
                have : H' b = H b := hH b (by rw [hrd]; simp)
                rw [hl] at h3 ⊢
                refine Eq.trans (congrArg (asElems H' _ l2) (funext fun ys => funext fun rd => ?_)) h3
                simp only [asOne, AVal.l, this]
              · cases h1
            · cases h1
          · cases h1
        · cases h
      · cases h
    · cases h
end
end Go.Proofs.YtihhgenbkiollaaGreat

/- The abstract machine, part fk: what an operation did, whatever ran ahead of it. No condition. -/
namespace Go.Proofs.YtihhgenbkiollaaGreat
open Go Go.RowKit
section
variable {P : Program} {Γ : Gam} {B : Nat} {w0 : World} {N : Nat} {T T' : Nat → Option AVal} {H H' : Nat → Option Obj} {x : Cx} {a : Act} {w : World} {me : Nat} {o : Oper} {ops : Array Oper}
abbrev allOf (w : World) : Nat → Nat → Prop := fun b _ => b < w.heap.size
theorem frozen_ok (s : Sim B w0 N T H x a w) (hd : ∀ d, o.dst = some d → d < N) {g : FuncId} {vs : List Value} {args : List AV} (hvs : Rs (RA x w) vs args) (hrun : (execOp a.eval o).run P w = .ok (.enter g vs.toArray) w)
    {args' : List AV} {rd : List Nat} {k : IntKind} {n : Int} (ht : thawAs H args = some (args', rd)) (hval : Valid P g args' (.val (.l (.int k n)))) : OpOk P B w0 N T H x a w me 1 o ⟨some (.l (.int k n)), [], rd⟩ := by
  have hcall := hval w (allOf w) vs (fun _ _ h => h) (thawAs_ok s (fun b q h => s.dlt b q h) (fun b q _ h => h) hvs ht)
  refine does_enter hrun (hcall.mono fun e w' => ?_)
  rintro ⟨v, rfl, hb, D', d1, d2, d3, hans⟩
  obtain ⟨e2, s2⟩ := Post.call (D' := x.D) s hb (fun _ _ h => h) (fun b q h => Nat.lt_of_lt_of_le (s.dlt b q h) hb.size) (fun _ _ h _ => h)
  refine ⟨v, rfl, x, e2, fun _ _ => rfl, s2.put hd fun u' hu' => ?_⟩
  cases hu'
  obtain ⟨l, h1, h2⟩ := hans
  cases h1
  have h2 := h2.int
  subst h2
  exact ⟨_, rfl, RL.of_pl (.int k n)⟩
/-! is an operation wanted? -/
def wantA (ops : Array Oper) (T : Nat → Option AVal) (o : Oper) : Option Bool :=
  match o.guard with
  | none => some true
  | some (j, want) => match (ops[j]?).bind (·.dst) with
    | some t => match T t with | some (.v ⟨false, [.bool b]⟩) => some (b == want) | some (.tup []) => some false | _ => none
    | none => none
theorem wantA_ok (sim : Sim B w0 N T H x a w) {b : Bool} (h : wantA ops T o = some b) : Region.wanted o (yielded ops a.tmps) = b := by
  unfold wantA at h
  split at h
  · rename_i hg; cases h; simp [Region.wanted, hg]
  · rename_i j want hg
    split at h
    · rename_i t ht
      split at h
      · rename_i b hb
        have hv := (sim.tmps t _ hb).leaf.bool
        have hlt : t < a.tmps.size := by
          rcases Nat.lt_or_ge t a.tmps.size with hlt | hge
          · exact hlt
          · rw [Array.getD_eq_getD_getElem?, Array.getElem?_eq_none hge] at hv; cases hv
        have hy : yielded ops a.tmps j = some b := by
          have h1 : a.tmps[t]? = some (.bool b) := by
            rw [Array.getD_eq_getD_getElem?] at hv
            rw [Array.getElem?_eq_getElem hlt] at hv ⊢
            exact congrArg some hv
          simp only [yielded, ht, Option.bind_some, h1]
        cases h
        simp [Region.wanted, hg, hy]
      · rename_i hb
        have hv := sim.tmps t _ hb
        obtain ⟨vs, h1, h2⟩ := hv
        have hvs : vs = [] := by cases vs with | nil => rfl | cons => exact h2.elim
        subst hvs
        cases h
        have hy : yielded ops a.tmps j = none := by
          simp only [yielded, ht, Option.bind_some]
          cases hq : a.tmps[t]? with
          | none => rfl
          | some v =>
            rw [Array.getD_eq_getD_getElem?, hq] at h1
            have h1 : v = .tuple #[] := h1
            rw [h1]
        simp [Region.wanted, hg, hy]
      · cases h
    · cases h
theorem guarded_some {R : Type} {e : Env} {s : St} {run skip : St → Option R} {r : R} (h : guarded ops e s o run skip = some r) :
    ∃ s', getT e s' = getT e s ∧ getH e s' = getH e s ∧ ((wantA ops (getT e s) o = some true ∧ run s' = some r) ∨ (wantA ops (getT e s) o = some false ∧ skip s' = some r)) := by
  unfold guarded at h
  split at h
  · rename_i hg
    exact ⟨s, rfl, rfl, .inl ⟨by simp [wantA, hg], h⟩⟩
  · rename_i j want hg
    split at h
    · rename_i t ht
      split at h
      · rename_i b hb
        have hw : wantA ops (getT e s) o = some (b == want) := by simp [wantA, hg, ht, hb]
        refine ⟨{ s with tm := (t, some (.l (.bool b))) :: s.tm }, getT_same hb, rfl, ?_⟩
        rw [hw]
        cases b <;> cases want <;> first | exact .inl ⟨rfl, h⟩ | exact .inr ⟨rfl, h⟩
      · rename_i hb
        exact ⟨s, rfl, rfl, .inr ⟨by simp [wantA, hg, ht, hb], h⟩⟩
      · cases h
    · cases h
/-! what an operation did -/
inductive Did (P : Program) (Γ : Gam) (ops : Array Oper) (T : Nat → Option AVal) (H : Nat → Option Obj) (me : Nat) (o : Oper) : Option Eff → Prop
  | skip : wantA ops T o = some false → Did P Γ ops T H me o none
  | eff {ef : Eff} : wantA ops T o = some true → eff Γ T H me o some = some ef → Did P Γ ops T H me o (some ef)
  | call {g : FuncId} {as args' : List AV} {lent : List (Nat × Option Obj)} {res : CRes} : wantA ops T o = some true → callee T o (fun g as => some (g, as)) none = some (g, as) → Enters P g → fixAs H as = some args' → lends H (ownsA as) = some lent → Valid P g args' res →
      Did P Γ ops T H me o (some (effOf me lent (ownsA as) res))
  | frozen {g : FuncId} {as args' : List AV} {rd : List Nat} {k : IntKind} {n : Int} : wantA ops T o = some true → callee T o (fun g as => some (g, as)) none = some (g, as) → Enters P g → thawAs H as = some (args', rd) → Valid P g args' (.val (.l (.int k n))) →
      Did P Γ ops T H me o (some ⟨some (.l (.int k n)), [], rd⟩)
theorem callee_pair {R : Type} {c : FuncId → List AV → Option R} {other : Option R} {r : R} (h : callee T o c other = some r) :
    (∃ g as, callee T o (fun g as => some (g, as)) none = some (g, as) ∧ c g as = some r) ∨ other = some r := by
  unfold callee at h ⊢
  split at h
  · rename_i f args ts ho
    simp only [ho]
    obtain ⟨us, hus, h⟩ := need_some h
    obtain ⟨as, has, h⟩ := need_some h
    obtain ⟨l, hl, h⟩ := asOne_some h
    refine .inl ?_
    simp only [hus, need, has, hl]
    split at h
    · exact ⟨_, _, rfl, h⟩
    · exact ⟨_, _, rfl, h⟩
    · cases h
  · exact .inr h
theorem Did.ok (hΓ : GamOk P Γ) (s : Sim B w0 N T H x a w) (hd : ∀ d, o.dst = some d → d < N) (hf : x.ρ me = none) {ef : Option Eff} (h : Did P Γ ops T H me o ef) :
    match ef with
    | none => Region.wanted o (yielded ops a.tmps) = false
    | some ef => Region.wanted o (yielded ops a.tmps) = true ∧ OpOk P B w0 N T H x a w me 1 o ef := by
  cases h with
  | skip h => exact wantA_ok s h
  | eff h1 h2 => exact ⟨wantA_ok s h1, eff_ok hΓ s hd hf h2⟩
  | call h1 h2 h3 h4 h5 h6 =>
    refine ⟨wantA_ok s h1, ?_⟩
    rcases callee_ok (P := P) s h2 with ⟨g', as', vs, he, hvs, hrun⟩ | he
    · cases he; exact callBy_ok s hd hf hvs (hrun h3) h4 h5 h6
    · cases he
  | frozen h1 h2 h3 h4 h5 =>
    refine ⟨wantA_ok s h1, ?_⟩
    rcases callee_ok (P := P) s h2 with ⟨g', as', vs, he, hvs, hrun⟩ | he
    · cases he; exact frozen_ok s hd hvs (hrun h3) h4 h5
    · cases he
end
end Go.Proofs.YtihhgenbkiollaaGreat

/- The abstract machine, part fl: regions that draw their order. No condition. -/
namespace Go.Proofs.YtihhgenbkiollaaGreat
open Go Go.RowKit
section
variable {P : Program} {Γ : Gam} {T T' : Nat → Option AVal} {H H' : Nat → Option Obj} {me : Nat} {o : Oper} {ops : Array Oper}
/-! what an operation looks at -/
theorem thawP_H {p p' : Loc} {rd : List Nat} (h : thawP H p = some (p', rd)) (hH : ∀ b ∈ rd, H' b = H b) : thawP H' p = some (p', rd) := by
  unfold thawP at h ⊢
  split at h
  · rename_i b o
    split at h
    · rename_i ls hb
      have : rd = [b] := by
        split at h
        · split at h
          · cases h; rfl
          · cases h
        · cases h
      rw [hH b (by rw [this]; simp), hb]; exact h
    · cases h
  · exact h
  · cases h
theorem thawPs_H : ∀ {ps ps' : List Loc} {rd : List Nat}, thawPs H ps = some (ps', rd) → (∀ b ∈ rd, H' b = H b) → thawPs H' ps = some (ps', rd)
  | [], _, _, h, _ => h
  | p :: ps, ps', rd, h, hH => by
    simp only [thawPs] at h ⊢
    split at h
    · rename_i y b ys bs h1 h2
      cases h
      rw [thawP_H h1 fun c hc => hH c (by simp [hc]), thawPs_H h2 fun c hc => hH c (by simp [hc])]
    · cases h
theorem thawL_H {l l' : Leaf} {rd : List Nat} (h : thawL H l = some (l', rd)) (hH : ∀ b ∈ rd, H' b = H b) : thawL H' l = some (l', rd) := by
  unfold thawL at h ⊢
  split at h
  · split at h
    · rename_i hp; cases h; rw [thawP_H hp hH]
    · cases h
  · split at h
    · rename_i hp; cases h; rw [thawPs_H hp hH]
    · cases h
  · exact h
theorem thawLs_H : ∀ {ps ps' : List Leaf} {rd : List Nat}, thawLs H ps = some (ps', rd) → (∀ b ∈ rd, H' b = H b) → thawLs H' ps = some (ps', rd)
  | [], _, _, h, _ => h
  | p :: ps, ps', rd, h, hH => by
    simp only [thawLs] at h ⊢
    split at h
    · rename_i y b ys bs h1 h2
      cases h
      rw [thawL_H h1 fun c hc => hH c (by simp [hc]), thawLs_H h2 fun c hc => hH c (by simp [hc])]
    · cases h
theorem thawAs_H : ∀ {ps ps' : List AV} {rd : List Nat}, thawAs H ps = some (ps', rd) → (∀ b ∈ rd, H' b = H b) → thawAs H' ps = some (ps', rd)
  | [], _, _, h, _ => h
  | p :: ps, ps', rd, h, hH => by
    simp only [thawAs] at h ⊢
    split at h
    · rename_i y b ys bs h1 h2
      cases h
      rw [thawLs_H h1 fun c hc => hH c (by simp [hc]), thawAs_H h2 fun c hc => hH c (by simp [hc])]
    · cases h
/-- two states that agree on these slots and objects -/
def Agree (l : List Nat) (T T' : Nat → Option AVal) (H H' : Nat → Option Obj) : Prop := (∀ t, 2 * t ∈ l → T' t = T t) ∧ (∀ b, 2 * b + 1 ∈ l → H' b = H b)
theorem tmpsOf_mem {t : Nat} : ∀ {l : List Operand}, .tmp t ∈ l → 2 * t ∈ tmpsOf l
  | [], h => by cases h
  | y :: l, h => by
    cases h with
    | head => simp [tmpsOf]
    | tail _ h => have := tmpsOf_mem h; cases y <;> simp [tmpsOf, this]
theorem objsOf_mem {t : Nat} : ∀ {l : List Nat}, t ∈ l → 2 * t + 1 ∈ objsOf l
  | [], h => by cases h
  | y :: l, h => by
    cases h with
    | head => simp [objsOf]
    | tail _ h => have := objsOf_mem h; simp [objsOf, this]
theorem laidOf_mem {t : Nat} {q : Option Obj} : ∀ {l : List (Nat × Option Obj)}, lk t l = some q → 2 * t + 1 ∈ laidOf l
  | [], h => by cases h
  | (b, y) :: l, h => by
    simp only [lk] at h
    cases he : Nat.beq b t with
    | true => cases beq_eq he; simp [laidOf]
    | false => rw [he] at h; have := laidOf_mem (l := l) h; simp [laidOf, this]
theorem callee_T {R : Type} {c : FuncId → List AV → Option R} {other : Option R} (h : ∀ y ∈ o.op.operands.toList, opnd T y = opnd T' y) : callee T o c other = callee T' o c other := by
  unfold callee
  split
  · rename_i f args ts ho
    rw [ho] at h
    have hf := h f (by simp [Op.operands, Call.operands])
    have ha := opnds_T args.toList fun y hy => h y (by simp only [Op.operands, Call.operands, Array.toList_append, List.mem_append]; exact .inr hy)
    rw [hf, ha]
  · rfl
theorem wantA_T (h : ∀ j w t, o.guard = some (j, w) → (ops[j]?).bind (·.dst) = some t → T' t = T t) : wantA ops T' o = wantA ops T o := by
  unfold wantA
  split
  · rfl
  · rename_i j want hg
    split
    · rename_i t ht; rw [h j want t hg ht]
    · rfl
theorem Did.transfer {ef : Option Eff} (h : Did P Γ ops T H me o ef) (ha : Agree (TE.rd ops ⟨o, ef⟩) T T' H H') : Did P Γ ops T' H' me o ef := by
  have hw : wantA ops T' o = wantA ops T o := wantA_T fun j w t hg ht => ha.1 t (by simp only [TE.rd, hg, ht]; simp)
  have hop : ∀ e, ef = some e → ∀ y ∈ o.op.operands.toList, opnd T y = opnd T' y := by
    rintro e rfl y hy
    cases y with
    | tmp t => exact (ha.1 t (by simp only [TE.rd]; exact List.mem_append_right _ (List.mem_append_left _ (tmpsOf_mem hy)))).symm
    | _ => rfl
  have hob : ∀ e, ef = some e → ∀ b ∈ e.rd, H' b = H b := by
    rintro e rfl b hb
    exact ha.2 b (by simp only [TE.rd]; exact List.mem_append_right _ (List.mem_append_right _ (objsOf_mem hb)))
  cases h with
  | skip h => exact .skip (hw.trans h)
  | eff h1 h2 => exact .eff (hw.trans h1) (by rw [← eff_T (hop _ rfl)]; exact eff_H h2 (hob _ rfl))
  | call h1 h2 h3 h4 h5 h6 =>
    rename_i g as args' lent res
    have hob' : ∀ b ∈ ownsA as, H' b = H b := fun b hb => hob _ rfl b (by cases res <;> exact hb)
    exact .call (hw.trans h1) (by rw [← callee_T (hop _ rfl)]; exact h2) h3 (by rw [fixAs_H _ hob']; exact h4) (by rw [lends_H _ hob']; exact h5) h6
  | frozen h1 h2 h3 h4 h5 => exact .frozen (hw.trans h1) (by rw [← callee_T (hop _ rfl)]; exact h2) h3 (thawAs_H h4 (hob _ rfl)) h5
/-! the trail of a run in the rows' order -/
def TE.val (t : TE) : Option AVal := match t.ef with | some ef => ef.val | none => some (.tup [])
def TE.hp (t : TE) : List (Nat × Option Obj) := match t.ef with | some ef => ef.hp | none => []
/-- the slots behind those operations that are in S -/
def fT (S : Nat → Bool) : Nat → List TE → (Nat → Option AVal) → Nat → Option AVal
  | _, [], T => T
  | i, t :: r, T => fT S (i + 1) r (if S i = true then updT T t.o.dst t.val else T)
def fH (S : Nat → Bool) : Nat → List TE → (Nat → Option Obj) → Nat → Option Obj
  | _, [], H => H
  | i, t :: r, H => fH S (i + 1) r (if S i = true then updH H t.hp else H)
theorem fT_agree {S S' : Nat → Bool} {u : Nat} : ∀ (l : List TE) (n : Nat) (T T' : Nat → Option AVal), T u = T' u → (∀ j q, l[j]? = some q → S (n + j) = S' (n + j) ∨ q.o.dst ≠ some u) → fT S n l T u = fT S' n l T' u
  | [], _, _, _, h, _ => h
  | t :: l, n, T, T', h, hj => by
    refine fT_agree l (n + 1) _ _ ?_ fun j q hq => by have := hj (j + 1) q (by simpa using hq); rwa [show n + (j + 1) = n + 1 + j by omega] at this
    rcases hj 0 t rfl with h0 | h0
    · simp only [Nat.add_zero] at h0
      rw [h0]
      split
      · simp only [updT]; split
        · rfl
        · exact h
      · exact h
    · have : ∀ (T : Nat → Option AVal), updT T t.o.dst t.val u = T u := fun T => by simp only [updT, if_neg h0]
      split <;> split <;> simp only [this, h]
theorem fH_agree {S S' : Nat → Bool} {u : Nat} : ∀ (l : List TE) (n : Nat) (H H' : Nat → Option Obj), H u = H' u → (∀ j q, l[j]? = some q → S (n + j) = S' (n + j) ∨ lk u q.hp = none) → fH S n l H u = fH S' n l H' u
  | [], _, _, _, h, _ => h
  | t :: l, n, H, H', h, hj => by
    refine fH_agree l (n + 1) _ _ ?_ fun j q hq => by have := hj (j + 1) q (by simpa using hq); rwa [show n + (j + 1) = n + 1 + j by omega] at this
    rcases hj 0 t rfl with h0 | h0
    · simp only [Nat.add_zero] at h0
      rw [h0]
      split
      · simp only [updH, h]
      · exact h
    · have : ∀ (H : Nat → Option Obj), updH H t.hp u = H u := fun H => by simp only [updH, h0]
      split <;> split <;> simp only [this, h]
theorem fT_last {S : Nat → Bool} {u : Nat} : ∀ (l : List TE) (n m : Nat) (T : Nat → Option AVal) (q : TE), l[m]? = some q → S (n + m) = true → q.o.dst = some u → (∀ j q', m < j → l[j]? = some q' → S (n + j) = true → q'.o.dst ≠ some u) → fT S n l T u = q.val
  | [], _, _, _, _, h, _, _, _ => by simp at h
  | t :: l, n, 0, T, q, h, hs, hd, hj => by
    simp only [List.getElem?_cons_zero, Option.some.injEq] at h
    subst h
    simp only [Nat.add_zero] at hs
    have := fT_agree (S := S) (S' := fun _ => false) (u := u) l (n + 1) (updT T t.o.dst t.val) (updT T t.o.dst t.val) rfl fun j q hq => by
      cases hsj : S (n + 1 + j) with
      | false => exact .inl rfl
      | true => exact .inr (hj (j + 1) q (by omega) (by simpa using hq) (by rw [show n + (j + 1) = n + 1 + j by omega]; exact hsj))
    have none : ∀ (l : List TE) (n : Nat) (T : Nat → Option AVal), fT (fun _ => false) n l T = T := by
      intro l
      induction l with
      | nil => intros; rfl
      | cons t l ih => intro n T; simp only [fT]; exact ih _ _
    simp only [fT, hs, if_true]
    rw [this, none]
    simp only [updT, hd, if_true]
  | t :: l, n, m + 1, T, q, h, hs, hd, hj => by
    simp only [fT]
    exact fT_last l (n + 1) m _ q (by simpa using h) (by rw [show n + 1 + m = n + (m + 1) by omega]; exact hs) hd fun j q' hlt hq hs' => hj (j + 1) q' (by omega) (by simpa using hq) (by rw [show n + (j + 1) = n + 1 + j by omega]; exact hs')
theorem fH_last {S : Nat → Bool} {u : Nat} {v : Option Obj} : ∀ (l : List TE) (n m : Nat) (H : Nat → Option Obj) (q : TE), l[m]? = some q → S (n + m) = true → lk u q.hp = some v → (∀ j q', m < j → l[j]? = some q' → S (n + j) = true → lk u q'.hp = none) → fH S n l H u = v
  | [], _, _, _, _, h, _, _, _ => by simp at h
  | t :: l, n, 0, T, q, h, hs, hd, hj => by
    simp only [List.getElem?_cons_zero, Option.some.injEq] at h
    subst h
    simp only [Nat.add_zero] at hs
    have := fH_agree (S := S) (S' := fun _ => false) (u := u) l (n + 1) (updH T t.hp) (updH T t.hp) rfl fun j q hq => by
      cases hsj : S (n + 1 + j) with
      | false => exact .inl rfl
      | true => exact .inr (hj (j + 1) q (by omega) (by simpa using hq) (by rw [show n + (j + 1) = n + 1 + j by omega]; exact hsj))
    have none : ∀ (l : List TE) (n : Nat) (T : Nat → Option Obj), fH (fun _ => false) n l T = T := by
      intro l
      induction l with
      | nil => intros; rfl
      | cons t l ih => intro n T; simp only [fH]; exact ih _ _
    simp only [fH, hs, if_true]
    rw [this, none]
    simp only [updH, hd]
  | t :: l, n, m + 1, T, q, h, hs, hd, hj => by
    simp only [fH]
    exact fH_last l (n + 1) m _ q (by simpa using h) (by rw [show n + 1 + m = n + (m + 1) by omega]; exact hs) hd fun j q' hlt hq hs' => hj (j + 1) q' (by omega) (by simpa using hq) (by rw [show n + (j + 1) = n + 1 + j by omega]; exact hs')
/-- each operation did what it says, behind those ahead of it -/
def Trail (P : Program) (Γ : Gam) (ops : Array Oper) : List TE → Nat → (Nat → Option AVal) → (Nat → Option Obj) → Prop
  | [], _, _, _ => True
  | t :: r, me, T, H => Did P Γ ops T H me t.o t.ef ∧ Trail P Γ ops r (me + 1) (updT T t.o.dst t.val) (updH H t.hp)
theorem fT_upto : ∀ (l : List TE) (n : Nat) (T : Nat → Option AVal) (i : Nat), i ≤ n → fT (fun j => decide (j < i)) n l T = T
  | [], _, _, _, _ => rfl
  | t :: l, n, T, i, h => by
    simp only [fT]
    rw [if_neg (by simp; omega)]
    exact fT_upto l (n + 1) T i (by omega)
theorem fH_upto : ∀ (l : List TE) (n : Nat) (T : Nat → Option Obj) (i : Nat), i ≤ n → fH (fun j => decide (j < i)) n l T = T
  | [], _, _, _, _ => rfl
  | t :: l, n, T, i, h => by
    simp only [fH]
    rw [if_neg (by simp; omega)]
    exact fH_upto l (n + 1) T i (by omega)
theorem Trail.at_ : ∀ (l : List TE) (n me : Nat) (T : Nat → Option AVal) (H : Nat → Option Obj), Trail P Γ ops l me T H → ∀ (i : Nat) (t : TE), l[i]? = some t →
    Did P Γ ops (fT (fun j => decide (j < n + i)) n l T) (fH (fun j => decide (j < n + i)) n l H) (me + i) t.o t.ef
  | [], _, _, _, _, _, i, t, h => by simp at h
  | q :: l, n, me, T, H, ht, 0, t, h => by
    simp only [List.getElem?_cons_zero, Option.some.injEq] at h
    subst h
    rw [fT_upto _ _ _ _ (by omega), fH_upto _ _ _ _ (by omega)]
    exact ht.1
  | q :: l, n, me, T, H, ht, i + 1, t, h => by
    have := Trail.at_ l (n + 1) (me + 1) _ _ ht.2 i t (by simpa using h)
    simp only [fT, fH]
    rw [if_pos (by simp), if_pos (by simp)]
    rw [show n + 1 + i = n + (i + 1) by omega, show me + 1 + i = me + (i + 1) by omega] at this
    exact this
theorem runDraw_trail {R : Type} {C : Cfgs R} (hC : CfgOk P C) {e : Env} {k : List TE → St → Option R} {r : R} : ∀ (rest : List Oper) (me : Nat) (s : St) (tr : List TE), runDraw C ops e rest me s tr k = some r →
    ∃ tes s', tes.map (·.o) = rest ∧ k (tr ++ tes) s' = some r ∧ Trail P C.Γ ops tes me (getT e s) (getH e s) ∧ getT e s' = fT (fun _ => true) 0 tes (getT e s) ∧ getH e s' = fH (fun _ => true) 0 tes (getH e s)
  | [], me, s, tr, h => ⟨[], s, rfl, by rw [List.append_nil]; exact h, trivial, rfl, rfl⟩
  | o :: rest, me, s, tr, h => by
    have shiftT : ∀ (l : List TE) (m n : Nat) (T : Nat → Option AVal), fT (fun _ => true) m l T = fT (fun _ => true) n l T := by
      intro l
      induction l with
      | nil => intros; rfl
      | cons t l ih => intro m n T; simp only [fT, if_true]; exact ih _ _ _
    have shiftH : ∀ (l : List TE) (m n : Nat) (T : Nat → Option Obj), fH (fun _ => true) m l T = fH (fun _ => true) n l T := by
      intro l
      induction l with
      | nil => intros; rfl
      | cons t l ih => intro m n T; simp only [fH, if_true]; exact ih _ _ _
    have more : ∀ (ef : Option Eff) (s1 : St), Did P C.Γ ops (getT e s) (getH e s) me o ef → getT e s1 = updT (getT e s) o.dst (TE.val ⟨o, ef⟩) → getH e s1 = updH (getH e s) (TE.hp ⟨o, ef⟩) → runDraw C ops e rest (me + 1) s1 (tr ++ [⟨o, ef⟩]) k = some r →
        ∃ tes s', tes.map (·.o) = o :: rest ∧ k (tr ++ tes) s' = some r ∧ Trail P C.Γ ops tes me (getT e s) (getH e s) ∧ getT e s' = fT (fun _ => true) 0 tes (getT e s) ∧ getH e s' = fH (fun _ => true) 0 tes (getH e s) := by
      intro ef s1 hdid hT hH h1
      obtain ⟨tes, s', g1, g2, g3, g4, g5⟩ := runDraw_trail hC rest (me + 1) s1 _ h1
      refine ⟨⟨o, ef⟩ :: tes, s', by simp [g1], by simpa using g2, ⟨hdid, ?_⟩, ?_, ?_⟩
      · rw [← hT, ← hH]; exact g3
      · simp only [fT, if_true]; rw [← hT, g4]; exact shiftT _ _ _ _
      · simp only [fH, if_true]; rw [← hH, g5]; exact shiftH _ _ _ _
    simp only [runDraw] at h
    obtain ⟨s1, e1, e2, ⟨hw, h⟩ | ⟨hw, h⟩⟩ := guarded_some h
    · have fin : ∀ ef, Did P C.Γ ops (getT e s) (getH e s) me o (some ef) → (need (lays s1 me 1 ef.hp) fun s' => runDraw C ops e rest (me + 1) (putDst o.dst ef.val s') (tr ++ [⟨o, some ef⟩]) k) = some r →
          ∃ tes s', tes.map (·.o) = o :: rest ∧ k (tr ++ tes) s' = some r ∧ Trail P C.Γ ops tes me (getT e s) (getH e s) ∧ getT e s' = fT (fun _ => true) 0 tes (getT e s) ∧ getH e s' = fH (fun _ => true) 0 tes (getH e s) := by
        intro ef hdid h
        obtain ⟨s2, hl, h⟩ := need_some h
        have hl := lays_some hl
        exact more (some ef) _ hdid (by rw [getT_put, hl, getT_lay, e1]; rfl) (by rw [getH_put, hl, getH_lay, e2]; rfl) h
      unfold effAny at h
      rw [e1, e2] at h
      rcases callee_pair h with ⟨g, as, hcal, h⟩ | h
      · split at h
        · rename_i ctr hctr
          obtain ⟨hen, hok⟩ := hC.ctr g ctr hctr
          obtain ⟨args', lent, res, h1, h2, h3, h4⟩ := effCall_some hok h
          exact fin _ (.call hw hcal hen h1 h2 h3) h4
        · split at h
          · rename_i ctr hctr
            obtain ⟨hen, hok⟩ := hC.fctr g ctr hctr
            unfold effFrozen at h
            obtain ⟨⟨args', rd⟩, h1, h⟩ := need_some h
            obtain ⟨res, hval, h⟩ := hok _ _ _ h
            split at h
            · exact fin _ (.frozen hw hcal hen h1 hval) h
            · cases h
          · split at h
            · rename_i ctr hctr
              obtain ⟨hen, hok⟩ := hC.dctr g ctr hctr
              obtain ⟨args', lent, res, h1, h2, h3, h4⟩ := effCall_some hok h
              exact fin _ (.call hw hcal hen h1 h2 h3) h4
            · cases h
      · rw [← eff_bind] at h
        cases hef : eff C.Γ (getT e s) (getH e s) me o some with
        | none => rw [hef] at h; cases h
        | some ef => rw [hef] at h; exact fin ef (.eff hw hef) h
    · exact more none _ (.skip hw) (by rw [getT_put, e1]; rfl) (by rw [getH_put, e2]; rfl) h
end
end Go.Proofs.YtihhgenbkiollaaGreat

/- The abstract machine, part fm: regions that draw their order run as they say. No condition. -/
namespace Go.Proofs.YtihhgenbkiollaaGreat
open Go Go.RowKit
section
variable {P : Program} {Γ : Gam} {ops : Array Oper}
theorem memB_iff {n : Nat} : ∀ {l : List Nat}, memB n l = true ↔ n ∈ l
  | [] => by simp [memB]
  | m :: r => by
    simp only [memB]
    cases h : Nat.beq m n with
    | true => cases beq_eq h; simp
    | false =>
      have : ¬ n = m := by rintro rfl; simp at h
      simp [memB_iff (l := r), this]
theorem meets_false {as : List Nat} : ∀ {bs : List Nat}, meets as bs = false → ∀ n ∈ bs, n ∉ as
  | [], _, _, h => by cases h
  | b :: bs, h, n, hn => by
    simp only [meets] at h
    cases hm : memB b as with
    | true => rw [hm] at h; cases h
    | false =>
      rw [hm] at h
      cases hn with
      | head => intro hc; rw [memB_iff.2 hc] at hm; cases hm
      | tail _ hn => exact meets_false h n hn
def PairOk (ops : Array Oper) (an : Nat) (q : TE) (j : Nat) (rd wr : List Nat) : Prop :=
  an.testBit j = true ∨ ((∀ n ∈ q.rd ops, n ∉ wr) ∧ (∀ n ∈ q.wr, n ∉ wr) ∧ (∀ n ∈ q.wr, n ∉ rd))
theorem okPairs_ok {an : Nat} {q : TE} : ∀ {seen : List (Nat × List Nat × List Nat)}, okPairs an (q.rd ops) q.wr seen = true → ∀ p ∈ seen, PairOk ops an q p.1 p.2.1 p.2.2
  | [], _, _, h => by cases h
  | (j, rd', wr') :: r, h, p, hp => by
    simp only [okPairs] at h
    cases hc : (cond (Nat.testBit an j) true (!(meets wr' (q.rd ops) || meets wr' q.wr || meets rd' q.wr))) with
    | false => rw [hc] at h; cases h
    | true =>
      rw [hc] at h
      cases hp with
      | head =>
        cases hb : Nat.testBit an j with
        | true => exact .inl hb
        | false =>
          rw [hb] at hc
          simp only [cond_false, Bool.not_eq_true', Bool.or_eq_false_iff] at hc
          exact .inr ⟨meets_false hc.1.1, meets_false hc.1.2, meets_false hc.2⟩
      | tail _ hp => exact okPairs_ok h p hp
theorem drawGo_ok {anc : List Nat} : ∀ (l : List TE) (n : Nat) (seen : List (Nat × List Nat × List Nat)), drawGo ops anc l n seen = true → ∀ (i : Nat) (q : TE), l[i]? = some q →
    (∀ p ∈ seen, PairOk ops (anc.getD (n + i) 0) q p.1 p.2.1 p.2.2) ∧ ∀ (j : Nat) (q' : TE), j < i → l[j]? = some q' → PairOk ops (anc.getD (n + i) 0) q (n + j) (q'.rd ops) q'.wr
  | [], _, _, _, i, q, h => by simp at h
  | t :: l, n, seen, h, i, q, hq => by
    simp only [drawGo] at h
    cases hc : okPairs (anc.getD n 0) (t.rd ops) t.wr seen with
    | false => rw [hc] at h; cases h
    | true =>
      rw [hc] at h
      cases i with
      | zero =>
        simp only [List.getElem?_cons_zero, Option.some.injEq] at hq
        subst hq
        exact ⟨okPairs_ok hc, fun j _ hj => absurd hj (by omega)⟩
      | succ i =>
        obtain ⟨h1, h2⟩ := drawGo_ok l (n + 1) _ h i q (by simpa using hq)
        rw [show n + 1 + i = n + (i + 1) by omega] at h1 h2
        refine ⟨fun p hp => h1 p (List.mem_cons_of_mem _ hp), fun j q' hj hq' => ?_⟩
        cases j with
        | zero =>
          simp only [List.getElem?_cons_zero, Option.some.injEq] at hq'
          subst hq'
          exact h1 (n, _, _) (List.mem_cons_self ..)
        | succ j =>
          have := h2 j q' (by omega) (by simpa using hq')
          rwa [show n + 1 + j = n + (j + 1) by omega] at this
/-! who must have run ahead -/
theorem aheadOf_bit {anc : List Nat} {j : Nat} : ∀ (es : List Edge) (r : Nat), (aheadOf anc es r).testBit j = true → r.testBit j = true ∨ ∃ ed ∈ es, Region.binds .any ed = true ∧ (j = ed.on ∨ (anc.getD ed.on 0).testBit j = true)
  | [], r, h => .inl h
  | ed :: es, r, h => by
    simp only [aheadOf] at h
    rcases aheadOf_bit es _ h with h | ⟨e, he, h⟩
    · cases hb : Region.binds .any ed with
      | false => rw [hb] at h; exact .inl h
      | true =>
        rw [hb] at h
        simp only [cond_true, Nat.testBit_or, Bool.or_eq_true, Nat.testBit_two_pow, decide_eq_true_eq] at h
        rcases h with h | h | h
        · exact .inl h
        · exact .inr ⟨ed, List.mem_cons_self .., hb, .inl h.symm⟩
        · exact .inr ⟨ed, List.mem_cons_self .., hb, .inr h⟩
    · exact .inr ⟨e, List.mem_cons_of_mem _ he, h⟩
theorem aheads_old : ∀ (l : List Oper) (anc : List Nat) (j : Nat), j < anc.length → (aheads l anc).getD j 0 = anc.getD j 0
  | [], _, _, _ => rfl
  | o :: l, anc, j, h => by
    simp only [aheads]
    rw [aheads_old l _ j (by simp; omega)]
    simp only [List.getD_eq_getElem?_getD]
    rw [List.getElem?_append_left h]
theorem aheads_get : ∀ (l : List Oper) (anc : List Nat) (i : Nat) (o : Oper), l[i]? = some o → ∃ pre : List Nat, (aheads l anc).getD (anc.length + i) 0 = aheadOf pre o.after.toList 0 ∧ ∀ j, j < anc.length + i → pre.getD j 0 = (aheads l anc).getD j 0
  | [], _, _, _, h => by simp at h
  | q :: l, anc, 0, o, h => by
    simp only [List.getElem?_cons_zero, Option.some.injEq] at h
    subst h
    refine ⟨anc, ?_, fun j hj => ?_⟩
    · simp only [aheads, Nat.add_zero]
      rw [aheads_old l _ _ (by simp)]
      simp [List.getD_eq_getElem?_getD]
    · simp only [aheads]
      rw [aheads_old l _ _ (by simp; omega)]
      simp only [List.getD_eq_getElem?_getD]
      rw [List.getElem?_append_left (by simpa using hj)]
  | q :: l, anc, i + 1, o, h => by
    obtain ⟨pre, h1, h2⟩ := aheads_get l (anc ++ [aheadOf anc q.after.toList 0]) i o (by simpa using h)
    simp only [List.length_append, List.length_cons, List.length_nil, Nat.zero_add] at h1 h2
    refine ⟨pre, ?_, fun j hj => ?_⟩
    · simp only [aheads]; rw [← h1]; congr 1; omega
    · simp only [aheads]; exact h2 j (by omega)
theorem backs_ok : ∀ (l : List Oper) (n : Nat), backs l n = true → ∀ (i : Nat) (o : Oper), l[i]? = some o → ∀ ed ∈ o.after.toList, Region.binds .any ed = true → ed.on < n + i
  | [], _, _, i, o, h => by simp at h
  | q :: l, n, h, i, o, ho => by
    simp only [backs] at h
    cases hc : (q.after.toList.all fun ed => cond (Region.binds .any ed) (Nat.blt ed.on n) true) with
    | false => rw [hc] at h; cases h
    | true =>
      rw [hc] at h
      cases i with
      | zero =>
        simp only [List.getElem?_cons_zero, Option.some.injEq] at ho
        subst ho
        intro ed hed hbd
        have := List.all_eq_true.1 hc ed hed
        rw [hbd] at this
        exact ble_le this
      | succ i =>
        intro ed hed hbd
        have := backs_ok l (n + 1) h i o (by simpa using ho) ed hed hbd
        omega
/-- a set of operations that goes on with what must run ahead -/
def Closed (ops : Array Oper) (S : Nat → Bool) : Prop := ∀ i o, ops[i]? = some o → S i = true → ∀ ed ∈ o.after.toList, Region.binds .any ed = true → S ed.on = true
theorem anc_in {S : Nat → Bool} (hcl : Closed ops S) (hb : backs ops.toList 0 = true) : ∀ (i : Nat) (o : Oper), ops[i]? = some o → (∀ ed ∈ o.after.toList, Region.binds .any ed = true → S ed.on = true) →
    ∀ j, ((aheads ops.toList []).getD i 0).testBit j = true → S j = true := by
  intro i
  induction i using Nat.strongRecOn with
  | _ i ih =>
    intro o ho hp j hj
    obtain ⟨pre, h1, h2⟩ := aheads_get ops.toList [] i o (by simpa using ho)
    simp only [List.length_nil, Nat.zero_add] at h1 h2
    rw [h1] at hj
    rcases aheadOf_bit _ _ hj with h | ⟨ed, hed, hbd, h⟩
    · simp at h
    · have hlt := backs_ok _ 0 hb i o (by simpa using ho) ed hed hbd
      rw [Nat.zero_add] at hlt
      rcases h with rfl | h
      · exact hp ed hed hbd
      · rw [h2 _ hlt] at h
        have hsz : i < ops.size := (Array.getElem?_eq_some_iff.1 ho).1
        exact ih ed.on hlt _ (Array.getElem?_eq_getElem (by omega)) (fun e he hb => hcl _ _ (Array.getElem?_eq_getElem (by omega)) (hp ed hed hbd) e he hb) j h
theorem dst_wr {q : TE} {t : Nat} (h : q.o.dst = some t) : 2 * t ∈ q.wr := by simp [TE.wr, h]
theorem hp_wr {q : TE} {b : Nat} {v : Option Obj} (h : lk b q.hp = some v) : 2 * b + 1 ∈ q.wr := by
  unfold TE.hp at h
  split at h
  · rename_i ef he
    simp only [TE.wr, he]
    exact List.mem_append_right _ (laidOf_mem h)
  · simp [lk] at h
/-- one operation more -/
theorem draw_more {tes : List TE} {T0 : Nat → Option AVal} {H0 : Nat → Option Obj} {nx : Nat} (hb : backs ops.toList 0 = true) (hpairs : ∀ (i j : Nat) (q q' : TE), j < i → tes[i]? = some q → tes[j]? = some q' → PairOk ops ((aheads ops.toList []).getD i 0) q j (q'.rd ops) q'.wr)
    (hops : ∀ (i : Nat) (q : TE), tes[i]? = some q → ops[i]? = some q.o) {S : Nat → Bool} (hcl : Closed ops S) {i : Nat} {q : TE} (hq : tes[i]? = some q) (hS : S i = false) (hp : ∀ ed ∈ q.o.after.toList, Region.binds .any ed = true → S ed.on = true)
    (hdid : Did P Γ ops (fT (fun j => decide (j < i)) 0 tes T0) (fH (fun j => decide (j < i)) 0 tes H0) (nx + i) q.o q.ef) :
    Did P Γ ops (fT S 0 tes T0) (fH S 0 tes H0) (nx + i) q.o q.ef ∧ updT (fT S 0 tes T0) q.o.dst q.val = fT (fun j => S j || decide (j = i)) 0 tes T0 ∧ updH (fH S 0 tes H0) q.hp = fH (fun j => S j || decide (j = i)) 0 tes H0 := by
  have F1 : ∀ (j : Nat) (q' : TE), tes[j]? = some q' → j < i → S j = false → ∀ n ∈ q.rd ops, n ∉ q'.wr := by
    intro j q' hq' hj hSj
    rcases hpairs i j q q' hj hq hq' with h | h
    · have := anc_in hcl hb i q.o (hops i q hq) hp j h
      rw [hSj] at this; cases this
    · exact h.1
  have F2 : ∀ (j : Nat) (q' : TE), tes[j]? = some q' → i < j → S j = true → (∀ n ∈ q'.wr, n ∉ q.wr) ∧ (∀ n ∈ q'.wr, n ∉ q.rd ops) := by
    intro j q' hq' hj hSj
    rcases hpairs j i q' q hj hq' hq with h | h
    · have := anc_in hcl hb j q'.o (hops j q' hq') (fun e he hbd => hcl j _ (hops j q' hq') hSj e he hbd) i h
      rw [hS] at this; cases this
    · exact ⟨h.2.1, h.2.2⟩
  refine ⟨hdid.transfer ⟨fun u hu => ?_, fun b hbm => ?_⟩, funext fun u => ?_, funext fun b => ?_⟩
  · refine fT_agree tes 0 T0 T0 rfl fun j q' hq' => ?_
    rw [Nat.zero_add]
    rcases Nat.lt_trichotomy j i with hlt | heq | hgt
    · cases hSj : S j with
      | true => exact .inl (by simp [hlt])
      | false => exact .inr fun hd => F1 j q' hq' hlt hSj _ hu (dst_wr hd)
    · subst heq; exact .inl (by simp [hS])
    · cases hSj : S j with
      | false => exact .inl (by simp; omega)
      | true => exact .inr fun hd => (F2 j q' hq' hgt hSj).2 _ (dst_wr hd) hu
  · refine fH_agree tes 0 H0 H0 rfl fun j q' hq' => ?_
    rw [Nat.zero_add]
    have none_of : ∀ (h : 2 * b + 1 ∉ q'.wr), lk b q'.hp = none := fun h => by
      cases hl : lk b q'.hp with
      | none => rfl
      | some v => exact absurd (hp_wr hl) h
    rcases Nat.lt_trichotomy j i with hlt | heq | hgt
    · cases hSj : S j with
      | true => exact .inl (by simp [hlt])
      | false => exact .inr (none_of (F1 j q' hq' hlt hSj _ hbm))
    · subst heq; exact .inl (by simp [hS])
    · cases hSj : S j with
      | false => exact .inl (by simp; omega)
      | true => exact .inr (none_of fun hd => (F2 j q' hq' hgt hSj).2 _ hd hbm)
  · by_cases hd : q.o.dst = some u
    · rw [fT_last tes 0 i T0 q hq (by simp) hd fun j q' hj hq' hs => by
        rw [Nat.zero_add] at hs
        have hSj : S j = true := by
          have : ¬ j = i := by omega
          simpa [this] using hs
        intro hd'
        exact (F2 j q' hq' hj hSj).1 _ (dst_wr hd') (dst_wr hd)]
      simp only [updT, hd, if_true]
    · simp only [updT, if_neg hd]
      refine fT_agree tes 0 T0 T0 rfl fun j q' hq' => ?_
      rw [Nat.zero_add]
      by_cases hj : j = i
      · subst hj; rw [hq] at hq'; cases hq'; exact .inr hd
      · exact .inl (by simp [hj])
  · cases hd : lk b q.hp with
    | some v =>
      rw [fH_last tes 0 i H0 q hq (by simp) hd fun j q' hj hq' hs => by
        rw [Nat.zero_add] at hs
        have hSj : S j = true := by
          have : ¬ j = i := by omega
          simpa [this] using hs
        cases hl : lk b q'.hp with
        | none => rfl
        | some v' => exact absurd (hp_wr hd) ((F2 j q' hq' hj hSj).1 _ (hp_wr hl))]
      simp only [updH, hd]
    | none =>
      simp only [updH, hd]
      refine fH_agree tes 0 H0 H0 rfl fun j q' hq' => ?_
      rw [Nat.zero_add]
      by_cases hj : j = i
      · subst hj; rw [hq] at hq'; cases hq'; exact .inr hd
      · exact .inl (by simp [hj])
end
end Go.Proofs.YtihhgenbkiollaaGreat

/- The abstract machine, part fn: regions that draw their order run as they say (the loop). No condition. -/
namespace Go.Proofs.YtihhgenbkiollaaGreat
open Go Go.RowKit
section
variable {P : Program} {Γ : Gam} {ops : Array Oper}
/-- those that have not run yet -/
def unlisted (ops : Array Oper) (listed : Array Bool) : List Nat := (List.range ops.size).filter fun i => !listed.getD i true
theorem unlisted_set {listed : Array Bool} {i : Nat} (h : i ∈ unlisted ops listed) : (unlisted ops (listed.setIfInBounds i true)).length < (unlisted ops listed).length := by
  have hlt : i < listed.size := by
    simp only [unlisted, List.mem_filter, Bool.not_eq_true'] at h
    rcases Nat.lt_or_ge i listed.size with h' | h'
    · exact h'
    · have h2 := h.2
      rw [Array.getD_eq_getD_getElem?, Array.getElem?_eq_none h'] at h2; cases h2
  have : unlisted ops (listed.setIfInBounds i true) = (unlisted ops listed).filter fun j => !decide (j = i) := by
    simp only [unlisted, List.filter_filter]
    refine List.filter_congr fun j _ => ?_
    by_cases hj : j = i
    · subst hj
      simp [Array.getD_eq_getD_getElem?, hlt]
    · rw [getD_set_ne true (Ne.symm hj)]; simp [hj]
  rw [this]
  exact List.length_filter_lt_length_iff_exists.2 ⟨i, h, by simp⟩
theorem all_listed {listed : Array Bool} (hl : listed.size = ops.size) (hb : backs ops.toList 0 = true) (hr : Region.ready .any ops listed = []) : ∀ i, i < ops.size → listed.getD i false = true := by
  intro i
  induction i using Nat.strongRecOn with
  | _ i ih =>
    intro hi
    cases hc : listed.getD i true with
    | true =>
      rw [Array.getD_eq_getD_getElem?, Array.getElem?_eq_getElem (by omega)] at hc ⊢
      simpa using hc
    | false =>
      have : i ∈ Region.ready .any ops listed := by
        rw [mem_ready]
        refine ⟨hc, ops[i], Array.getElem?_eq_getElem hi, fun e he hbd => ?_⟩
        have hlt := backs_ok _ 0 hb i ops[i] (by simp [Array.getElem?_eq_getElem hi]) e (by simpa using he) hbd
        rw [Nat.zero_add] at hlt
        exact ih e.on hlt (by omega)
      rw [hr] at this; cases this
theorem all_of_none {listed : Array Bool} (hl : listed.size = ops.size) (hu : unlisted ops listed = []) : ∀ i, i < ops.size → listed.getD i false = true := by
  intro i hi
  cases hc : listed.getD i true with
  | true =>
    rw [Array.getD_eq_getD_getElem?, Array.getElem?_eq_getElem (by omega)] at hc ⊢
    simpa using hc
  | false =>
    have : i ∈ unlisted ops listed := List.mem_filter.2 ⟨List.mem_range.2 hi, by rw [hc]; rfl⟩
    rw [hu] at this; cases this
/-- behind all of them -/
def DrawnTo (B : Nat) (w0 : World) (N : Nat) (T : Nat → Option AVal) (H : Nat → Option Obj) (x0 : Cx) (u0 : World) (nx n : Nat) (a' : Act) (w' : World) : Prop :=
  ∃ x', Evo x0 u0 x' w' ∧ (∀ b, ¬ (nx ≤ b ∧ b < nx + n) → x'.ρ b = x0.ρ b) ∧ Sim B w0 N T H x' a' w'
theorem draw_go {tes : List TE} {T0 : Nat → Option AVal} {H0 : Nat → Option Obj} {nx : Nat} (hΓ : GamOk P Γ) (hb : backs ops.toList 0 = true)
    (hpairs : ∀ (i j : Nat) (q q' : TE), j < i → tes[i]? = some q → tes[j]? = some q' → PairOk ops ((aheads ops.toList []).getD i 0) q j (q'.rd ops) q'.wr)
    (hops : ∀ (i : Nat) (q : TE), tes[i]? = some q → ops[i]? = some q.o) (hlen : tes.length = ops.size)
    (hdid : ∀ (i : Nat) (q : TE), tes[i]? = some q → Did P Γ ops (fT (fun j => decide (j < i)) 0 tes T0) (fH (fun j => decide (j < i)) 0 tes H0) (nx + i) q.o q.ef)
    {N : Nat} (hd : ∀ o ∈ ops.toList, ∀ d, o.dst = some d → d < N) {B : Nat} {w0 : World} {x0 : Cx} {u0 : World} (hfresh : Fresh nx x0) :
    ∀ (fuel t : Nat) (listed : Array Bool) (x : Cx) (a : Act) (w : World), listed.size = ops.size → Closed ops (fun i => listed.getD i false) → (unlisted ops listed).length ≤ fuel →
      Sim B w0 N (fT (fun i => listed.getD i false) 0 tes T0) (fH (fun i => listed.getD i false) 0 tes H0) x a w → Evo x0 u0 x w →
      (∀ b, ¬ (nx ≤ b ∧ b < nx + ops.size ∧ listed.getD (b - nx) false = true) → x.ρ b = x0.ρ b) →
      OpsDo P ops (Region.linearise.go .any ops fuel t listed []) (DrawnTo B w0 N (fT (fun _ => true) 0 tes T0) (fH (fun _ => true) 0 tes H0) x0 u0 nx ops.size) a w := by
  have fin : ∀ (listed : Array Bool) (x : Cx) (a : Act) (w : World), (∀ i, i < ops.size → listed.getD i false = true) →
      Sim B w0 N (fT (fun i => listed.getD i false) 0 tes T0) (fH (fun i => listed.getD i false) 0 tes H0) x a w → Evo x0 u0 x w →
      (∀ b, ¬ (nx ≤ b ∧ b < nx + ops.size ∧ listed.getD (b - nx) false = true) → x.ρ b = x0.ρ b) →
      DrawnTo B w0 N (fT (fun _ => true) 0 tes T0) (fH (fun _ => true) 0 tes H0) x0 u0 nx ops.size a w := by
    intro listed x a w hall sim evo hold
    refine ⟨x, evo, fun b hb => hold b fun h => hb ⟨h.1, h.2.1⟩, ?_⟩
    have e1 : fT (fun i => listed.getD i false) 0 tes T0 = fT (fun _ => true) 0 tes T0 := funext fun u => fT_agree tes 0 _ _ rfl fun j q hq => .inl (by
      have : j < tes.length := by
        rcases Nat.lt_or_ge j tes.length with h | h
        · exact h
        · rw [List.getElem?_eq_none h] at hq; cases hq
      rw [Nat.zero_add]; exact hall j (by omega))
    have e2 : fH (fun i => listed.getD i false) 0 tes H0 = fH (fun _ => true) 0 tes H0 := funext fun u => fH_agree tes 0 _ _ rfl fun j q hq => .inl (by
      have : j < tes.length := by
        rcases Nat.lt_or_ge j tes.length with h | h
        · exact h
        · rw [List.getElem?_eq_none h] at hq; cases hq
      rw [Nat.zero_add]; exact hall j (by omega))
    rw [← e1, ← e2]; exact sim
  intro fuel
  induction fuel with
  | zero =>
    intro t listed x a w hl hcl hcount sim evo hold
    simp only [Region.linearise.go, List.reverse_nil]
    exact opsDo_nil (fin listed x a w (all_of_none hl (List.eq_nil_of_length_eq_zero (by omega))) sim evo hold)
  | succ fuel ih =>
    intro t listed x a w hl hcl hcount sim evo hold
    simp only [Region.linearise.go]
    change OpsDo P ops (match (Region.ready .any ops listed)[t % (Region.ready .any ops listed).length]? with
      | some i => Region.linearise.go .any ops fuel (t / (Region.ready .any ops listed).length) (listed.setIfInBounds i true) [i]
      | none => [].reverse) _ a w
    cases hi : (Region.ready .any ops listed)[t % (Region.ready .any ops listed).length]? with
    | none =>
      have hnil : Region.ready .any ops listed = [] := by
        cases hr : Region.ready .any ops listed with
        | nil => rfl
        | cons x xs =>
          rw [hr] at hi
          have hlt : t % (x :: xs).length < (x :: xs).length := Nat.mod_lt _ (by simp)
          simp at hi
          simp at hlt
          omega
      exact opsDo_nil (fin listed x a w (all_listed hl hb hnil) sim evo hold)
    | some i =>
      simp only []
      rw [linearise_go_acc, List.reverse_singleton, List.singleton_append]
      have hmem := List.mem_of_getElem? hi
      obtain ⟨hun, o, ho, hpre⟩ := mem_ready.1 hmem
      have hlt : i < ops.size := (Array.getElem?_eq_some_iff.1 ho).1
      have hq : ∃ q, tes[i]? = some q := ⟨_, List.getElem?_eq_getElem (by omega)⟩
      obtain ⟨q, hq⟩ := hq
      have hqo := hops i q hq
      rw [ho] at hqo
      have hqo : o = q.o := Option.some.inj hqo
      subst hqo
      have hSi : listed.getD i false = false := by
        rw [Array.getD_eq_getD_getElem?, Array.getElem?_eq_getElem (by omega)] at hun ⊢
        simpa using hun
      obtain ⟨h1, h2, h3⟩ := draw_more (T0 := T0) (H0 := H0) (Γ := Γ) hb hpairs hops hcl hq hSi (fun e he hbd => hpre e (by simpa using he) hbd) (hdid i q hq)
      have hset : ∀ j, (listed.setIfInBounds i true).getD j false = (listed.getD j false || decide (j = i)) := by
        intro j
        by_cases hj : j = i
        · subst hj
          have : (listed.setIfInBounds j true).getD j false = true := by simp [Array.getD_eq_getD_getElem?, show j < listed.size by omega]
          rw [this]; simp
        · rw [getD_set_ne false (Ne.symm hj)]; simp [hj]
      have hS' : (fun j => (listed.setIfInBounds i true).getD j false) = fun j => listed.getD j false || decide (j = i) := funext hset
      have hcl' : Closed ops (fun j => (listed.setIfInBounds i true).getD j false) := by
        intro j o' ho' hSj e he hbd
        simp only [hset, Bool.or_eq_true, decide_eq_true_eq] at hSj ⊢
        rcases hSj with hSj | rfl
        · exact .inl (hcl j o' ho' hSj e he hbd)
        · rw [ho] at ho'; cases ho'; exact .inl (hpre e (by simpa using he) hbd)
      have hρ : x.ρ (nx + i) = none := by
        rw [hold (nx + i) (by rintro ⟨_, _, h⟩; rw [Nat.add_sub_cancel_left, hSi] at h; cases h)]
        exact hfresh _ (by omega)
      have hin : i ∈ unlisted ops listed := List.mem_filter.2 ⟨List.mem_range.2 hlt, by rw [hun]; rfl⟩
      have hcount' : (unlisted ops (listed.setIfInBounds i true)).length ≤ fuel := by have := unlisted_set hin; omega
      have hdst : ∀ d, q.o.dst = some d → d < N := hd q.o (by have := Array.mem_of_getElem? ho; simpa using this)
      have more : ∀ (x1 : Cx) (a1 : Act) (w1 : World), Post B w0 N (updT (fT (fun i => listed.getD i false) 0 tes T0) q.o.dst q.val) (updH (fH (fun i => listed.getD i false) 0 tes H0) q.hp) x w (nx + i) 1 x1 a1 w1 →
          OpsDo P ops (Region.linearise.go .any ops fuel (t / (Region.ready .any ops listed).length) (listed.setIfInBounds i true) []) (DrawnTo B w0 N (fT (fun _ => true) 0 tes T0) (fH (fun _ => true) 0 tes H0) x0 u0 nx ops.size) a1 w1 := by
        intro x1 a1 w1 p
        refine ih _ (listed.setIfInBounds i true) x1 a1 w1 (by simpa using hl) hcl' hcount' ?_ (evo.trans p.evo) fun b hb' => ?_
        · rw [hS', ← h2, ← h3]; exact p.sim
        · rw [p.old b (fun hh => hb' ⟨by omega, by omega, by rw [hset, show b - nx = i by omega]; simp⟩)]
          exact hold b fun hh => hb' ⟨hh.1, hh.2.1, by rw [hset, hh.2.2]; rfl⟩
      cases hef : q.ef with
      | none =>
        rw [hef] at h1
        have hok := h1.ok hΓ sim hdst hρ
        refine opsDo_skip ho hok (more x _ w ?_)
        have hval : q.val = some (.tup []) := by simp only [TE.val, hef]
        have hhp : q.hp = [] := by simp only [TE.hp, hef]
        rw [hval, hhp, updH_nil]
        exact Post.val sim hdst (fun u hu => by cases hu; exact ⟨[], rfl, trivial⟩) _ _
      | some ef =>
        rw [hef] at h1
        obtain ⟨hw, hok⟩ := h1.ok hΓ sim hdst hρ
        refine opsDo_cons ho hw hok fun a1 w1 => ?_
        rintro ⟨x1, p⟩
        have hval : q.val = ef.val := by simp only [TE.val, hef]
        have hhp : q.hp = ef.hp := by simp only [TE.hp, hef]
        exact more x1 a1 w1 (by rw [hval, hhp]; exact p)
theorem Sim.drawn {B : Nat} {w0 : World} {N : Nat} {T : Nat → Option AVal} {H : Nat → Option Obj} {x : Cx} {a : Act} {w : World} (s : Sim B w0 N T H x a w) : Evo x w x { w with drawn := w.drawn + 1 } ∧ Sim B w0 N T H x a { w with drawn := w.drawn + 1 } := by
  have evo : Evo x w x { w with drawn := w.drawn + 1 } := ⟨fun _ _ h => h, fun _ _ _ => rfl, fun _ _ h => h, fun _ _ _ => rfl, Nat.le_refl _, fun _ _ _ h => .inl h, fun c _ _ h => ⟨c, h⟩⟩
  refine ⟨evo, ?_⟩
  exact {
    below := s.below.trans ⟨rfl, rfl, rfl, Nat.le_refl _, fun _ _ => rfl⟩
    size := s.size
    slots := s.slots
    defers := s.defers
    tmps := fun t v h => (s.tmps t v h).evo evo
    heap := fun b q h => by
      obtain ⟨ob, g1, g2, g3⟩ := s.heap b q h
      exact ⟨ob, g1, g2, g3.frame evo fun blk hblk => ⟨rfl, fun q => Iff.rfl⟩⟩
    inj := s.inj
    dlt := s.dlt }
theorem drawOk_ok {R : Type} {C : Cfgs R} (hC : CfgOk P C) : DrawOk P C := by
  intro N id ops call hd e nx s k r B w0 x a w sim hf h
  obtain ⟨tes, s', h1, h2, h3, h4, h5⟩ := runDraw_trail hC ops.toList nx s [] (show runDraw C ops e ops.toList nx s [] _ = some r from h)
  rw [List.nil_append] at h2
  obtain ⟨hok, hk⟩ := cond_some h2
  unfold drawOk at hok
  cases hb : backs ops.toList 0 with
  | false => rw [hb] at hok; cases hok
  | true =>
    rw [hb] at hok
    have hops : ∀ (i : Nat) (q : TE), tes[i]? = some q → ops[i]? = some q.o := by
      intro i q hq
      have : (tes.map (·.o))[i]? = some q.o := by simp [hq]
      rw [h1] at this
      simpa using this
    have hlen : tes.length = ops.size := by
      have := congrArg List.length h1
      simpa using this
    refine wp_of_opsDo_draw fun t => ?_
    simp only [Region.schedule, hC.mix, Bool.true_or, if_true]
    obtain ⟨ev, sim1⟩ := sim.drawn
    have hempty : (fun i => (Array.replicate ops.size false).getD i false) = fun _ => false := by
      funext i
      simp only [Array.getD_eq_getD_getElem?, Array.getElem?_replicate]
      split <;> rfl
    have none1 : ∀ (l : List TE) (n : Nat) (T : Nat → Option AVal), fT (fun _ => false) n l T = T := by
      intro l
      induction l with
      | nil => intros; rfl
      | cons t l ih => intro n T; simp only [fT]; exact ih _ _
    have none2 : ∀ (l : List TE) (n : Nat) (T : Nat → Option Obj), fH (fun _ => false) n l T = T := by
      intro l
      induction l with
      | nil => intros; rfl
      | cons t l ih => intro n T; simp only [fH]; exact ih _ _
    have hgo := draw_go (N := N) (B := B) (w0 := w0) (x0 := x) (u0 := w) (T0 := getT e s) (H0 := getH e s) hC.Γ hb (fun i j q q' hj hq hq' => by
        have := (drawGo_ok tes 0 [] hok i q hq).2 j q' hj hq'
        rwa [Nat.zero_add, Nat.zero_add] at this) hops hlen
      (fun i q hq => by have := h3.at_ tes 0 nx _ _ i q hq; rwa [Nat.zero_add] at this) hd hf ops.size t (Array.replicate ops.size false) x a { w with drawn := w.drawn + 1 } (by simp)
      (by rw [hempty]; intro i o ho h; cases h) (by
        have : (unlisted ops (Array.replicate ops.size false)).length ≤ (List.range ops.size).length := List.length_filter_le _ _
        simpa using this) (by rw [hempty, none1, none2]; exact sim1) ev (fun b _ => rfl)
    intro b q cs
    obtain ⟨a', w', ⟨x', g1, g2, g3⟩, g4⟩ := hgo b q cs
    exact ⟨a', w', ⟨.normal, x', nx + ops.size, s', rfl, hk, ⟨g1, Nat.le_add_right _ _, g2⟩, by rw [h4, h5]; exact g3⟩, g4⟩
end
end Go.Proofs.YtihhgenbkiollaaGreat

/- The abstract machine, part fo: what a loop carries, under numbers of its own. No condition. -/
namespace Go.Proofs.YtihhgenbkiollaaGreat
open Go Go.RowKit
/-- a leaf of a datum -/
def plainB : Leaf → Bool
  | .int .. => true | .bool _ => true | .str _ => true | .list .. => true | .fn _ => true
  | _ => false
theorem Kd.cells_plain (k : Kd) (y : k.C) : (k.cells y).all plainB = true := by cases k <;> rfl
theorem RL.of_plain {x : Cx} {w : World} {v : Value} {l : Leaf} (h : RL x w v l) (hp : plainB l = true) : PL w x.D v l := by
  cases l <;> simp only [plainB, Bool.false_eq_true] at hp
  case int => rw [h.int]; exact .int _ _
  case bool => rw [h.bool]; exact .bool _
  case str => rw [h.str]; exact .str _
  case list => exact h.list
  case fn => rw [h.fn]; exact .fn _
theorem RLs.of_plain {x : Cx} {w : World} : ∀ {vs : List Value} {ls : List Leaf}, Rs (RL x w) vs ls → ls.all plainB = true → Rs (PL w x.D) vs ls
  | [], [], _, _ => trivial
  | v :: vs, l :: ls, h, hp => by
    simp only [List.all_cons, Bool.and_eq_true] at hp
    exact ⟨h.1.of_plain hp.1, RLs.of_plain h.2 hp.2⟩
  | [], _ :: _, h, _ => h.elim
  | _ :: _, [], h, _ => h.elim
theorem RLs.dec {x : Cx} {w : World} {vs : List Value} {ls : List Leaf} {k : Kd} {y : k.C} (h : Rs (RL x w) vs ls) (hd : k.dec ls = some y) : Rs (PL w x.D) vs (k.cells y) :=
  RLs.of_plain (RLs.cos h (Kd.dec_cos hd)) (Kd.cells_plain k y)
theorem caps_fz {x : Cx} {w : World} : ∀ {vc : List Value} {ps : List Loc}, (∀ p ∈ ps, ∃ k, ∃ (xs : List k.C) (i o : Nat), p = .elt k xs i o) → Rs (fun v l => RL0 x w v (.ptr l)) vc ps → Rs (fun v l => RL0 (frz x.D) w v (.ptr l)) vc ps
  | [], [], _, _ => trivial
  | v :: vc, p :: ps, hp, h => by
    refine ⟨?_, caps_fz (fun q hq => hp q (List.mem_cons_of_mem _ hq)) h.2⟩
    obtain ⟨k, xs, i, o, rfl⟩ := hp p (List.mem_cons_self ..)
    exact h.1
  | [], _ :: _, _, h => h.elim
  | _ :: _, [], _, h => h.elim
/-- a typed value, in whatever context -/
def Fz (x : Cx) (a b : AV) : Prop := ∀ w v, RA x w v a → RA (frz x.D) w v b
theorem Ty.dec_fz {x : Cx} : ∀ {τ : Ty} {a : AV} {y : τ.C}, τ.dec a = some y → Fz x a (τ.enc y)
  | .d k, ⟨g, ls⟩, y, h => by
    intro w v hv
    simp only [Ty.dec] at h
    obtain ⟨hg, h1⟩ := cond_some h
    clear h
    have hg : g = k.isAgg := by simpa using hg
    subst hg
    refine PA.rel (x := frz x.D) ?_
    show PA w x.D v ⟨k.isAgg, k.cells y⟩
    cases hk : k.isAgg with
    | true => rw [hk] at hv; obtain ⟨vs, g1, g2⟩ := hv; exact ⟨vs, g1, RLs.dec g2 h1⟩
    | false =>
      rw [hk] at hv
      obtain ⟨l, g1, g2⟩ := hv
      have g1 : ls = [l] := g1
      subst g1
      have h3 : Rs (RL x w) [v] [l] := ⟨g2, trivial⟩
      have h4 := RLs.dec h3 h1
      match hq : k.cells y, h4 with
      | [l'], h4 => exact ⟨l', rfl, h4.1⟩
      | [], h4 => exact h4.elim
      | _ :: _ :: _, h4 => exact h4.2.elim
  | .l k, ⟨false, [q]⟩, y, h => by
    intro w v hv
    obtain ⟨l, h1, h2⟩ := hv
    cases h1
    exact ⟨_, rfl, RL.of_pl (h2.asList h)⟩
  | .str, ⟨false, [.str s]⟩, y, h => by
    intro w v hv
    cases h
    obtain ⟨l, h1, h2⟩ := hv
    cases h1
    exact ⟨_, rfl, RL.of_pl (h2.of_plain rfl)⟩
  | .u8, ⟨false, [.int .u8 n]⟩, y, h => by
    intro w v hv
    cases h
    obtain ⟨l, h1, h2⟩ := hv
    cases h1
    exact ⟨_, rfl, RL.of_pl (h2.of_plain rfl)⟩
  | .ref k, ⟨false, [.ptr p]⟩, y, h => by
    intro w v hv
    cases one?_eq h
    obtain ⟨l, h1, h2⟩ := hv
    cases h1
    exact ⟨_, rfl, .inl (.inl h2.ptr)⟩
  | .clo f a b c, ⟨false, [.clo g false [] [p, q, r]]⟩, y, h => by
    intro w v hv
    simp only [Ty.dec] at h
    obtain ⟨hg, h1⟩ := cond_some h
    clear h
    cases beq_eq hg
    split at h1
    · rename_i e1 e2 e3
      cases one?_eq e1; cases one?_eq e2; cases one?_eq e3; cases h1
      obtain ⟨l, g1, g2⟩ := hv
      cases g1
      obtain ⟨vf, vc, g3, g4, g5⟩ := g2.closure
      have : vf = [] := by cases vf with | nil => rfl | cons => exact g4.elim
      subst this
      exact ⟨_, rfl, .inl (.inr ⟨_, _, _, _, rfl, [], vc, g3, trivial, caps_fz (by simp) g5⟩)⟩
    · cases h1
  | .clo2 f a b, ⟨false, [.clo g false [] [p, q]]⟩, y, h => by
    intro w v hv
    simp only [Ty.dec] at h
    obtain ⟨hg, h1⟩ := cond_some h
    clear h
    cases beq_eq hg
    split at h1
    · rename_i e1 e2
      cases one?_eq e1; cases one?_eq e2; cases h1
      obtain ⟨l, g1, g2⟩ := hv
      cases g1
      obtain ⟨vf, vc, g3, g4, g5⟩ := g2.closure
      have : vf = [] := by cases vf with | nil => rfl | cons => exact g4.elim
      subst this
      exact ⟨_, rfl, .inl (.inr ⟨_, _, _, _, rfl, [], vc, g3, trivial, caps_fz (by simp) g5⟩)⟩
    · cases h1
  | .clo1 f a, ⟨false, [.clo g false [] [p]]⟩, y, h => by
    intro w v hv
    simp only [Ty.dec] at h
    obtain ⟨hg, h1⟩ := cond_some h
    clear h
    cases beq_eq hg
    cases one?_eq h1
    obtain ⟨l, g1, g2⟩ := hv
    cases g1
    obtain ⟨vf, vc, g3, g4, g5⟩ := g2.closure
    have : vf = [] := by cases vf with | nil => rfl | cons => exact g4.elim
    subst this
    exact ⟨_, rfl, .inl (.inr ⟨_, _, _, _, rfl, [], vc, g3, trivial, caps_fz (by simp) g5⟩)⟩
  | .nils, ⟨false, [.nils]⟩, y, h => by
    intro w v hv
    obtain ⟨l, h1, h2⟩ := hv
    cases h1
    rw [h2.nils]; exact ⟨_, rfl, RL.of_pl .nils⟩
theorem RA.dec {x : Cx} {w : World} {τ : Ty} {a : AV} {y : τ.C} {v : Value} (hv : RA x w v a) (h : τ.dec a = some y) : RA (frz x.D) w v (τ.enc y) := Ty.dec_fz h w v hv
/-! the new numbers -/
def tblρ (x' : Cx) : Option Nat → Option (Option Nat) | some b => x'.ρ b | none => some none
def tblκ (x' : Cx) : Option Nat → Nat × Nat | some b => x'.κ b | none => (0, 0)
def renum (x x' : Cx) (m : Nat) (bs : List (Option Nat)) : Cx :=
  ⟨fun c => if c < m then x.ρ c else if c < m + bs.length then tblρ x' (bs.getD (c - m) none) else none, fun c => if c < m then x'.κ c else tblκ x' (bs.getD (c - m) none), x'.D⟩
theorem renum_at {x x' : Cx} {m : Nat} {bs : List (Option Nat)} {j : Nat} {q : Option Nat} (h : bs[j]? = some q) : (renum x x' m bs).ρ (m + j) = tblρ x' q ∧ (renum x x' m bs).κ (m + j) = tblκ x' q := by
  have hlt : j < bs.length := by
    rcases Nat.lt_or_ge j bs.length with h' | h'
    · exact h'
    · rw [List.getElem?_eq_none h'] at h; cases h
  have hg : bs.getD (m + j - m) none = q := by rw [Nat.add_sub_cancel_left, List.getD_eq_getElem?_getD, h]; rfl
  constructor
  · show (if m + j < m then _ else _) = _
    rw [if_neg (by omega), if_pos (by omega), hg]
  · show (if m + j < m then _ else _) = _
    rw [if_neg (by omega), hg]
theorem renum_low {x x' : Cx} {m : Nat} {bs : List (Option Nat)} {c : Nat} (h : c < m) : (renum x x' m bs).ρ c = x.ρ c ∧ (renum x x' m bs).κ c = x'.κ c := by
  constructor
  · show (if c < m then _ else _) = _
    rw [if_pos h]
  · show (if c < m then _ else _) = _
    rw [if_pos h]
section
variable {B : Nat} {w0 : World} {N : Nat} {T : Nat → Option AVal} {H : Nat → Option Obj} {x x' : Cx} {a : Act} {w we : World} {m : Nat} {bs : List (Option Nat)}
def HeapOk (B : Nat) (x : Cx) (w : World) (c : Nat) (o : Obj) : Prop := ∃ ob, x.ρ c = some ob ∧ (∀ blk, ob = some blk → B ≤ blk ∧ blk < w.heap.size) ∧ Lies x w ob (x.κ c) o
theorem takeRow_src {k : Kd} {l : Leaf} {xs : List k.C} {b : Nat} (h : takeRow H k l = some (xs, some b)) : ∃ k' xs', H b = some (.arr k' xs' false) := by
  unfold takeRow at h
  split at h
  · cases h
  · split at h
    · rename_i hb
      split at h
      · cases h; exact ⟨_, _, hb⟩
      · cases h
    · cases h
  · cases h
theorem takeRow_ok (s : Sim B w0 N T H x' a w) {k : Kd} {l : Leaf} {xs : List k.C} {q : Option Nat} (h : takeRow H k l = some (xs, q)) {v : Value} (hv : RL x' w v l) {j : Nat} (hj : bs[j]? = some q) :
    RL (renum x x' m bs) w v (.own (m + j)) ∧ HeapOk B (renum x x' m bs) w (m + j) (.arr k xs false) := by
  obtain ⟨e1, e2⟩ := renum_at (x := x) (x' := x') (m := m) hj
  unfold takeRow at h
  split at h
  · cases h
    have hv := hv.nils
    subst hv
    refine ⟨.inl (.inl ⟨none, e1, by rw [e2]; rfl⟩), none, e1, (fun blk h => by cases h), ?_⟩
    rw [e2]
    exact ⟨rfl, Nat.le_refl _, .inl ⟨rfl, rfl⟩⟩
  · rename_i b
    split at h
    · rename_i q' ys hb
      split at h
      · rename_i zs hz
        obtain ⟨rfl, hz⟩ := Kd.cast_eq hz
        have hz : ys = zs := hz
        subst hz
        cases h
        obtain ⟨_, ob, g1, g2, g3, g4, g5, g6⟩ := own_row s hv hb
        refine ⟨.inl (.inl ⟨ob, e1.trans g1, by rw [e2]; show v = _; rw [g4]; simp only [tblκ, g3]⟩), ob, e1.trans g1, g6, ?_⟩
        rw [e2]
        exact g5.ctx rfl
      · cases h
    · cases h
  · cases h
/-- an object that is laid anew -/
def Laid (B : Nat) (H : Nat → Option Obj) (x2 : Cx) (w : World) (m : Nat) (bs : List (Option Nat)) (c : Nat) (o : Option Obj) : Prop :=
  ∃ o', o = some o' ∧ HeapOk B x2 w c o' ∧ ((c < m ∧ ∃ ls, H c = some (.cells ls)) ∨ (m ≤ c ∧ ∃ q, bs[c - m]? = some q ∧ ∀ b, q = some b → ∃ k xs, H b = some (.arr k xs false)))
theorem takeCells_ok (s : Sim B w0 N T H x' a w) {own : List (Nat × Kd)} : ∀ (ls : List Leaf) (i : Nat) (ls' ls2 : List Leaf) (qs : List (Option Nat)) (vs : List Value) (j0 : Nat), takeCells H own i ls = some (ls', qs) → Rs (RL x' w) vs ls → Cos ls' ls2 → ls2.all plainB = true →
    (∀ j, j < qs.length → bs[j0 + j]? = qs[j]?) →
    ∃ ls3 hp, layCells own i (m + j0) ls2 = some (ls3, hp, m + j0 + qs.length) ∧ Rs (RL (renum x x' m bs) w) vs ls3 ∧ ∀ c o, (c, o) ∈ hp → Laid B H (renum x x' m bs) w m bs c o
  | [], i, ls', ls2, qs, vs, j0, h, hv, hc, hp, hq => by
    cases h
    cases ls2 with
    | cons => exact hc.elim
    | nil =>
      cases vs with
      | cons => exact hv.elim
      | nil => exact ⟨[], [], rfl, trivial, fun c o h => by cases h⟩
  | l :: ls, i, ls', ls2, qs, vs, j0, h, hv, hc, hp, hq => by
    cases vs with
    | nil => exact hv.elim
    | cons v vs =>
    simp only [takeCells] at h
    split at h
    · cases h
    · rename_i ls1 qs1 hr
      split at h
      · rename_i k hk
        split at h
        · rename_i ys q hy
          cases h
          cases ls2 with
          | nil => exact hc.elim
          | cons l2 ls2 =>
            have hl2 : l2 = .list k ys := by have := hc.1; cases this; rfl
            subst hl2
            simp only [List.all_cons, Bool.and_eq_true] at hp
            obtain ⟨ls3, hp3, g1, g2, g3⟩ := takeCells_ok s ls (i + 1) ls1 ls2 qs1 vs (j0 + 1) hr hv.2 hc.2 hp.2 fun j hj => by
              have := hq (j + 1) (by simp; omega)
              rw [show j0 + (j + 1) = j0 + 1 + j by omega] at this
              simpa using this
            have hj0 : bs[j0]? = some q := by have := hq 0 (by simp); simpa using this
            obtain ⟨r1, r2⟩ := takeRow_ok (x := x) (m := m) s hy hv.1 hj0
            refine ⟨.own (m + j0) :: ls3, (m + j0, some (.arr k ys false)) :: hp3, ?_, ⟨r1, g2⟩, fun c o hm => ?_⟩
            · simp only [layCells, hk]
              rw [show m + j0 + 1 = m + (j0 + 1) by omega, g1, Kd.cast_refl]
              simp only [List.length_cons]
              rw [show m + (j0 + 1) + qs1.length = m + j0 + (qs1.length + 1) by omega]
            · cases hm with
              | head => exact ⟨_, rfl, r2, .inr ⟨by omega, q, by rw [Nat.add_sub_cancel_left]; exact hj0, fun b hb => takeRow_src (by rw [hy, hb])⟩⟩
              | tail _ hm => exact g3 c o hm
        · cases h
      · rename_i hk
        cases h
        cases ls2 with
        | nil => exact hc.elim
        | cons l2 ls2 =>
          simp only [List.all_cons, Bool.and_eq_true] at hp
          obtain ⟨ls3, hp3, g1, g2, g3⟩ := takeCells_ok s ls (i + 1) ls1 ls2 qs vs j0 hr hv.2 hc.2 hp.2 hq
          have hl : RL (renum x x' m bs) w v l2 := RL.of_pl (x := renum x x' m bs) ((hv.1.co hc.1).of_plain hp.1)
          refine ⟨l2 :: ls3, hp3, ?_, ⟨hl, g2⟩, g3⟩
          simp only [layCells, hk, g1]
theorem take1_ok (s : Sim B w0 N T H x' a w) (hold : ∀ b, b < m → x'.ρ b = x.ρ b) {c : Car} {y : c.C} {qs : List (Option Nat)} {j0 : Nat} (h : take1 m T H c = some (y, qs)) (hq : ∀ j, j < qs.length → bs[j0 + j]? = qs[j]?) :
    ∃ tm hp, lay1 (m + j0) c y = some (tm, hp, m + j0 + qs.length) ∧ (∀ t v, (t, v) ∈ tm → ∃ u, v = some u ∧ RV (renum x x' m bs) w (a.tmps.getD t undef) u) ∧ ∀ c o, (c, o) ∈ hp → Laid B H (renum x x' m bs) w m bs c o := by
  unfold take1 at h
  split at h
  · rename_i t τ
    split at h
    · rename_i av ht
      split at h
      · rename_i y' hy
        cases h
        refine ⟨_, _, rfl, fun t' v hm => ?_, fun c o h => by cases h⟩
        simp only [List.mem_cons, List.not_mem_nil, or_false, Prod.mk.injEq] at hm
        obtain ⟨rfl, rfl⟩ := hm
        exact ⟨_, rfl, RA.lift (x := renum x x' m bs) (show RA (frz x'.D) w _ _ from RA.dec (x := x') (s.tmps _ _ ht) hy)⟩
      · cases h
    · cases h
  · rename_i t k
    split at h
    · rename_i l ht
      split at h
      · rename_i ys q hy
        cases h
        have hj0 : bs[j0]? = some q := by have := hq 0 (by simp); simpa using this
        obtain ⟨r1, r2⟩ := takeRow_ok (x := x) (m := m) s hy (s.tmps _ _ ht).leaf hj0
        refine ⟨_, _, rfl, fun t' v hm => ?_, fun c o hm => ?_⟩
        · simp only [List.mem_cons, List.not_mem_nil, or_false, Prod.mk.injEq] at hm
          obtain ⟨rfl, rfl⟩ := hm
          exact ⟨_, rfl, r1.mk⟩
        · simp only [List.mem_cons, List.not_mem_nil, or_false, Prod.mk.injEq] at hm
          obtain ⟨rfl, rfl⟩ := hm
          exact ⟨_, rfl, r2, .inr ⟨by omega, q, by rw [Nat.add_sub_cancel_left]; exact hj0, fun b hb => takeRow_src (by rw [hy, hb])⟩⟩
      · cases h
    · cases h
  · rename_i b k own
    obtain ⟨hlt, h1⟩ := cond_some h
    clear h
    have hlt : b < m := ble_le hlt
    split at h1
    · rename_i ls hb
      split at h1
      · rename_i ls' bs' hls
        split at h1
        · rename_i y' hy
          cases h1
          obtain ⟨ob, g1, g2, blk, cs, t, g4, g5, g6, g7⟩ := s.heap b _ hb
          obtain ⟨ls3, hp3, e1, e2, e3⟩ := takeCells_ok (x := x) (m := m) s ls 0 ls' (k.cells y) qs cs.toList j0 hls g6 (Kd.dec_cos hy) (Kd.cells_plain k y) hq
          refine ⟨[], (b, some (.cells ls3)) :: hp3, ?_, (fun t v h => by cases h), fun c o hm => ?_⟩
          · simp only [lay1, e1]
          · cases hm with
            | head =>
              obtain ⟨l1, l2⟩ := renum_low (x := x) (x' := x') (bs := bs) hlt
              exact ⟨_, rfl, ⟨ob, l1.trans ((hold b hlt).symm.trans g1), g2, blk, cs, t, g4, g5, e2, g7⟩, .inl ⟨hlt, ls, hb⟩⟩
            | tail _ hm => exact e3 c o hm
        · cases h1
      · cases h1
    · cases h1
theorem takeCars_ok (s : Sim B w0 N T H x' a w) (hold : ∀ b, b < m → x'.ρ b = x.ρ b) : ∀ (cs : List Car) (v : Vars cs) (qs : List (Option Nat)) (j0 : Nat), takeCars m T H cs = some (v, qs) → (∀ j, j < qs.length → bs[j0 + j]? = qs[j]?) →
    ∃ tm hp, layCars (m + j0) cs v = some (tm, hp, m + j0 + qs.length) ∧ (∀ t v, (t, v) ∈ tm → ∃ u, v = some u ∧ RV (renum x x' m bs) w (a.tmps.getD t undef) u) ∧ ∀ c o, (c, o) ∈ hp → Laid B H (renum x x' m bs) w m bs c o
  | [], v, qs, j0, h, hq => by cases h; exact ⟨[], [], rfl, (fun t v h => by cases h), fun c o h => by cases h⟩
  | c :: cs, v, qs, j0, h, hq => by
    simp only [takeCars] at h
    split at h
    · rename_i y q1 ys q2 h1 h2
      cases h
      obtain ⟨tm1, hp1, a1, a2, a3⟩ := take1_ok (j0 := j0) s hold h1 fun j hj => by
        have := hq j (by simp; omega)
        rw [this, List.getElem?_append_left hj]
      obtain ⟨tm2, hp2, b1, b2, b3⟩ := takeCars_ok s hold cs ys q2 (j0 + q1.length) h2 fun j hj => by
        have := hq (q1.length + j) (by simp; omega)
        rw [List.getElem?_append_right (by omega), Nat.add_sub_cancel_left] at this
        rw [← this]; congr 1; omega
      refine ⟨tm1 ++ tm2, hp1 ++ hp2, ?_, fun t v hm => ?_, fun c o hm => ?_⟩
      · simp only [layCars, a1]
        rw [show m + j0 + q1.length = m + (j0 + q1.length) by omega, b1]
        simp only [List.length_append]
        rw [show m + (j0 + q1.length) + q2.length = m + j0 + (q1.length + q2.length) by omega]
      · rcases List.mem_append.1 hm with hm | hm
        · exact a2 t v hm
        · exact b2 t v hm
      · rcases List.mem_append.1 hm with hm | hm
        · exact a3 c o hm
        · exact b3 c o hm
    · cases h
end
end Go.Proofs.YtihhgenbkiollaaGreat

/- The abstract machine, part fp: loops by annotation. No condition. -/
namespace Go.Proofs.YtihhgenbkiollaaGreat
open Go Go.RowKit
theorem lk_mem {α : Type} {t : Nat} {v : α} : ∀ {l : List (Nat × α)}, lk t l = some v → (t, v) ∈ l
  | [], h => by cases h
  | (u, y) :: l, h => by
    simp only [lk] at h
    cases he : Nat.beq u t with
    | true => rw [he] at h; cases beq_eq he; cases h; exact List.mem_cons_self ..
    | false => rw [he] at h; exact List.mem_cons_of_mem _ (lk_mem h)
section
variable {B : Nat} {w0 : World} {N : Nat} {T : Nat → Option AVal} {H : Nat → Option Obj} {x x' : Cx} {a : Act} {w we : World} {m : Nat} {bs : List (Option Nat)}
theorem eqPs_ok (hold : ∀ b, b < m → x'.ρ b = x.ρ b) : ∀ (ps qs : List Loc) (vs : List Value), eqPs m ps qs = true → Rs (fun v l => RL0 x' w v (.ptr l)) vs qs → Rs (fun v l => RL0 (renum x x' m bs) w v (.ptr l)) vs ps
  | [], [], [], _, _ => trivial
  | [], [], _ :: _, _, h => h.elim
  | [], _ :: _, _, h, _ => by cases h
  | p :: ps, qs, vs, h, hv => by
    unfold eqPs at h
    split at h
    · rename_i h1; cases h1
    · rename_i b o r b' o' r' h1
      cases h1
      cases vs with
      | nil => exact hv.elim
      | cons v vs =>
        cases hc : (Nat.beq b b' && Nat.beq o o' && Nat.blt b m) with
        | false => rw [hc] at h; cases h
        | true =>
          rw [hc] at h
          simp only [Bool.and_eq_true] at hc
          cases beq_eq hc.1.1; cases beq_eq hc.1.2
          have hlt : b < m := ble_le hc.2
          obtain ⟨blk, g1, g2⟩ := hv.1
          exact ⟨⟨blk, (renum_low hlt).1.trans ((hold b hlt).symm.trans g1), g2⟩, eqPs_ok hold ps r' vs h hv.2⟩
    · cases h
theorem eqLf_ok (hold : ∀ b, b < m → x'.ρ b = x.ρ b) {l l' : Leaf} {v : Value} (h : eqLf m l l' = true) (hv : RL x' w v l') : RL (renum x x' m bs) w v l := by
  unfold eqLf at h
  split at h
  · rename_i p q
    have hr : Rs (fun v l => RL0 x' w v (.ptr l)) [v] [q] := ⟨hv.ptr, trivial⟩
    exact .inl (.inl (eqPs_ok (bs := bs) hold [p] [q] [v] h hr).1)
  · cases beq_eq h; exact RL.of_pl (hv.of_plain rfl)
  · rw [hv.nilf]; exact RL.of_pl .nilf
  · rename_i f g cap f' g' cap'
    simp only [Bool.and_eq_true, beq_iff_eq] at h
    cases beq_eq h.1.1; cases h.1.2
    obtain ⟨vf, vc, h1, h2, h3⟩ := hv.closure
    have : vf = [] := by cases vf with | nil => rfl | cons => exact h2.elim
    subst this
    exact .inl (.inr ⟨_, _, _, _, rfl, [], vc, h1, trivial, eqPs_ok hold _ _ _ h.2 h3⟩)
  · cases h
theorem eqLfs_ok (hold : ∀ b, b < m → x'.ρ b = x.ρ b) : ∀ (ls ls' : List Leaf) (vs : List Value), eqLfs m ls ls' = true → Rs (RL x' w) vs ls' → Rs (RL (renum x x' m bs) w) vs ls
  | [], [], [], _, _ => trivial
  | [], [], _ :: _, _, h => h.elim
  | [], _ :: _, _, h, _ => by cases h
  | _ :: _, [], _, h, _ => by cases h
  | l :: ls, l' :: ls', [], _, h => h.elim
  | l :: ls, l' :: ls', v :: vs, h, hv => by
    simp only [eqLfs] at h
    cases hc : eqLf m l l' with
    | false => rw [hc] at h; cases h
    | true => rw [hc] at h; exact ⟨eqLf_ok hold hc hv.1, eqLfs_ok hold ls ls' vs h hv.2⟩
theorem fixed_ok (s : Sim B w0 N T H x' a w) (hold : ∀ b, b < m → x'.ρ b = x.ρ b) : ∀ (fs : List Fix), fixed m T H fs = true →
    (∀ t v, (t, v) ∈ fixTm fs → ∃ u, v = some u ∧ RV (renum x x' m bs) w (a.tmps.getD t undef) u) ∧ ∀ c o, (c, o) ∈ fixHp fs → Laid B H (renum x x' m bs) w m bs c o
  | [], _ => ⟨(fun t v h => by cases h), fun c o h => by cases h⟩
  | .s t av :: r, h => by
    simp only [fixed] at h
    cases hc : fixS m av (T t) with
    | false => rw [hc] at h; cases h
    | true =>
      rw [hc] at h
      obtain ⟨h1, h2⟩ := fixed_ok s hold r h
      refine ⟨fun t' v hm => ?_, h2⟩
      cases hm with
      | tail _ hm => exact h1 t' v hm
      | head =>
        unfold fixS at hc
        split at hc
        · rename_i av' ht
          simp only [Bool.and_eq_true, beq_iff_eq] at hc
          obtain ⟨hg, hls⟩ := hc
          obtain ⟨g, ls⟩ := av
          obtain ⟨g', ls'⟩ := av'
          have hg : g = g' := hg
          subst hg
          refine ⟨_, rfl, ?_⟩
          have hv := s.tmps t _ ht
          show RA _ w _ ⟨g, ls⟩
          cases g with
          | true => obtain ⟨vs, g1, g2⟩ := hv; exact ⟨vs, g1, eqLfs_ok hold _ _ _ hls g2⟩
          | false =>
            obtain ⟨l', g1, g2⟩ := hv
            have g1 : ls' = [l'] := g1
            subst g1
            have hr : Rs (RL x' w) [a.tmps.getD t undef] [l'] := ⟨g2, trivial⟩
            have := eqLfs_ok (bs := bs) hold _ _ _ hls hr
            match ls, this with
            | [l], this => exact ⟨l, rfl, this.1⟩
            | [], this => exact this.elim
            | _ :: _ :: _, this => exact this.2.elim
        · cases hc
  | .b b ls :: r, h => by
    simp only [fixed] at h
    cases hc : fixB m b ls (H b) with
    | false => rw [hc] at h; cases h
    | true =>
      rw [hc] at h
      obtain ⟨h1, h2⟩ := fixed_ok s hold r h
      refine ⟨h1, fun c o hm => ?_⟩
      cases hm with
      | tail _ hm => exact h2 c o hm
      | head =>
        unfold fixB at hc
        split at hc
        · rename_i ls' hb
          simp only [Bool.and_eq_true] at hc
          have hlt : b < m := ble_le hc.1
          obtain ⟨ob, g1, g2, blk, cs, t, g4, g5, g6, g7⟩ := s.heap b _ hb
          obtain ⟨l1, l2⟩ := renum_low (x := x) (x' := x') (bs := bs) hlt
          exact ⟨_, rfl, ⟨ob, l1.trans ((hold b hlt).symm.trans g1), g2, blk, cs, t, g4, g5, eqLfs_ok hold _ _ _ hc.2 g6, g7⟩, .inl ⟨hlt, ls', hb⟩⟩
        · cases hc
theorem memO_some {b : Nat} : ∀ {l : List (Option Nat)} {j : Nat}, l[j]? = some (some b) → memO b l = true
  | [], j, h => by simp at h
  | some c :: l, 0, h => by simp at h; subst h; simp [memO]
  | some c :: l, j + 1, h => by
    have := memO_some (l := l) (j := j) (by simpa using h)
    simp only [memO, this]
    cases Nat.beq b c <;> rfl
  | none :: l, 0, h => by simp at h
  | none :: l, j + 1, h => by
    have := memO_some (l := l) (j := j) (by simpa using h)
    simp only [memO, this]
theorem nodupO_inj {b : Nat} : ∀ {l : List (Option Nat)}, nodupO l = true → ∀ {i j : Nat}, l[i]? = some (some b) → l[j]? = some (some b) → i = j
  | [], _, i, j, h, _ => by simp at h
  | none :: l, hn, 0, _, h, _ => by simp at h
  | none :: l, hn, _ + 1, 0, _, h => by simp at h
  | none :: l, hn, i + 1, j + 1, h, h' => by
    exact congrArg (· + 1) (nodupO_inj (l := l) hn (b := b) (by simpa using h) (by simpa using h'))
  | some c :: l, hn, i, j, h, h' => by
    simp only [nodupO] at hn
    cases hm : memO c l with
    | true => rw [hm] at hn; cases hn
    | false =>
      rw [hm] at hn
      cases i with
      | zero =>
        simp at h
        subst h
        cases j with
        | zero => rfl
        | succ j => rw [memO_some (j := j) (by simpa using h')] at hm; cases hm
      | succ i =>
        cases j with
        | zero =>
          simp at h'
          subst h'
          rw [memO_some (j := i) (by simpa using h)] at hm; cases hm
        | succ j => exact congrArg (· + 1) (nodupO_inj (l := l) hn (b := b) (by simpa using h) (by simpa using h'))
theorem renumber {cs : List Car} {fs : List Fix} (s : Sim B w0 N T H x' a w) (evo : Evo x we x' w) (hold : ∀ b, b < m → x'.ρ b = x.ρ b) (hf : Fresh m x) {v : Vars cs} (ht : take m cs fs T H = some (v, bs)) :
    ∃ s2 n2, lay m cs fs v = some (s2, n2) ∧ m ≤ n2 ∧ ∃ x2, Sim B w0 N (getT ⟨[], []⟩ s2) (getH ⟨[], []⟩ s2) x2 a w ∧ Evo x we x2 w ∧ (∀ b, ¬ (m ≤ b ∧ b < n2) → x2.ρ b = x.ρ b) := by
  unfold take at ht
  split at ht
  · rename_i v' bs' hcars
    obtain ⟨hc, ht⟩ := cond_some ht
    cases ht
    simp only [Bool.and_eq_true] at hc
    obtain ⟨hfix, hnd⟩ := hc
    obtain ⟨tm, hp, l1, l2, l3⟩ := takeCars_ok (x := x) (bs := bs) s hold cs v bs 0 hcars fun j _ => by rw [Nat.zero_add]
    obtain ⟨f1, f2⟩ := fixed_ok (x := x) (bs := bs) s hold fs hfix
    have low : ∀ c, c < m → (renum x x' m bs).ρ c = x.ρ c := fun c h => (renum_low h).1
    have ent : ∀ c o, getH ⟨[], []⟩ (⟨tm ++ fixTm fs, hp ++ fixHp fs⟩ : St) c = some o → HeapOk B (renum x x' m bs) w c o ∧ ((c < m ∧ ∃ ls, H c = some (.cells ls)) ∨ (m ≤ c ∧ ∃ q, bs[c - m]? = some q ∧ ∀ b, q = some b → ∃ k xs, H b = some (.arr k xs false))) := by
      intro c o h
      simp only [getH] at h
      split at h
      · rename_i o' hl
        subst h
        rcases List.mem_append.1 (lk_mem hl) with hm | hm
        · obtain ⟨o', e, g1, g2⟩ := l3 c _ hm; cases e; exact ⟨g1, g2⟩
        · obtain ⟨o', e, g1, g2⟩ := f2 c _ hm; cases e; exact ⟨g1, g2⟩
      · simp [lk] at h
    refine ⟨⟨tm ++ fixTm fs, hp ++ fixHp fs⟩, m + bs.length, ?_, Nat.le_add_right _ _, renum x x' m bs, ?_, ?_, ?_⟩
    · simp only [lay]
      rw [show m = m + 0 by rfl, l1]
    · exact {
        below := s.below
        size := s.size
        slots := s.slots
        defers := s.defers
        tmps := by
          intro t u hu
          simp only [getT] at hu
          split at hu
          · rename_i u' hl
            subst hu
            rcases List.mem_append.1 (lk_mem hl) with hm | hm
            · obtain ⟨u', e, g1⟩ := l2 t _ hm; cases e; exact g1
            · obtain ⟨u', e, g1⟩ := f1 t _ hm; cases e; exact g1
          · simp [lk] at hu
        heap := fun c o h => (ent c o h).1
        inj := by
          intro c c' o o' blk h h' hr hr'
          have g := (ent c o h).2
          have g' := (ent c' o' h').2
          have up : ∀ c, (m ≤ c ∧ ∃ q, bs[c - m]? = some q ∧ ∀ b, q = some b → ∃ k xs, H b = some (.arr k xs false)) → (renum x x' m bs).ρ c = some (some blk) → ∃ b, bs[c - m]? = some (some b) ∧ x'.ρ b = some (some blk) ∧ ∃ k, ∃ xs : List k.C, H b = some (.arr k xs false) := by
            rintro c ⟨hle, q, hq, hs⟩ hr
            have e := (renum_at (x := x) (x' := x') (m := m) hq).1
            rw [show m + (c - m) = c by omega] at e
            rw [e] at hr
            cases q with
            | none => cases hr
            | some b => obtain ⟨k, xs, hb⟩ := hs b rfl; exact ⟨b, hq, hr, k, xs, hb⟩
          rcases g with ⟨hlt, ls, hb⟩ | g <;> rcases g' with ⟨hlt', ls', hb'⟩ | g'
          · rw [low c hlt, ← hold c hlt] at hr
            rw [low c' hlt', ← hold c' hlt'] at hr'
            exact s.inj c c' _ _ blk hb hb' hr hr'
          · rw [low c hlt, ← hold c hlt] at hr
            obtain ⟨b, _, e2, k, xs, e3⟩ := up c' g' hr'
            have := s.inj c b _ _ blk hb e3 hr e2
            subst this
            rw [hb] at e3; cases e3
          · rw [low c' hlt', ← hold c' hlt'] at hr'
            obtain ⟨b, _, e2, k, xs, e3⟩ := up c g hr
            have := s.inj c' b _ _ blk hb' e3 hr' e2
            subst this
            rw [hb'] at e3; cases e3
          · obtain ⟨b, e1, e2, k, xs, e3⟩ := up c g hr
            obtain ⟨b', e1', e2', k', xs', e3'⟩ := up c' g' hr'
            have := s.inj b b' _ _ blk e3 e3' e2 e2'
            subst this
            have := nodupO_inj hnd e1 e1'
            have h1 := g.1
            have h2 := g'.1
            omega
        dlt := s.dlt }
    · exact {
        ρ := fun b o hb => by
          have hlt : b < m := by
            rcases Nat.lt_or_ge b m with h | h
            · exact h
            · rw [hf b h] at hb; cases hb
          exact (low b hlt).trans hb
        κ := fun b o hb => by
          have hlt : b < m := by
            rcases Nat.lt_or_ge b m with h | h
            · exact h
            · rw [hf b h] at hb; cases hb
          exact (renum_low hlt).2.trans (evo.κ b o hb)
        D := evo.D
        cell := evo.cell
        sz := evo.sz
        dn := evo.dn
        rn := fun c b hb hc => by
          rcases Nat.lt_or_ge c m with h | h
          · rw [low c h] at hc; exact ⟨c, hc⟩
          · have hc : (if c < m then x.ρ c else if c < m + bs.length then tblρ x' (bs.getD (c - m) none) else none) = some (some b) := hc
            rw [if_neg (by omega)] at hc
            split at hc
            · cases hq : bs.getD (c - m) none with
              | none => rw [hq] at hc; cases hc
              | some b' => rw [hq] at hc; exact evo.rn b' b hb hc
            · cases hc }
    · intro b hb
      rcases Nat.lt_or_ge b m with h | h
      · exact low b h
      · show (if b < m then x.ρ b else if b < m + bs.length then tblρ x' (bs.getD (b - m) none) else none) = _
        rw [if_neg (by omega), if_neg (by omega)]
        exact (hf b h).symm
  · cases ht
end
section
variable {R : Type} {P : Program} {N : Nat}
/-- a loop, by what it carries and a function of that -/
theorem evalAnn_ok {a : Ann R} {c : Code} {body : Run R} (hbody : RunOk P N c body) (Lf : Nat → Vars a.cs → (Ex → Vars a.cs → Option R) → Option R) (h0 : ∀ v k, Lf 0 v k = none)
    (hS : ∀ n v k r, Lf (n + 1) v k = some r → ∀ s0 n0, lay a.nx a.cs a.fs v = some (s0, n0) →
      body ⟨[], []⟩ n0 s0 (fun x _ s' => need (take a.nx a.cs a.fs (getT ⟨[], []⟩ s') (getH ⟨[], []⟩ s')) fun p => match x with | .normal => Lf n p.1 k | x => k x p.1) = some r)
    (hL : ∀ v k r, a.L v k = some r → ∃ n, Lf n v k = some r) : RunOk P N (.loop c) (evalAnn a) := by
  intro e nx s k r B w0 x act w sim hf h
  obtain ⟨et, eh⟩ := e
  unfold evalAnn at h
  split at h
  · rename_i he
    cases he
    obtain ⟨⟨v, bs⟩, htake, h⟩ := need_some h
    obtain ⟨hle, h⟩ := cond_some h
    have hle : nx ≤ a.nx := ble_le hle
    obtain ⟨n, hn⟩ := hL _ _ _ h
    have hfm : Fresh a.nx x := fun b hb => hf b (Nat.le_trans hle hb)
    obtain ⟨s0, n0, g1, g2, x2, g3, g4, g5⟩ := renumber sim (Evo.refl x w) (fun _ _ => rfl) hfm htake
    refine wp_loop_n (n := n) (fun n a' w' => ∃ v s0 n0 x', Lf n v (fun x v' => need (lay a.nx a.cs a.fs v') fun p => k x p.2 p.1) = some r ∧ lay a.nx a.cs a.fs v = some (s0, n0) ∧ a.nx ≤ n0 ∧
      Sim B w0 N (getT ⟨[], []⟩ s0) (getH ⟨[], []⟩ s0) x' a' w' ∧ Evo x w x' w' ∧ (∀ b, ¬ (a.nx ≤ b ∧ b < n0) → x'.ρ b = x.ρ b)) ?_ ⟨v, s0, n0, x2, hn, g1, g2, g3, g4, g5⟩
    rintro n a1 w1 ⟨v1, s1, n1, x1, h1, h2, h3, h4, h5, h6⟩
    cases n with
    | zero => rw [h0] at h1; cases h1
    | succ n =>
      have hfr : Fresh n1 x1 := fun b hb => (h6 b (by omega)).trans (hf b (by omega))
      refine wp_mono (hbody ⟨[], []⟩ n1 s1 _ r B w0 x1 a1 w1 h4 hfr (hS n v1 _ r h1 s1 n1 h2)) fun ex a' w' => ?_
      rintro ⟨xe, x', nx', s', rfl, k1, k2, k3⟩
      obtain ⟨⟨v2, bs2⟩, htake2, k1⟩ := need_some k1
      obtain ⟨s2, n2, m1, m2, x3, m3, m4, m5⟩ := renumber k3 (h5.trans k2.evo) (fun b hb => (k2.old b (by omega)).trans (h6 b (by omega))) hfm htake2
      have fin : ∀ xe : Ex, (need (lay a.nx a.cs a.fs v2) fun p => k xe p.2 p.1) = some r → Aft B w0 N ⟨[], []⟩ x w nx k r xe.to a' w' := by
        intro xe hk
        obtain ⟨⟨s2', n2'⟩, hlay, hk⟩ := need_some hk
        rw [m1] at hlay
        cases hlay
        exact ⟨xe, x3, n2, s2, rfl, hk, ⟨m4, by omega, fun b hb => m5 b (by omega)⟩, m3⟩
      cases xe with
      | normal => exact ⟨n, Nat.lt_succ_self n, v2, s2, n2, x3, k1, m1, m2, m3, m4, m5⟩
      | exit id => exact fin (.exit id) k1
      | goto l => exact fin (.goto l) k1
      | ret => exact fin .ret k1
  · cases h
end
end Go.Proofs.YtihhgenbkiollaaGreat
