/- MachineIdle: whatever the turn and the number, a thread that is idle does nothing: the law's function answers true and leaves its arguments as they were. No condition. -/
import Derived.Test.YtihhgenbkiollaaGreatMd
import Derived.ProofKit
import Derived.Test.YtihhgenbkiollaaGreatRows
/- What a law's arguments read as: data of the kinds. No condition. -/
namespace Go.Proofs.YtihhgenbkiollaaGreat
open Go Go.Proofs Go.RowKit
set_option maxRecDepth 100000
section
variable {H : Type} {enc : TypeId × Value → H} {P : Program} {W : World}
/-- the places' cells -/
abbrev Dp (ps : List MemPlace) : Nat → Nat → Prop := fun b o => MemPlace.cell b o ∈ ps
/-- whatever is read at type t stands for leaves of which Q is true -/
def Reads (enc : TypeId × Value → H) (P : Program) (W : World) (t : TypeId) (Q : List Leaf → Prop) : Prop :=
  ∀ fuel cs d ps, DataW.trod enc P W 0 (fun _ => true) true fuel t cs = some (d, ps) → ∃ ls, Q ls ∧ Rs (PL W (Dp ps)) cs ls
/-- .. for the cells of a good datum of a kind -/
def QK (k : Kd) (G : k.C → Prop) (ls : List Leaf) : Prop := ∃ x, G x ∧ ls = k.cells x
theorem PL.sub {D D' : Nat → Nat → Prop} (h : ∀ b o, D b o → D' b o) {v : Value} {l : Leaf} (hp : PL W D v l) : PL W D' v l := hp.mono h (fun _ _ _ => rfl)
abbrev I64 (n : Int) : Prop := (Lit.int .i64 n).wf = true
theorem rd_int {t : TypeId} {k : IntKind} (ht : P.underlying t = some (.int k)) : Reads enc P W t (fun ls => ∃ n, (Lit.int k n).wf = true ∧ ls = [.int k n]) := by
  intro fuel cs d ps h
  obtain ⟨n, rfl, hx, hw⟩ := DataW.trod_int ht h
  exact ⟨_, ⟨n, hw, rfl⟩, .int k n, trivial⟩
theorem rd_i64 {t : TypeId} (ht : P.underlying t = some (.int .i64)) : Reads enc P W t (QK .int I64) := rd_int ht
theorem trod_boolean {t : TypeId} {base fuel : Nat} {spare : Nat → Bool} {held : Bool} {cs : List Value} {x : DataW H × List MemPlace} (ht : P.underlying t = some .bool) (h : DataW.trod enc P W base spare held fuel t cs = some x) : ∃ b, cs = [.bool b] ∧ x = (.lit (.bool b), []) := by
  cases fuel with
  | zero => simp [DataW.trod] at h
  | succ n =>
    unfold DataW.trod at h
    rw [ht] at h
    split at h <;> simp_all
theorem rd_bool {t : TypeId} (ht : P.underlying t = some .bool) : Reads enc P W t (QK .bool fun _ => True) := by
  intro fuel cs d ps h
  obtain ⟨b, rfl, hx⟩ := trod_boolean ht h
  exact ⟨_, ⟨b, trivial, rfl⟩, .bool b, trivial⟩
theorem rd_slice {t e : TypeId} {k : Kd} {G : k.C → Prop} (ht : P.underlying t = some (.slice e)) (hs : P.cellsOf e = k.sz) (he : Reads enc P W e (QK k G)) :
    Reads enc P W t (fun ls => ∃ xs : List k.C, (∀ x ∈ xs, G x) ∧ ls = [.list k xs]) := by
  intro fuel cs d ps h
  rcases DataW.trod_slice ht h with ⟨rfl, hx⟩ | ⟨a, len, cap, elems, rest, n, rfl, rfl, hx, hb, hl, hm, hlen, hel, _⟩
  · exact ⟨_, ⟨[], by simp, rfl⟩, PL.co .nils (.nils k), trivial⟩
  · have each : ∀ i, ∃ x : k.C, i < len → G x ∧ ∃ vs, W.cells? 0 (a.add (i * k.sz)) k.sz = some vs ∧ Rs (PL W (Dp ps)) vs (k.cells x) := by
      intro i
      by_cases hi : i < len
      · have h1 := hel i hi
        rw [hs] at h1
        obtain ⟨y, hy⟩ : ∃ y, elems[i]? = some y := ⟨elems[i]'(by omega), List.getElem?_eq_getElem (by omega)⟩
        rw [hy] at h1
        obtain ⟨vs, hv, hd⟩ := Option.bind_eq_some_iff.1 h1
        obtain ⟨ls, ⟨x, hg, rfl⟩, hr⟩ := he n vs y.1 y.2 hd
        refine ⟨x, fun _ => ⟨hg, vs, hv, hr.mono fun _ _ => PL.sub fun b o hbo => ?_⟩⟩
        have hps : ps = _ := (Prod.mk.inj hx).2
        show MemPlace.cell b o ∈ ps
        rw [hps]
        refine List.mem_append_right _ (List.mem_flatMap.2 ⟨y, List.mem_append_left _ (List.mem_of_getElem? hy), hbo⟩)
      · exact ⟨k.dflt, fun h => absurd h hi⟩
    let f : Nat → k.C := fun i => Classical.choose (each i)
    have hf : ∀ i, i < len → G (f i) ∧ ∃ vs, W.cells? 0 (a.add (i * k.sz)) k.sz = some vs ∧ Rs (PL W (Dp ps)) vs (k.cells (f i)) := fun i => Classical.choose_spec (each i)
    have spot : 0 < len → a = ⟨a.block, a.off, none⟩ := by
      intro h0
      obtain ⟨_, vs, hv, _⟩ := hf 0 h0
      obtain ⟨_, hl', hc⟩ := World.cells?_some hv
      have h1 := hc 0 k.sz_pos
      have hvl : vs[0]? = some (vs[0]'(by have := k.sz_pos; omega)) := List.getElem?_eq_getElem _
      rw [hvl] at h1
      simp only [Nat.zero_mul, Addr.add, if_true] at h1
      unfold World.cell? at h1
      obtain ⟨ab, ao, asp⟩ := a
      cases asp with
      | none => rfl
      | some s => split at h1 <;> simp at h1
    refine ⟨_, ⟨(List.range len).map f, fun x hx => ?_, rfl⟩, ?_, trivial⟩
    · obtain ⟨i, hi, rfl⟩ := List.mem_map.1 hx
      exact (hf i (List.mem_range.1 hi)).1
    · have hlen' : ((List.range len).map f).length = len := by simp
      have cell : ∀ i j, i < len → j < k.sz → ∃ c, W.cell? ⟨a.block, a.off + i * k.sz + j, none⟩ = some c ∧ PL W (Dp ps) c ((k.cells (f i)).getD j .nils) := by
        intro i j hi hj
        obtain ⟨_, vs, hv, hr⟩ := hf i hi
        obtain ⟨_, hl', hc⟩ := World.cells?_some hv
        have h1 := hc j hj
        have ha := spot (by omega)
        rw [ha, addr_add, addr_add] at h1
        have hvl : vs[j]? = some (vs[j]'(by omega)) := List.getElem?_eq_getElem _
        rw [hvl] at h1
        have hkl : j < (k.cells (f i)).length := by rw [k.cells_length]; exact hj
        obtain ⟨c, hc1, hc2⟩ := hr.get j _ (List.getElem?_eq_getElem hkl)
        rw [hvl] at hc1
        cases hc1
        exact ⟨_, h1, by simpa [List.getD_eq_getElem?_getD, hkl] using hc2⟩
      have := PL.list (w := W) (D := Dp ps) k ((List.range len).map f) (some a) cap (by omega) (fun i j => (W.cell? ⟨a.block, a.off + i * k.sz + j, none⟩).getD undef) (fun i j hi hj => by
        rw [hlen'] at hi
        obtain ⟨c, hc, _⟩ := cell i j hi hj
        refine ⟨a.block, a.off, by rw [← spot (by omega)], ?_, by rw [hc]; rfl⟩
        have hps : ps = _ := (Prod.mk.inj hx).2
        show MemPlace.cell _ _ ∈ ps
        rw [hps]
        refine List.mem_append_left _ (List.mem_map.2 ⟨i * k.sz + j, List.mem_range.2 ?_, by simp only [Nat.add_assoc]⟩)
        rw [hs]
        have h2 : (i + 1) * k.sz ≤ len * k.sz := Nat.mul_le_mul_right _ hi
        have h3 : len * k.sz ≤ (elems.length + rest.length) * k.sz := Nat.mul_le_mul_right _ (by omega)
        rw [Nat.add_mul] at h2
        omega) (fun i j hi hj => by
        rw [hlen'] at hi
        obtain ⟨c, hc, hp⟩ := cell i j hi hj
        rw [hc]
        have : ((List.range len).map f).getD i k.dflt = f i := by simp [List.getD_eq_getElem?_getD, hi]
        rw [this]; exact hp)
      rwa [hlen'] at this
/-- the fields of a struct, one behind the other -/
def FieldsReads (enc : TypeId × Value → H) (P : Program) (W : World) (m : Nat) : Nat → List Field → List (Nat × (List Leaf → Prop)) → Prop
  | off, [], [] => off = m
  | off, f :: fs, (n, Q) :: Qs => f.offset = off ∧ P.cellsOf f.type = n ∧ Reads enc P W f.type Q ∧ FieldsReads enc P W m (off + n) fs Qs
  | _, _, _ => False
theorem fields_rd {cs : List Value} {n : Nat} : ∀ (fs : List Field) (Qs : List (Nat × (List Leaf → Prop))) (off : Nat) (xs : List (DataW H × List MemPlace)), FieldsReads enc P W cs.length off fs Qs → xs.length = fs.length →
    (∀ (i : Nat) (f : Field), fs[i]? = some f → DataW.trod enc P W 0 (fun _ => true) true n f.type ((cs.drop f.offset).take (P.cellsOf f.type)) = xs[i]?) →
    ∃ lss, Rs (fun (l : List Leaf) (Q : Nat × (List Leaf → Prop)) => Q.2 l) lss Qs ∧ Rs (PL W (Dp (xs.flatMap (·.2)))) (cs.drop off) lss.flatten
  | [], [], off, [], he, _, _ => ⟨[], trivial, by
      have : cs.drop off = [] := by rw [List.drop_eq_nil_iff]; exact Nat.le_of_eq he.symm
      rw [this]; exact trivial⟩
  | f :: fs, (sz, Q) :: Qs, off, x :: xs, ⟨h1, hsz, h2, h3⟩, hl, ht => by
    obtain ⟨lss, g1, g2⟩ := fields_rd fs Qs _ xs h3 (by simpa using hl) (fun i f' hf => by simpa using ht (i + 1) f' (by simpa using hf))
    have h0 := ht 0 f rfl
    obtain ⟨d, ps⟩ := x
    obtain ⟨ls, hq, hr⟩ := h2 n _ d ps h0
    rw [h1, hsz] at hr
    refine ⟨ls :: lss, ⟨hq, g1⟩, ?_⟩
    have hs : cs.drop off = (cs.drop off).take sz ++ cs.drop (off + sz) := by rw [← List.drop_drop, List.take_append_drop]
    rw [hs, List.flatten_cons]
    exact (hr.mono fun _ _ => PL.sub fun b o h => List.mem_flatMap.2 ⟨(d, ps), by simp, h⟩).append (g2.mono fun _ _ => PL.sub fun b o h => by
      obtain ⟨y, hy, hb⟩ := List.mem_flatMap.1 h
      exact List.mem_flatMap.2 ⟨y, by simp [hy], hb⟩)
  | [], _ :: _, _, _, h, _, _ => h.elim
  | _ :: _, [], _, _, h, _, _ => h.elim
  | [], [], _, _ :: _, _, hl, _ => by simp at hl
  | _ :: _, _ :: _, _, [], _, hl, _ => by simp at hl
theorem rd_struct {t : TypeId} {m : Nat} {fs : Array Field} {Qs : List (Nat × (List Leaf → Prop))} {Q : List Leaf → Prop} (ht : P.underlying t = some (.struct fs)) (he : P.cellsOf t = m) (hf : FieldsReads enc P W m 0 fs.toList Qs)
    (hQ : ∀ lss, Rs (fun (l : List Leaf) (Q : Nat × (List Leaf → Prop)) => Q.2 l) lss Qs → Q lss.flatten) : Reads enc P W t Q := by
  intro fuel cs d ps h
  obtain ⟨xs, n, rfl, hx, hl, hxl, hi⟩ := DataW.trod_struct ht h
  obtain ⟨lss, g1, g2⟩ := fields_rd (n := n) (cs := cs) fs.toList Qs 0 xs (by rw [hl, he]; exact hf) (by simpa using hxl) (fun i f hf => hi i f (by simpa using hf))
  have hps : ps = _ := (Prod.mk.inj hx).2
  exact ⟨_, hQ lss g1, by rw [hps]; simpa using g2⟩
end

theorem rq_cons {lss : List (List Leaf)} {n : Nat} {Q : List Leaf → Prop} {Qs : List (Nat × (List Leaf → Prop))} (h : Rs (fun (l : List Leaf) (Q : Nat × (List Leaf → Prop)) => Q.2 l) lss ((n, Q) :: Qs)) :
    ∃ l r, lss = l :: r ∧ Q l ∧ Rs (fun (l : List Leaf) (Q : Nat × (List Leaf → Prop)) => Q.2 l) r Qs := by
  cases lss with
  | nil => exact h.elim
  | cons l r => exact ⟨l, r, rfl, h⟩
theorem rq_nil {lss : List (List Leaf)} (h : Rs (fun (l : List Leaf) (Q : Nat × (List Leaf → Prop)) => Q.2 l) lss []) : lss = [] := by
  cases lss with
  | nil => rfl
  | cons l r => exact h.elim
/-! the kinds -/
theorem cl3 : Tryz.prog.cellsOf 3 = 1 := by kernel_rfl
theorem cl4 : Tryz.prog.cellsOf 4 = 1 := by kernel_rfl
theorem cl5 : Tryz.prog.cellsOf 5 = 1 := by kernel_rfl
theorem cl23 : Tryz.prog.cellsOf 23 = 12 := by kernel_rfl
theorem cl24 : Tryz.prog.cellsOf 24 = 1 := by kernel_rfl
theorem cl25 : Tryz.prog.cellsOf 25 = 1 := by kernel_rfl
theorem cl29 : Tryz.prog.cellsOf 29 = 1 := by kernel_rfl
theorem cl31 : Tryz.prog.cellsOf 31 = 2 := by kernel_rfl
theorem cl34 : Tryz.prog.cellsOf 34 = 2 := by kernel_rfl
theorem cl35 : Tryz.prog.cellsOf 35 = 1 := by kernel_rfl
theorem cl48 : Tryz.prog.cellsOf 48 = 2 := by kernel_rfl
theorem cl50 : Tryz.prog.cellsOf 50 = 8 := by kernel_rfl
theorem cl54 : Tryz.prog.cellsOf 54 = 1 := by kernel_rfl
theorem cl55 : Tryz.prog.cellsOf 55 = 1 := by kernel_rfl
theorem cl57 : Tryz.prog.cellsOf 57 = 17 := by kernel_rfl
theorem cl63 : Tryz.prog.cellsOf 63 = 5 := by kernel_rfl
theorem cl65 : Tryz.prog.cellsOf 65 = 6 := by kernel_rfl
theorem cl69 : Tryz.prog.cellsOf 69 = 37 := by kernel_rfl
theorem cl160 : Tryz.prog.cellsOf 160 = 3 := by kernel_rfl
theorem cl202 : Tryz.prog.cellsOf 202 = 2 := by kernel_rfl

structure Opn.Ok (x : Opn) : Prop where
  tag : I64 x.tag
  v : I64 x.v
structure Ent.Ok (x : Ent) : Prop where
  thread : I64 x.thread
  op : x.op.Ok
structure Kid.Ok (x : Kid) : Prop where
  thread : I64 x.thread
  ahead : I64 x.ahead
structure Mark.Ok (x : Mark) : Prop where
  thread : I64 x.thread
  item : I64 x.item
  op : x.op.Ok
  prior : I64 x.prior
  step : I64 x.step
structure Sent.Ok (x : Sent) : Prop where
  kind : I64 x.kind
  thread : I64 x.thread
  item : I64 x.item
  op : x.op.Ok
structure Cfg.Ok (x : Cfg) : Prop where
  threads : I64 x.threads
  items : I64 x.items
  backend : I64 x.backend
  depth : I64 x.depth
  layers : I64 x.layers
  width : I64 x.width
  spin : I64 x.spin
  wait : I64 x.wait
  lo : I64 x.lo
  hi : I64 x.hi
  init : I64 x.init
abbrev Ints (l : List Int) : Prop := ∀ x ∈ l, I64 x
structure Mem.Ok (x : Mem) : Prop where
  words : Ints x.words
  boxes : ∀ b ∈ x.boxes, ∀ e ∈ b, Ent.Ok e
structure Thr.Ok (x : Thr) : Prop where
  phase : I64 x.phase
  item : I64 x.item
  op : x.op.Ok
  batch : ∀ e ∈ x.batch, Ent.Ok e
  kids : ∀ e ∈ x.kids, Kid.Ok e
  held : Ints x.held
  stop : I64 x.stop
  node : I64 x.node
  at_ : I64 x.at_
  layer : I64 x.layer
  left : I64 x.left
  width : I64 x.width
  who : I64 x.who
  wx : I64 x.x
  wy : I64 x.y
  wt : I64 x.til
structure Tape.Ok (x : Tape) : Prop where
  l : Ints x.l
  at_ : I64 x.at_
structure Turn.Ok (x : Turn) : Prop where
  c : x.c.Ok
  t : I64 x.t
  now : I64 x.now
  m : x.m.Ok
  th : x.th.Ok
  tape : x.tape.Ok
  log : ∀ e ∈ x.log, Mark.Ok e
section
variable {H : Type} {enc : TypeId × Value → H} {W : World}
theorem rd3 : Reads enc Tryz.prog W 3 (QK .int I64) := rd_i64 Tryz.underlying3
theorem rd4 : Reads enc Tryz.prog W 4 (QK .bool fun _ => True) := rd_bool Tryz.underlying4
theorem rd25 : Reads enc Tryz.prog W 25 (fun ls => ∃ xs : List Kd.int.C, (∀ x ∈ xs, I64 x) ∧ ls = [.list .int xs]) := rd_slice Tryz.underlying25 cl3 rd3
theorem rd48 : Reads enc Tryz.prog W 48 (QK .opn Opn.Ok) := by
  refine rd_struct (Qs := [(1, QK .int I64), (1, QK .int I64)]) Tryz.underlying48 cl48 ?_ ?_
  · exact ⟨rfl, cl3, rd3, ⟨rfl, cl3, rd3, rfl⟩⟩
  · intro lss h0
    obtain ⟨_, _, rfl, ⟨x0, g0, rfl⟩, h1⟩ := rq_cons h0
    obtain ⟨_, _, rfl, ⟨x1, g1, rfl⟩, h2⟩ := rq_cons h1
    obtain rfl := rq_nil h2
    exact ⟨⟨x0, x1⟩, ⟨g0, g1⟩, rfl⟩
theorem rd160 : Reads enc Tryz.prog W 160 (QK .ent Ent.Ok) := by
  refine rd_struct (Qs := [(1, QK .int I64), (2, QK .opn Opn.Ok)]) Tryz.underlying160 cl160 ?_ ?_
  · exact ⟨rfl, cl3, rd3, ⟨rfl, cl48, rd48, rfl⟩⟩
  · intro lss h0
    obtain ⟨_, _, rfl, ⟨x0, g0, rfl⟩, h1⟩ := rq_cons h0
    obtain ⟨_, _, rfl, ⟨x1, g1, rfl⟩, h2⟩ := rq_cons h1
    obtain rfl := rq_nil h2
    exact ⟨⟨x0, x1⟩, ⟨g0, g1⟩, rfl⟩
theorem rd202 : Reads enc Tryz.prog W 202 (QK .kid Kid.Ok) := by
  refine rd_struct (Qs := [(1, QK .int I64), (1, QK .int I64)]) Tryz.underlying202 cl202 ?_ ?_
  · exact ⟨rfl, cl3, rd3, ⟨rfl, cl3, rd3, rfl⟩⟩
  · intro lss h0
    obtain ⟨_, _, rfl, ⟨x0, g0, rfl⟩, h1⟩ := rq_cons h0
    obtain ⟨_, _, rfl, ⟨x1, g1, rfl⟩, h2⟩ := rq_cons h1
    obtain rfl := rq_nil h2
    exact ⟨⟨x0, x1⟩, ⟨g0, g1⟩, rfl⟩
theorem rd65 : Reads enc Tryz.prog W 65 (QK .mark Mark.Ok) := by
  refine rd_struct (Qs := [(1, QK .int I64), (1, QK .int I64), (2, QK .opn Opn.Ok), (1, QK .int I64), (1, QK .int I64)]) Tryz.underlying65 cl65 ?_ ?_
  · exact ⟨rfl, cl3, rd3, ⟨rfl, cl3, rd3, ⟨rfl, cl48, rd48, ⟨rfl, cl3, rd3, ⟨rfl, cl3, rd3, rfl⟩⟩⟩⟩⟩
  · intro lss h0
    obtain ⟨_, _, rfl, ⟨x0, g0, rfl⟩, h1⟩ := rq_cons h0
    obtain ⟨_, _, rfl, ⟨x1, g1, rfl⟩, h2⟩ := rq_cons h1
    obtain ⟨_, _, rfl, ⟨x2, g2, rfl⟩, h3⟩ := rq_cons h2
    obtain ⟨_, _, rfl, ⟨x3, g3, rfl⟩, h4⟩ := rq_cons h3
    obtain ⟨_, _, rfl, ⟨x4, g4, rfl⟩, h5⟩ := rq_cons h4
    obtain rfl := rq_nil h5
    exact ⟨⟨x0, x1, x2, x3, x4⟩, ⟨g0, g1, g2, g3, g4⟩, rfl⟩
theorem rd63 : Reads enc Tryz.prog W 63 (QK .sent Sent.Ok) := by
  refine rd_struct (Qs := [(1, QK .int I64), (1, QK .int I64), (1, QK .int I64), (2, QK .opn Opn.Ok)]) Tryz.underlying63 cl63 ?_ ?_
  · exact ⟨rfl, cl3, rd3, ⟨rfl, cl3, rd3, ⟨rfl, cl3, rd3, ⟨rfl, cl48, rd48, rfl⟩⟩⟩⟩
  · intro lss h0
    obtain ⟨_, _, rfl, ⟨x0, g0, rfl⟩, h1⟩ := rq_cons h0
    obtain ⟨_, _, rfl, ⟨x1, g1, rfl⟩, h2⟩ := rq_cons h1
    obtain ⟨_, _, rfl, ⟨x2, g2, rfl⟩, h3⟩ := rq_cons h2
    obtain ⟨_, _, rfl, ⟨x3, g3, rfl⟩, h4⟩ := rq_cons h3
    obtain rfl := rq_nil h4
    exact ⟨⟨x0, x1, x2, x3⟩, ⟨g0, g1, g2, g3⟩, rfl⟩
theorem rd23 : Reads enc Tryz.prog W 23 (QK .cfg Cfg.Ok) := by
  refine rd_struct (Qs := [(1, QK .int I64), (1, QK .int I64), (1, QK .int I64), (1, QK .int I64), (1, QK .int I64), (1, QK .int I64), (1, QK .int I64), (1, QK .int I64), (1, QK .bool fun _ => True), (1, QK .int I64), (1, QK .int I64), (1, QK .int I64)]) Tryz.underlying23 cl23 ?_ ?_
  · exact ⟨rfl, cl3, rd3, ⟨rfl, cl3, rd3, ⟨rfl, cl3, rd3, ⟨rfl, cl3, rd3, ⟨rfl, cl3, rd3, ⟨rfl, cl3, rd3, ⟨rfl, cl3, rd3, ⟨rfl, cl3, rd3, ⟨rfl, cl4, rd4, ⟨rfl, cl3, rd3, ⟨rfl, cl3, rd3, ⟨rfl, cl3, rd3, rfl⟩⟩⟩⟩⟩⟩⟩⟩⟩⟩⟩⟩
  · intro lss h0
    obtain ⟨_, _, rfl, ⟨x0, g0, rfl⟩, h1⟩ := rq_cons h0
    obtain ⟨_, _, rfl, ⟨x1, g1, rfl⟩, h2⟩ := rq_cons h1
    obtain ⟨_, _, rfl, ⟨x2, g2, rfl⟩, h3⟩ := rq_cons h2
    obtain ⟨_, _, rfl, ⟨x3, g3, rfl⟩, h4⟩ := rq_cons h3
    obtain ⟨_, _, rfl, ⟨x4, g4, rfl⟩, h5⟩ := rq_cons h4
    obtain ⟨_, _, rfl, ⟨x5, g5, rfl⟩, h6⟩ := rq_cons h5
    obtain ⟨_, _, rfl, ⟨x6, g6, rfl⟩, h7⟩ := rq_cons h6
    obtain ⟨_, _, rfl, ⟨x7, g7, rfl⟩, h8⟩ := rq_cons h7
    obtain ⟨_, _, rfl, ⟨x8, g8, rfl⟩, h9⟩ := rq_cons h8
    obtain ⟨_, _, rfl, ⟨x9, g9, rfl⟩, h10⟩ := rq_cons h9
    obtain ⟨_, _, rfl, ⟨x10, g10, rfl⟩, h11⟩ := rq_cons h10
    obtain ⟨_, _, rfl, ⟨x11, g11, rfl⟩, h12⟩ := rq_cons h11
    obtain rfl := rq_nil h12
    exact ⟨⟨x0, x1, x2, x3, x4, x5, x6, x7, x8, x9, x10, x11⟩, ⟨g0, g1, g2, g3, g4, g5, g6, g7, g9, g10, g11⟩, rfl⟩
theorem rd54 : Reads enc Tryz.prog W 54 (fun ls => ∃ xs : List Kd.ent.C, (∀ x ∈ xs, Ent.Ok x) ∧ ls = [.list .ent xs]) := rd_slice Tryz.underlying54 cl160 rd160
theorem rd54b : Reads enc Tryz.prog W 54 (QK .box fun b => ∀ e ∈ b, Ent.Ok e) := fun fuel cs d ps h => rd54 fuel cs d ps h
theorem rd29 : Reads enc Tryz.prog W 29 (fun ls => ∃ xs : List Kd.box.C, (∀ x ∈ xs, (fun b => ∀ e ∈ b, Ent.Ok e) x) ∧ ls = [.list .box xs]) := rd_slice Tryz.underlying29 cl54 rd54b
theorem rd55 : Reads enc Tryz.prog W 55 (fun ls => ∃ xs : List Kd.kid.C, (∀ x ∈ xs, Kid.Ok x) ∧ ls = [.list .kid xs]) := rd_slice Tryz.underlying55 cl202 rd202
theorem rd35 : Reads enc Tryz.prog W 35 (fun ls => ∃ xs : List Kd.mark.C, (∀ x ∈ xs, Mark.Ok x) ∧ ls = [.list .mark xs]) := rd_slice Tryz.underlying35 cl65 rd65
theorem rd24 : Reads enc Tryz.prog W 24 (fun ls => ∃ xs : List Kd.sent.C, (∀ x ∈ xs, Sent.Ok x) ∧ ls = [.list .sent xs]) := rd_slice Tryz.underlying24 cl63 rd63
theorem rd31 : Reads enc Tryz.prog W 31 (QK .mem Mem.Ok) := by
  refine rd_struct (Qs := [(1, fun ls => ∃ xs : List Kd.int.C, (∀ x ∈ xs, I64 x) ∧ ls = [.list .int xs]), (1, fun ls => ∃ xs : List Kd.box.C, (∀ x ∈ xs, (fun b => ∀ e ∈ b, Ent.Ok e) x) ∧ ls = [.list .box xs])]) Tryz.underlying31 cl31 ?_ ?_
  · exact ⟨rfl, cl25, rd25, ⟨rfl, cl29, rd29, rfl⟩⟩
  · intro lss h0
    obtain ⟨_, _, rfl, ⟨x0, g0, rfl⟩, h1⟩ := rq_cons h0
    obtain ⟨_, _, rfl, ⟨x1, g1, rfl⟩, h2⟩ := rq_cons h1
    obtain rfl := rq_nil h2
    exact ⟨⟨x0, x1⟩, ⟨g0, g1⟩, rfl⟩
theorem rd57 : Reads enc Tryz.prog W 57 (QK .thr Thr.Ok) := by
  refine rd_struct (Qs := [(1, QK .int I64), (1, QK .int I64), (2, QK .opn Opn.Ok), (1, fun ls => ∃ xs : List Kd.ent.C, (∀ x ∈ xs, Ent.Ok x) ∧ ls = [.list .ent xs]), (1, fun ls => ∃ xs : List Kd.kid.C, (∀ x ∈ xs, Kid.Ok x) ∧ ls = [.list .kid xs]), (1, fun ls => ∃ xs : List Kd.int.C, (∀ x ∈ xs, I64 x) ∧ ls = [.list .int xs]), (1, QK .int I64), (1, QK .int I64), (1, QK .int I64), (1, QK .int I64), (1, QK .int I64), (1, QK .int I64), (1, QK .int I64), (1, QK .int I64), (1, QK .int I64), (1, QK .int I64)]) Tryz.underlying57 cl57 ?_ ?_
  · exact ⟨rfl, cl3, rd3, ⟨rfl, cl3, rd3, ⟨rfl, cl48, rd48, ⟨rfl, cl54, rd54, ⟨rfl, cl55, rd55, ⟨rfl, cl25, rd25, ⟨rfl, cl3, rd3, ⟨rfl, cl3, rd3, ⟨rfl, cl3, rd3, ⟨rfl, cl3, rd3, ⟨rfl, cl3, rd3, ⟨rfl, cl3, rd3, ⟨rfl, cl3, rd3, ⟨rfl, cl3, rd3, ⟨rfl, cl3, rd3, ⟨rfl, cl3, rd3, rfl⟩⟩⟩⟩⟩⟩⟩⟩⟩⟩⟩⟩⟩⟩⟩⟩
  · intro lss h0
    obtain ⟨_, _, rfl, ⟨x0, g0, rfl⟩, h1⟩ := rq_cons h0
    obtain ⟨_, _, rfl, ⟨x1, g1, rfl⟩, h2⟩ := rq_cons h1
    obtain ⟨_, _, rfl, ⟨x2, g2, rfl⟩, h3⟩ := rq_cons h2
    obtain ⟨_, _, rfl, ⟨x3, g3, rfl⟩, h4⟩ := rq_cons h3
    obtain ⟨_, _, rfl, ⟨x4, g4, rfl⟩, h5⟩ := rq_cons h4
    obtain ⟨_, _, rfl, ⟨x5, g5, rfl⟩, h6⟩ := rq_cons h5
    obtain ⟨_, _, rfl, ⟨x6, g6, rfl⟩, h7⟩ := rq_cons h6
    obtain ⟨_, _, rfl, ⟨x7, g7, rfl⟩, h8⟩ := rq_cons h7
    obtain ⟨_, _, rfl, ⟨x8, g8, rfl⟩, h9⟩ := rq_cons h8
    obtain ⟨_, _, rfl, ⟨x9, g9, rfl⟩, h10⟩ := rq_cons h9
    obtain ⟨_, _, rfl, ⟨x10, g10, rfl⟩, h11⟩ := rq_cons h10
    obtain ⟨_, _, rfl, ⟨x11, g11, rfl⟩, h12⟩ := rq_cons h11
    obtain ⟨_, _, rfl, ⟨x12, g12, rfl⟩, h13⟩ := rq_cons h12
    obtain ⟨_, _, rfl, ⟨x13, g13, rfl⟩, h14⟩ := rq_cons h13
    obtain ⟨_, _, rfl, ⟨x14, g14, rfl⟩, h15⟩ := rq_cons h14
    obtain ⟨_, _, rfl, ⟨x15, g15, rfl⟩, h16⟩ := rq_cons h15
    obtain rfl := rq_nil h16
    exact ⟨⟨x0, x1, x2, x3, x4, x5, x6, x7, x8, x9, x10, x11, x12, x13, x14, x15⟩, ⟨g0, g1, g2, g3, g4, g5, g6, g7, g8, g9, g10, g11, g12, g13, g14, g15⟩, rfl⟩
theorem rd34 : Reads enc Tryz.prog W 34 (QK .tape Tape.Ok) := by
  refine rd_struct (Qs := [(1, fun ls => ∃ xs : List Kd.int.C, (∀ x ∈ xs, I64 x) ∧ ls = [.list .int xs]), (1, QK .int I64)]) Tryz.underlying34 cl34 ?_ ?_
  · exact ⟨rfl, cl25, rd25, ⟨rfl, cl3, rd3, rfl⟩⟩
  · intro lss h0
    obtain ⟨_, _, rfl, ⟨x0, g0, rfl⟩, h1⟩ := rq_cons h0
    obtain ⟨_, _, rfl, ⟨x1, g1, rfl⟩, h2⟩ := rq_cons h1
    obtain rfl := rq_nil h2
    exact ⟨⟨x0, x1⟩, ⟨g0, g1⟩, rfl⟩
theorem rd69 : Reads enc Tryz.prog W 69 (QK .turn Turn.Ok) := by
  refine rd_struct (Qs := [(12, QK .cfg Cfg.Ok), (1, QK .int I64), (1, QK .int I64), (2, QK .mem Mem.Ok), (17, QK .thr Thr.Ok), (2, QK .tape Tape.Ok), (1, fun ls => ∃ xs : List Kd.mark.C, (∀ x ∈ xs, Mark.Ok x) ∧ ls = [.list .mark xs]), (1, QK .bool fun _ => True)]) Tryz.underlying69 cl69 ?_ ?_
  · exact ⟨rfl, cl23, rd23, ⟨rfl, cl3, rd3, ⟨rfl, cl3, rd3, ⟨rfl, cl31, rd31, ⟨rfl, cl57, rd57, ⟨rfl, cl34, rd34, ⟨rfl, cl35, rd35, ⟨rfl, cl4, rd4, rfl⟩⟩⟩⟩⟩⟩⟩⟩
  · intro lss h0
    obtain ⟨_, _, rfl, ⟨x0, g0, rfl⟩, h1⟩ := rq_cons h0
    obtain ⟨_, _, rfl, ⟨x1, g1, rfl⟩, h2⟩ := rq_cons h1
    obtain ⟨_, _, rfl, ⟨x2, g2, rfl⟩, h3⟩ := rq_cons h2
    obtain ⟨_, _, rfl, ⟨x3, g3, rfl⟩, h4⟩ := rq_cons h3
    obtain ⟨_, _, rfl, ⟨x4, g4, rfl⟩, h5⟩ := rq_cons h4
    obtain ⟨_, _, rfl, ⟨x5, g5, rfl⟩, h6⟩ := rq_cons h5
    obtain ⟨_, _, rfl, ⟨x6, g6, rfl⟩, h7⟩ := rq_cons h6
    obtain ⟨_, _, rfl, ⟨x7, g7, rfl⟩, h8⟩ := rq_cons h7
    obtain rfl := rq_nil h8
    exact ⟨⟨x0, x1, x2, x3, x4, x5, x6, x7⟩, ⟨g0, g1, g2, g3, g4, g5, g6⟩, rfl⟩
end
end Go.Proofs.YtihhgenbkiollaaGreat

/- From what a law's function answers to the law's statement. No condition. -/
namespace Go.Proofs.YtihhgenbkiollaaGreat
open Go Go.Proofs Go.RowKit Go.ChangeShapes Go.WideShapes Go.ChangeAt
set_option maxRecDepth 100000
theorem Tryz.own : ownKnob Tryz.prog.godebug = none := by kernel_rfl
theorem Tryz.laidOut : laidOutB Tryz.prog = true := by kernel_rfl
section
variable {H : Type} {enc : TypeId × Value → H}
theorem trodAll_below {P : Program} (hlo : laidOutB P = true) {W W' : World} (hb : Below W.heap.size W W') : ∀ (ts : List TypeId) {vs : List Value} {ds : List (DataW H)} {ps : List MemPlace}, (ts.all fun t => P.readableRec t && decide (t < P.types.size)) = true → (∀ p ∈ ps, p.block < W.heap.size) →
    DataW.TrodAll enc P W 0 (fun _ => true) true ts vs ds ps → DataW.TrodAll enc P W' 0 (fun b => decide (b < W.heap.size)) true ts vs ds ps := by
  intro ts
  induction ts with
  | nil =>
    intro vs ds ps _ _ h
    obtain ⟨rfl, rfl, rfl⟩ := trodAll_nil h
    exact trodAll_mk0
  | cons t ts ih =>
    intro vs ds ps ht hl h
    obtain ⟨v, vs', d, ds', p, q, rfl, rfl, rfl, hd, hrest⟩ := trodAll_cons h
    simp only [List.all_cons, Bool.and_eq_true, decide_eq_true_eq] at ht
    exact ⟨p, q, Below.trod hlo ht.1.1 ht.1.2 hd hb (fun x hx => hl x (List.mem_append_left _ hx)), ih ht.2 (fun x hx => hl x (List.mem_append_right _ hx)) hrest, rfl⟩
theorem law_post {fn : Func} {s : ChangeSpec} {W W' : World} {args : Array Value} {ds : List (DataW H)} {before : List MemPlace} (hv : s.vars = []) (hW : DataW.Whole enc Tryz.prog fn.params.toList s.vars false W args.toList ds [] before)
    (hb : Below W.heap.size W W') (hrt : fn.resultTypes = #[4]) (hr : (s.fn H (ds ++ [])).results = [.lit (.bool true)]) (ha : (s.fn H (ds ++ [])).args = ds) (hvs : (s.fn H (ds ++ [])).vars = [])
    (hpar : (fn.params.toList.all fun t => Tryz.prog.readableRec t && decide (t < Tryz.prog.types.size)) = true) : s.post enc Tryz.prog fn false true false false W args (.bool true) W' := by
  have hlt := hW.lt
  obtain ⟨p, q, hA, hV, e, hz, hn⟩ := id hW
  rw [hv] at hV
  obtain rfl : q = [] := hV
  rw [List.append_nil] at e
  subst e
  refine ⟨ds, [], before, [], before, [], hW, ?_, ?_, ?_, hb.frame _, fun h => by cases h⟩
  · rw [hr, hrt]
    exact ⟨[], [], shut_bool Tryz.underlying4 true, rfl, rfl⟩
  · rw [ha]
    exact trodAll_below Tryz.laidOut hb _ hpar hlt hA
  · rw [hvs, hv]
    rfl
/-- a struct's value -/
theorem arg_agg {W : World} {b : Nat} {t : TypeId} {fs : Array Field} {v : Value} {d : DataW H} {ps : List MemPlace} {k : Kd} {G : k.C → Prop} {D : Nat → Nat → Prop} (ht : Tryz.prog.underlying t = some (.struct fs)) (hk : k.isAgg = true)
    (hr : Reads enc Tryz.prog W t (QK k G)) (hval : Value.okWide Tryz.prog W .any b t v) (hd : DataW.Trod enc Tryz.prog W 0 (fun _ => true) true t v d ps) (hD : ∀ x ∈ ps, ∀ b o, x = .cell b o → D b o) :
    ∃ x : k.C, G x ∧ RA (frz D) W v (Ty.enc (.d k) x) := by
  unfold Value.okWide at hval
  rw [ht] at hval
  obtain ⟨cs, rfl, _⟩ := hval
  obtain ⟨fuel, hf⟩ := hd
  obtain ⟨ls, ⟨x, hg, rfl⟩, hrs⟩ := hr fuel _ d ps hf
  refine ⟨x, hg, ?_⟩
  show RA _ _ _ ⟨k.isAgg, k.cells x⟩
  rw [hk]
  exact ⟨cs.toList, by simp, hrs.mono fun _ _ h => RL.of_pl (h.sub fun b o hb => hD _ hb b o rfl)⟩
theorem arg_i64 {W : World} {b : Nat} {v : Value} {d : DataW H} {ps : List MemPlace} {D : Nat → Nat → Prop} (hval : Value.okWide Tryz.prog W .any b 3 v) (hd : DataW.Trod enc Tryz.prog W 0 (fun _ => true) true 3 v d ps) :
    ∃ n, I64 n ∧ RA (frz D) W v (Ty.enc (.d .int) n) := by
  obtain ⟨n, rfl, _, _, hw⟩ := open_int Tryz.underlying3 hval hd
  exact ⟨n, hw, _, rfl, RL.of_pl (.int _ _)⟩
theorem arg_u8 {W : World} {b : Nat} {v : Value} {d : DataW H} {ps : List MemPlace} {D : Nat → Nat → Prop} (hval : Value.okWide Tryz.prog W .any b 5 v) (hd : DataW.Trod enc Tryz.prog W 0 (fun _ => true) true 5 v d ps) :
    ∃ n, (Lit.int .u8 n).wf = true ∧ RA (frz D) W v (Ty.enc .u8 n) := by
  obtain ⟨n, rfl, _, _, hw⟩ := open_int Tryz.underlying5 hval hd
  exact ⟨n, hw, _, rfl, RL.of_pl (.int _ _)⟩
theorem arg_list {W : World} {b : Nat} {t e : TypeId} {v : Value} {d : DataW H} {ps : List MemPlace} {k : Kd} {G : k.C → Prop} {D : Nat → Nat → Prop} (ht : Tryz.prog.underlying t = some (.slice e))
    (hr : Reads enc Tryz.prog W t (fun ls => ∃ xs : List k.C, (∀ x ∈ xs, G x) ∧ ls = [.list k xs])) (hval : Value.okWide Tryz.prog W .any b t v) (hd : DataW.Trod enc Tryz.prog W 0 (fun _ => true) true t v d ps) (hD : ∀ x ∈ ps, ∀ b o, x = .cell b o → D b o) :
    ∃ xs : List k.C, (∀ x ∈ xs, G x) ∧ RA (frz D) W v (Ty.enc (.l k) xs) := by
  obtain ⟨fuel, hf⟩ := hd
  obtain ⟨ls, ⟨xs, hg, rfl⟩, hrs⟩ := hr fuel _ d ps hf
  have hna : v.cells.toList = [v] := by
    unfold Value.okWide at hval
    rw [ht] at hval
    simp only [Cell.okWide, ht, Cell.ok] at hval
    cases v <;> first | rfl | (simp at hval)
  rw [hna] at hrs
  exact ⟨xs, hg, _, rfl, RL.of_pl (hrs.1.sub fun b o hb => hD _ hb b o rfl)⟩
end
end Go.Proofs.YtihhgenbkiollaaGreat

/- Closed facts of the rows. No condition. -/
namespace Go.Proofs.YtihhgenbkiollaaGreat
open Go Go.Proofs Go.RowKit
set_option maxRecDepth 100000

theorem joined_all {P : Program} {f : FuncId} {fn : Func} {s : ChangeSpec} {c : OpenClaim} (p1 : laidOutB P = true) (p2 : mapsRowed P = true) (p3 : (P.stops == []) = true) (p4 : (P.stopKnobs == []) = true) (p5 : P.stopsHeard = true) (p6 : P.mayEnter = true)
    (p7 : (c.lifted == P.liftsFinal) = true) (p8 : (P.make == some c.make) = true) (p9 : (c.plainKeys == P.plainKeys) = true)
    (q1 : (c.inPlace == P.inPlace f) = true) (q2 : (c.unfollowed == P.unfollowed f) = true) (q3 : (c.recurses == P.recurses f) = true) (q4 : (c.named == P.varsNamed f) = true)
    (r : (c.wf (OpenSpec.ofChange s) && fn.params.all (P.readableRec ·) && namedTie P c.named s.vars && (c.stops == []) && (c.knobs == []) &&
      (c.maps == (fn.params.toList ++ s.plain.varTypes P).any (P.mapsRec ·)) && (c.ifaces == (fn.params.toList ++ s.plain.varTypes P).any (P.ifacesRec ·)) && (c.mapsOut == P.mapsAmong fn.resultTypes.toList) &&
      (c.loops == (fn.params.toList ++ s.plain.varTypes P).any (P.loopsFrom ·)) && (c.wideKeys == (fn.params.toList ++ s.plain.varTypes P ++ fn.resultTypes.toList).any (P.wideKeysFrom ·)) &&
      s.vars.all (P.varReadable ·) && fn.resultTypes.all (fun t => P.readableRec t && decide (t < P.types.size)) && (c.ifacesOut == fn.resultTypes.toList.any (P.ifacesRec ·)) && (c.loopsOut == fn.resultTypes.toList.any (P.loopsFrom ·)) && c.shortTexts.isNone &&
      (c.kinds == (if c.domain.isEmpty then [] else fn.params.toList.map fun t => match P.underlying t with | some (.int k) => some k | _ => none)) && (c.pinned == c.pinnedBy) &&
      (c.veiled == (fn.params.toList ++ s.plain.varTypes P ++ fn.resultTypes.toList).any (P.veiledRec ·)) && c.veiledFits P fn.params.toList (fn.params.toList ++ s.plain.varTypes P ++ fn.resultTypes.toList)) = true) : joinedFacts P f fn s c = true := by
  simp only [Bool.and_eq_true] at r
  obtain ⟨⟨⟨⟨⟨⟨⟨⟨⟨⟨⟨⟨⟨⟨⟨⟨⟨⟨r1, r2⟩, r3⟩, r4⟩, r5⟩, r6⟩, r7⟩, r8⟩, r9⟩, r10⟩, r11⟩, r12⟩, r13⟩, r14⟩, r15⟩, r16⟩, r17⟩, r18⟩, r19⟩ := r
  unfold joinedFacts
  simp only [p1, p2, p3, p4, p5, p6, p7, p8, p9, q1, q2, q3, q4, r1, r2, r3, r4, r5, r6, r7, r8, r9, r10, r11, r12, r13, r14, r15, r16, r17, r18, r19, Bool.and_self, Bool.true_and, Bool.and_true]
  exact r16
theorem mapsRowed_ok : mapsRowed Tryz.prog = true := by kernel_rfl
theorem stops_ok : (Tryz.prog.stops == []) = true := by kernel_rfl
theorem stopKnobs_ok : (Tryz.prog.stopKnobs == []) = true := by kernel_rfl
theorem stopsHeard_ok : Tryz.prog.stopsHeard = true := by kernel_rfl
theorem mayEnter_ok : Tryz.prog.mayEnter = true := by kernel_rfl
theorem lifts_ok : (Rows.machineIdleRow.lifted == Tryz.prog.liftsFinal) = true := by kernel_rfl
theorem make_ok : (Tryz.prog.make == some Rows.machineIdleRow.make) = true := by kernel_rfl
theorem plainKeys_ok : (Rows.machineIdleRow.plainKeys == Tryz.prog.plainKeys) = true := by kernel_rfl
end Go.Proofs.YtihhgenbkiollaaGreat

/- Closed facts of the rows. No condition. -/
namespace Go.Proofs.YtihhgenbkiollaaGreat
open Go Go.Proofs Go.RowKit
set_option maxRecDepth 100000
theorem q1_5 : (Rows.machineIdleRow.inPlace == Tryz.prog.inPlace 5) = true := by kernel_rfl
theorem q2_5 : (Rows.machineIdleRow.unfollowed == Tryz.prog.unfollowed 5) = true := by kernel_rfl
theorem q3_5 : (Rows.machineIdleRow.recurses == Tryz.prog.recurses 5) = true := by kernel_rfl
theorem q4_5 : (Rows.machineIdleRow.named == Tryz.prog.varsNamed 5) = true := by kernel_rfl
theorem closed5 : joinedFacts Tryz.prog 5 Tryz.f5 Rows.machineIdleSpec Rows.machineIdleRow = true :=
  joined_all Tryz.laidOut mapsRowed_ok stops_ok stopKnobs_ok stopsHeard_ok mayEnter_ok lifts_ok make_ok plainKeys_ok q1_5 q2_5 q3_5 q4_5 (by kernel_rfl)
theorem named5 : Tryz.prog.funcNamed Rows.machineIdleRow.func = some 5 := by kernel_rfl
theorem inst5 : Tryz.f5.isInstance Tryz.prog Rows.machineIdleRow.origin Rows.machineIdleRow.targs := of_decide_eq_true (by kernel_rfl)
theorem wrap5 : Tryz.f5.isWrapper Tryz.prog Rows.machineIdleRow.wrapper Rows.machineIdleRow.mainSum := by unfold Func.isWrapper; first | (rw [if_pos (by decide +kernel)]; kernel_rfl) | (rw [if_neg (by decide +kernel)]; exact ⟨rfl, rfl⟩)
end Go.Proofs.YtihhgenbkiollaaGreat

/- The statement of function 5, out of what it answers. Under its premise t. -/
namespace Go.Proofs.YtihhgenbkiollaaGreat
open Go Go.Proofs Go.RowKit Go.ChangeShapes Go.WideShapes Go.ChangeAt
set_option maxRecDepth 100000
theorem l5 (t : ∀ x0 x1, (x0.Ok) → (I64 x1) → F5 x0 x1 = some true) (os : Os) (started : os.Started) (H : Type) (enc : TypeId × Value → H) :
    ReturnsInHanded {} Tryz.checked os 5 .any (Rows.machineIdleSpec.pre6 enc Tryz.prog Tryz.f5 Rows.machineIdleRow.domain false) (Rows.machineIdleSpec.post enc Tryz.prog Tryz.f5 false true false false) := by
  refine returnsInHanded_of_change (C := Tryz.checked) Tryz.own started (by kernel_rfl) Tryz.func5
    (ChangeSpec.witness6 (enc := enc) (C := Tryz.checked) false ⟨#[], #[.agg #[.int .i64 0, .int .i64 0, .int .i64 0, .int .i64 0, .int .i64 0, .int .i64 0, .int .i64 0, .int .i64 0, .bool false, .int .i64 0, .int .i64 0, .int .i64 0, .int .i64 0, .int .i64 0, .slice none 0 0, .slice none 0 0, .int .i64 0, .int .i64 0, .int .i64 0, .int .i64 0, .slice none 0 0, .slice none 0 0, .slice none 0 0, .int .i64 0, .int .i64 0, .int .i64 0, .int .i64 0, .int .i64 0, .int .i64 0, .int .i64 0, .int .i64 0, .int .i64 0, .int .i64 0, .slice none 0 0, .int .i64 0, .slice none 0 0, .bool false], .int .i64 0], []⟩ 8 (by kernel_rfl) (by kernel_rfl) (by kernel_rfl) (by kernel_rfl)) ?_
  intro W base args ds gs before hval0 hW hcnd _
  have hval : ∀ (j : Nat) t v, Tryz.f5.params[j]? = some t → args[j]? = some v → Value.okWide Tryz.prog W .any base t v := hval0
  have hlt := hW.lt
  have hW' := hW
  obtain ⟨p, q, hA0, hV, e, hfz, hnd⟩ := hW
  have hA : DataW.TrodAll enc Tryz.prog W 0 (fun _ => true) true Tryz.f5.params.toList args.toList ds p := hA0
  rw [Tryz.params5] at hA hval
  obtain ⟨v0, v1, d0, d1, p0, p1, rfl, rfl, rfl, h0, h1⟩ := trodAll_two hA
  obtain ⟨rfl, rfl⟩ := trodVars_none hV
  have hD : ∀ b o, Dp before b o → b < W.heap.size := fun b o h => hlt _ h
  obtain ⟨x0, g0, r0⟩ := arg_agg (D := Dp before) (k := .turn) Tryz.underlying69 rfl rd69 (hval 0 _ v0 rfl rfl) h0 (fun x hx b o e0 => by subst e0; subst e; show MemPlace.cell b o ∈ _; simp [hx])
  obtain ⟨x1, g1, r1⟩ := arg_i64 (D := Dp before) (hval 1 _ v1 rfl rfl) h1
  have hc := c5.2 x0 x1 true (t x0 x1 g0 g1) W (Dp before) [v0, v1] hD ⟨r0, ⟨r1, trivial⟩⟩
  refine Calls.mono hc fun e1 W1 h1 => ?_
  obtain ⟨v, rfl, hb, _, _, _, _, l, hl, hr⟩ := h1
  cases hl
  rw [hr.bool]
  exact ⟨_, rfl, law_post rfl hW' hb rfl rfl rfl rfl (by kernel_rfl)⟩
theorem machineIdle_from (t : ∀ x0 x1, (x0.Ok) → (I64 x1) → F5 x0 x1 = some true) : Rows.MachineIdleSaid :=
  OpenClaim.holds_of_wide 5 Tryz.f5 rfl rfl rfl rfl rfl rfl rfl ⟨rfl, rfl, rfl, rfl, rfl⟩ rfl rfl rfl rfl rfl named5 Tryz.func5 closed5 inst5 wrap5 (fun os started H enc _ => l5 t os started H enc)
end Go.Proofs.YtihhgenbkiollaaGreat

/- Plain laws of loops, and the small case. No condition. -/
namespace Go.Proofs.YtihhgenbkiollaaGreat
open Go Go.Proofs
set_option maxRecDepth 100000
theorem loopF_inv {V E : Type} {S : V → Option (V ⊕ E)} (I : V → Prop) (μ : V → Nat) (Q : E → Prop) (h : ∀ v, I v → (∃ e, S v = some (.inr e) ∧ Q e) ∨ (∃ v', S v = some (.inl v') ∧ I v' ∧ μ v' < μ v)) :
    ∀ (n : Nat) (v : V), I v → μ v < n → ∃ e, loopF S n v = some e ∧ Q e
  | 0, v, _, hn => absurd hn (Nat.not_lt_zero _)
  | n + 1, v, hi, hn => by
    rcases h v hi with ⟨e, hs, hq⟩ | ⟨v', hs, hi', hm⟩
    · exact ⟨e, by simp only [loopF, hs], hq⟩
    · obtain ⟨e, he, hq⟩ := loopF_inv I μ Q h n v' hi' (by omega)
      exact ⟨e, by simp only [loopF, hs]; exact he, hq⟩
theorem t32 : F32 = some true := by kernel_rfl
end Go.Proofs.YtihhgenbkiollaaGreat

/- Plain laws: what is copied is what it was; what is compared with itself is alike. No condition. -/
namespace Go.Proofs.YtihhgenbkiollaaGreat
open Go Go.Proofs
set_option maxRecDepth 100000
theorem wrap_small {x : Int} (h0 : -9223372036854775808 ≤ x) (h1 : x < 9223372036854775808) : IntKind.i64.wrap x = x := by
  rw [IntKind.wrap_i64]; omega
theorem wrap_up {k : Nat} (h : k < 4294967296) : IntKind.i64.wrap ((k : Int) + 1) = ((k + 1 : Nat) : Int) := by rw [wrap_small (by omega) (by omega)]; simp
theorem take_get {α : Type} (xs : List α) (k : Nat) (d : α) (h : k < xs.length) : xs.take k ++ [xs.getD k d] = xs.take (k + 1) := by
  rw [List.take_add_one, List.getD_eq_getElem?_getD, List.getElem?_eq_getElem h]
  rfl
/-- a loop that counts -/
theorem loopF_up {V E : Type} {S : V → Option (V ⊕ E)} (st : Nat → V) (N : Nat) (e : E) (hs : ∀ k, k < N → S (st k) = some (.inl (st (k + 1)))) (he : S (st N) = some (.inr e)) : ∀ (j k n : Nat), k + j = N → j < n → loopF S n (st k) = some e
  | 0, k, n, h, hn => by
    obtain ⟨m, rfl⟩ : ∃ m, n = m + 1 := ⟨n - 1, by omega⟩
    obtain rfl : k = N := by omega
    simp only [loopF, he]
  | j + 1, k, n, h, hn => by
    obtain ⟨m, rfl⟩ : ∃ m, n = m + 1 := ⟨n - 1, by omega⟩
    simp only [loopF, hs k (by omega)]
    exact loopF_up st N e hs he j (k + 1) m (by omega) (by omega)
theorem loop_big {V E : Type} {S : V → Option (V ⊕ E)} (st : Nat → V) (N : Nat) (e : E) (hN : N < 4294967296) (hs : ∀ k, k < N → S (st k) = some (.inl (st (k + 1)))) (he : S (st N) = some (.inr e)) : loopF S bigN (st 0) = some e :=
  loopF_up st N e hs he N 0 bigN (by omega) (by show N < 18446744073709551616; omega)
theorem lt_cast {k n : Nat} (h : k < n) : ((k : Int) < (n : Int)) = True := by simp; omega
theorem not_lt_cast (n : Nat) : ((n : Int) < (n : Int)) = False := by simp
theorem pos_cast (k : Nat) : ((0 : Int) ≤ (k : Int)) = True := by simp
theorem F44_eq (xs : List Ent) (h : xs.length < 4294967296) : F44 xs = some xs := by
  have he : X44_0 (xs, [], 0, ()) = some (xs, xs.take xs.length, (xs.length : Int), ()) := loop_big (fun k => (xs, xs.take k, (k : Int), ())) xs.length _ h
    (fun k hk => by
      have h4 : (xs.take k).length + 1 < 4294967296 := by simp; omega
      simp only [S44_0, lt_cast hk, pos_cast, h4, wrap_up (show k < 4294967296 by omega), decide_true, Bool.and_self, cond_true, Int.toNat_natCast, take_get xs k _ hk])
    (by simp only [S44_0, not_lt_cast, decide_false, cond_false])
  simp only [F44, he, Option.bind_some, List.take_length]
theorem F82_eq (xs : List Mark) (h : xs.length < 4294967296) : F82 xs = some xs := by
  have he : X82_0 (xs, [], 0, ()) = some (xs, xs.take xs.length, (xs.length : Int), ()) := loop_big (fun k => (xs, xs.take k, (k : Int), ())) xs.length _ h
    (fun k hk => by
      have h4 : (xs.take k).length + 1 < 4294967296 := by simp; omega
      simp only [S82_0, lt_cast hk, pos_cast, h4, wrap_up (show k < 4294967296 by omega), decide_true, Bool.and_self, cond_true, Int.toNat_natCast, take_get xs k _ hk])
    (by simp only [S82_0, not_lt_cast, decide_false, cond_false])
  simp only [F82, he, Option.bind_some, List.take_length]
theorem F80_eq (m : Mem) (h : m.boxes.length < 4294967296) (hb : ∀ b ∈ m.boxes, b.length < 4294967296) : F80 m = some m := by
  have he : X80_0 (0, m, { words := [], boxes := [] }, { m with boxes := [] }, ()) = some ((m.boxes.length : Int), m, { words := [], boxes := [] }, { m with boxes := m.boxes.take m.boxes.length }, ()) :=
    loop_big (S := S80_0) (fun k => ((k : Int), m, { words := [], boxes := [] }, { m with boxes := m.boxes.take k }, ())) m.boxes.length _ h
    (fun k hk => by
      have h4 : (m.boxes.take k).length + 1 < 4294967296 := by simp; omega
      have h5 : F44 (m.boxes.getD k Kd.box.dflt) = some (m.boxes.getD k Kd.box.dflt) := F44_eq _ (hb _ (by rw [List.getD_eq_getElem?_getD, List.getElem?_eq_getElem hk]; exact List.getElem_mem hk))
      simp only [S80_0, lt_cast hk, pos_cast, h4, wrap_up (show k < 4294967296 by omega), decide_true, Bool.and_self, cond_true, Int.toNat_natCast, h5, Option.bind_some, take_get m.boxes k _ hk])
    (by simp only [S80_0, not_lt_cast, decide_false, cond_false])
  simp only [F80, he, Option.bind_some, List.take_length]
theorem F43_eq (xs : List Ent) (h : xs.length < 4294967296) : F43 xs xs = some true := by
  have he : X43_0 (xs, xs, false, 0, ()) = some (false, xs, xs, false, (xs.length : Int), ()) := loop_big (fun k => (xs, xs, false, (k : Int), ())) xs.length _ h
    (fun k hk => by simp only [S43_0, lt_cast hk, pos_cast, wrap_up (show k < 4294967296 by omega), decide_true, Bool.and_self, cond_true, cond_false, Int.toNat_natCast, beq_self_eq_true, Bool.not_true])
    (by simp only [S43_0, not_lt_cast, decide_false, cond_false])
  simp only [F43, he, Option.bind_some, bne_self_eq_false, cond_false]
theorem F124_eq (xs : List Int) (h : xs.length < 4294967296) : F124 xs xs = some true := by
  have he : X124_0 (xs, xs, false, 0, ()) = some (false, xs, xs, false, (xs.length : Int), ()) := loop_big (fun k => (xs, xs, false, (k : Int), ())) xs.length _ h
    (fun k hk => by simp only [S124_0, lt_cast hk, pos_cast, wrap_up (show k < 4294967296 by omega), decide_true, Bool.and_self, cond_true, cond_false, Int.toNat_natCast, bne_self_eq_false])
    (by simp only [S124_0, not_lt_cast, decide_false, cond_false])
  simp only [F124, he, Option.bind_some, bne_self_eq_false, cond_false]
theorem F79_eq (xs : List Mark) (h : xs.length < 4294967296) : F79 xs xs = some true := by
  have he : X79_0 (xs, xs, false, 0, ()) = some (false, xs, xs, false, (xs.length : Int), ()) := loop_big (fun k => (xs, xs, false, (k : Int), ())) xs.length _ h
    (fun k hk => by simp only [S79_0, lt_cast hk, pos_cast, wrap_up (show k < 4294967296 by omega), decide_true, Bool.and_self, cond_true, cond_false, Int.toNat_natCast, beq_self_eq_true, Bool.not_true])
    (by simp only [S79_0, not_lt_cast, decide_false, cond_false])
  simp only [F79, he, Option.bind_some, bne_self_eq_false, cond_false]
theorem F76_eq (m : Mem) (hw : m.words.length < 4294967296) (h : m.boxes.length < 4294967296) (hb : ∀ b ∈ m.boxes, b.length < 4294967296) : F76 m m = some true := by
  have he : X76_0 (false, 0, m, m, ()) = some (false, false, (m.boxes.length : Int), m, m, ()) := loop_big (fun k => (false, (k : Int), m, m, ())) m.boxes.length _ h
    (fun k hk => by
      have h5 : F43 (m.boxes.getD k Kd.box.dflt) (m.boxes.getD k Kd.box.dflt) = some true := F43_eq _ (hb _ (by rw [List.getD_eq_getElem?_getD, List.getElem?_eq_getElem hk]; exact List.getElem_mem hk))
      simp only [S76_0, lt_cast hk, pos_cast, wrap_up (show k < 4294967296 by omega), decide_true, Bool.and_self, cond_true, cond_false, Int.toNat_natCast, h5, Option.bind_some, Bool.not_true])
    (by simp only [S76_0, not_lt_cast, decide_false, cond_false])
  simp only [F76, F124_eq _ hw, he, Option.bind_some, bne_self_eq_false, cond_false, Bool.not_true]
theorem F78_eq (m : Tape) (h : m.l.length < 4294967296) : F78 m m = some true := by
  have he : X78_0 (false, 0, m, m, ()) = some (false, false, (m.l.length : Int), m, m, ()) := loop_big (fun k => (false, (k : Int), m, m, ())) m.l.length _ h
    (fun k hk => by
      simp only [S78_0, lt_cast hk, pos_cast, wrap_up (show k < 4294967296 by omega), decide_true, Bool.and_self, cond_true, cond_false, Int.toNat_natCast, bne_self_eq_false, beq_self_eq_true, Bool.not_true])
    (by simp only [S78_0, not_lt_cast, decide_false, cond_false])
  simp only [F78, he, Option.bind_some, bne_self_eq_false, cond_false, Bool.not_true]
structure Thr.Small (t : Thr) : Prop where
  batch : t.batch.length < 4294967296
  kids : t.kids.length < 4294967296
  held : t.held.length < 4294967296
theorem F77_eq (m : Thr) (hs : m.Small) : F77 m m = some true := by
  have he : X77_0 (false, 0, m, m, ()) = some (false, false, (m.kids.length : Int), m, m, ()) := loop_big (fun k => (false, (k : Int), m, m, ())) m.kids.length _ hs.kids
    (fun k hk => by
      simp only [S77_0, lt_cast hk, pos_cast, wrap_up (show k < 4294967296 by have := hs.kids; omega), decide_true, Bool.and_self, cond_true, cond_false, Int.toNat_natCast, bne_self_eq_false, beq_self_eq_true, Bool.not_true])
    (by simp only [S77_0, not_lt_cast, decide_false, cond_false])
  simp only [F77, F43_eq _ hs.batch, F124_eq _ hs.held, he, Option.bind_some, bne_self_eq_false, beq_self_eq_true, Bool.and_self, cond_false, cond_true, Bool.not_true]
def thr0 : Thr := { phase := 0, item := 0, op := { tag := 0, v := 0 }, batch := [], kids := [], held := [], stop := 0, node := 0, at_ := 0, layer := 0, left := 0, width := 0, who := 0, x := 0, y := 0, til := 0 }
theorem F81_eq (m : Thr) (hs : m.Small) : F81 m = some m := by
  have he : X81_0 (0, m, thr0, { m with kids := [] }, ()) = some ((m.kids.length : Int), m, thr0, { m with kids := m.kids.take m.kids.length }, ()) := loop_big (S := S81_0) (fun k => ((k : Int), m, thr0, { m with kids := m.kids.take k }, ())) m.kids.length _ hs.kids
    (fun k hk => by
      have h4 : (m.kids.take k).length + 1 < 4294967296 := by have := hs.kids; simp; omega
      simp only [S81_0, lt_cast hk, pos_cast, h4, wrap_up (show k < 4294967296 by have := hs.kids; omega), decide_true, Bool.and_self, cond_true, cond_false, Int.toNat_natCast, take_get m.kids k _ hk])
    (by simp only [S81_0, not_lt_cast, decide_false, cond_false])
  simp only [thr0] at he
  simp only [F81, F44_eq _ hs.batch, he, Option.bind_some, List.take_length]
structure Turn.Small (u : Turn) : Prop where
  words : u.m.words.length < 4294967296
  boxes : u.m.boxes.length < 4294967296
  box : ∀ b ∈ u.m.boxes, b.length < 4294967296
  th : u.th.Small
  tape : u.tape.l.length < 4294967296
  log : u.log.length < 4294967296
theorem F34_eq (u : Turn) (h : u.Small) : F34 u = some u := by
  simp only [F34, F80_eq _ h.boxes h.box, F81_eq _ h.th, F82_eq _ h.log, Option.bind_some]
theorem F33_eq (u : Turn) (h : u.Small) : F33 u u = some true := by
  simp only [F33, F76_eq _ h.words h.boxes h.box, F77_eq _ h.th, F78_eq _ h.tape, F79_eq _ h.log, Option.bind_some, beq_self_eq_true, Bool.and_self, cond_true]
end Go.Proofs.YtihhgenbkiollaaGreat

/- Plain laws: configs that may be, turns that are small; MachineIdle's function answers true. No condition. -/
namespace Go.Proofs.YtihhgenbkiollaaGreat
open Go Go.Proofs
set_option maxRecDepth 100000
theorem cond_ex {α : Type} {b : Bool} {p q : Option α} {Q : α → Prop} (h1 : b = true → ∃ y, p = some y ∧ Q y) (h2 : b = false → ∃ y, q = some y ∧ Q y) : ∃ y, cond b p q = some y ∧ Q y := by
  cases b with
  | true => exact h1 rfl
  | false => exact h2 rfl
structure Chk (c : Cfg) : Prop where
  t1 : 1 ≤ c.threads
  t2 : c.threads ≤ 16
  i1 : 1 ≤ c.items
  i2 : c.items ≤ 4
  b1 : 1 ≤ c.backend
  b2 : c.backend ≤ 3
  d1 : 0 ≤ c.depth
  d2 : c.depth ≤ 4
  l1 : 0 ≤ c.layers
  l2 : c.layers ≤ 3
  w1 : 1 ≤ c.width
  w2 : c.width ≤ 8
  s1 : 0 ≤ c.spin
  s2 : c.spin ≤ 20
  a1 : 0 ≤ c.wait
  a2 : c.wait ≤ 1000
  lo : c.bounded = true → c.lo ≤ c.init
  hi : c.bounded = true → c.init ≤ c.hi
theorem F37_cases (c : Cfg) : ∃ y, F37 c = some y ∧ (y = 0 → Chk c) := by
  unfold F37
  refine cond_ex (fun _ => ⟨_, rfl, fun h => by cases h⟩) (fun h1 => ?_)
  refine cond_ex (fun _ => ⟨_, rfl, fun h => by cases h⟩) (fun h2 => ?_)
  refine cond_ex (fun _ => ⟨_, rfl, fun h => by cases h⟩) (fun h3 => ?_)
  refine cond_ex (fun _ => ⟨_, rfl, fun h => by cases h⟩) (fun h4 => ?_)
  refine cond_ex (fun _ => ⟨_, rfl, fun h => by cases h⟩) (fun h5 => ?_)
  refine cond_ex (fun _ => ⟨_, rfl, fun h => by cases h⟩) (fun h6 => ?_)
  refine cond_ex (fun _ => ⟨_, rfl, fun h => by cases h⟩) (fun h7 => ?_)
  refine cond_ex (fun _ => ⟨_, rfl, fun h => by cases h⟩) (fun h8 => ?_)
  refine cond_ex (fun _ => ⟨_, rfl, fun h => by cases h⟩) (fun h9 => ?_)
  refine cond_ex (fun _ => ⟨_, rfl, fun h => by cases h⟩) (fun h10 => ?_)
  refine cond_ex (fun _ => ⟨_, rfl, fun h => by cases h⟩) (fun h11 => ?_)
  refine cond_ex (fun _ => ⟨_, rfl, fun h => by cases h⟩) (fun h12 => ?_)
  refine cond_ex (fun _ => ⟨_, rfl, fun h => by cases h⟩) (fun h13 => ?_)
  refine cond_ex (fun _ => ⟨_, rfl, fun h => by cases h⟩) (fun h14 => ?_)
  refine cond_ex (fun _ => ⟨_, rfl, fun h => by cases h⟩) (fun h15 => ?_)
  refine cond_ex (fun _ => ⟨_, rfl, fun h => by cases h⟩) (fun h16 => ?_)
  simp only [decide_eq_false_iff_not, Int.not_lt, gt_iff_lt] at *
  refine cond_ex (fun h17 => ?_) (fun h17 => ⟨_, rfl, fun _ => ⟨h1, h2, h3, h4, h5, h6, h7, h8, h9, h10, h11, h12, h13, h14, h15, h16, (fun h => by rw [h17] at h; cases h), (fun h => by rw [h17] at h; cases h)⟩⟩)
  refine cond_ex (fun _ => ⟨_, rfl, fun h => by cases h⟩) (fun h18 => ?_)
  refine cond_ex (fun _ => ⟨_, rfl, fun h => by cases h⟩) (fun h19 => ?_)
  simp only [decide_eq_false_iff_not, Int.not_lt, gt_iff_lt] at h18 h19
  exact ⟨_, rfl, fun _ => ⟨h1, h2, h3, h4, h5, h6, h7, h8, h9, h10, h11, h12, h13, h14, h15, h16, fun _ => h18, fun _ => h19⟩⟩
theorem wrap_two (k : Nat) (hk : k < 4) : IntKind.i64.wrap (2 * ((2 ^ k : Nat) : Int)) = ((2 ^ (k + 1) : Nat) : Int) := by
  match k, hk with
  | 0, _ => rfl
  | 1, _ => rfl
  | 2, _ => rfl
  | 3, _ => rfl
/-- the nodes of a tree of a depth -/
def nodes (c : Cfg) : Int := ((2 ^ c.depth.toNat : Nat) : Int) - 1
theorem F22_eq (c : Cfg) (h : Chk c) : F22 c = some (nodes c) := by
  have hd : ((c.depth.toNat : Nat) : Int) = c.depth := Int.toNat_of_nonneg h.d1
  have h4 : c.depth.toNat ≤ 4 := by have := h.d2; omega
  have he : X22_0 (1, 0, c, ()) = some (((2 ^ c.depth.toNat : Nat) : Int), (c.depth.toNat : Int), c, ()) := loop_big (S := S22_0) (fun k => (((2 ^ k : Nat) : Int), (k : Int), c, ())) c.depth.toNat _ (by omega)
    (fun k hk => by
      have h1 : ((k : Int) < c.depth) = True := by simp; omega
      simp only [S22_0, h1, decide_true, cond_true, wrap_two k (by omega), wrap_up (show k < 4294967296 by omega)])
    (by
      have h1 : (((c.depth.toNat : Nat) : Int) < c.depth) = False := by simp; omega
      simp only [S22_0, h1, decide_false, cond_false])
  have hp : (2 ^ c.depth.toNat : Nat) ≤ 16 := by
    have : (2 ^ c.depth.toNat : Nat) ≤ 2 ^ 4 := Nat.pow_le_pow_right (by decide) h4
    omega
  have hw : IntKind.i64.wrap (((2 ^ c.depth.toNat : Nat) : Int) - 1) = nodes c := by
    unfold nodes
    generalize (2 ^ c.depth.toNat : Nat) = q at hp ⊢
    exact wrap_small (by omega) (by omega)
  simp only [F22, he, Option.bind_some, hw]
theorem F21_some (c : Cfg) (h : Chk c) : ∃ n, F21 c = some n := by
  simp only [F21, F68, F22_eq c h, Option.bind_some]
  exact ⟨_, rfl⟩
structure May (u : Turn) : Prop where
  c : Chk u.c
  t0 : 0 ≤ u.t
  t1 : u.t < u.c.threads
  words : F21 u.c = some (u.m.words.length : Int)
  boxes : (u.m.boxes.length : Int) = u.c.threads
  i0 : 0 ≤ u.th.item
  i1 : u.th.item < u.c.items
theorem F31_cases (u : Turn) : ∃ b, F31 u = some b ∧ (b = true → May u) := by
  obtain ⟨y, hy, hc⟩ := F37_cases u.c
  simp only [F31, hy, Option.bind_some]
  refine cond_ex (fun h0 => ?_) (fun _ => ⟨_, rfl, fun h => by cases h⟩)
  have hk := hc (by simpa using h0)
  refine cond_ex (fun h1 => ?_) (fun _ => ⟨_, rfl, fun h => by cases h⟩)
  refine cond_ex (fun h2 => ?_) (fun _ => ⟨_, rfl, fun h => by cases h⟩)
  obtain ⟨n, hn⟩ := F21_some u.c hk
  simp only [hn, Option.bind_some]
  refine cond_ex (fun h3 => ?_) (fun _ => ⟨_, rfl, fun h => by cases h⟩)
  refine cond_ex (fun h4 => ?_) (fun _ => ⟨_, rfl, fun h => by cases h⟩)
  refine cond_ex (fun h5 => ?_) (fun _ => ⟨_, rfl, fun h => by cases h⟩)
  refine ⟨_, rfl, fun h6 => ?_⟩
  simp only [decide_eq_true_eq, ge_iff_le, beq_iff_eq] at h1 h2 h3 h4 h5 h6
  exact ⟨hk, h1, h2, by rw [hn, h3], h4, h5, h6⟩
structure Turn.Wee (u : Turn) : Prop where
  words : u.m.words.length ≤ 400
  boxes : u.m.boxes.length ≤ 16
  box : ∀ b ∈ u.m.boxes, b.length ≤ 20
  batch : u.th.batch.length ≤ 20
  kids : u.th.kids.length ≤ 20
  held : u.th.held.length ≤ 20
  tape : u.tape.l.length ≤ 100
  log : u.log.length ≤ 50
theorem Turn.Wee.small {u : Turn} (h : u.Wee) : u.Small :=
  ⟨by have := h.words; omega, by have := h.boxes; omega, fun b hb => by have := h.box b hb; omega, ⟨by have := h.batch; omega, by have := h.kids; omega, by have := h.held; omega⟩, by have := h.tape; omega, by have := h.log; omega⟩
theorem F30_cases (u : Turn) : ∃ b, F30 u = some b ∧ (b = false → u.Wee) := by
  obtain ⟨e, he, hq⟩ := loopF_inv (S := S30_0) (fun v => ∃ k : Nat, k ≤ u.m.boxes.length ∧ k ≤ 20 ∧ v = (false, (k : Int), u, ()) ∧ ∀ j, j < k → (u.m.boxes.getD j Kd.box.dflt).length ≤ 20) (fun v => 20 - v.2.1.toNat)
    (fun e => (e.1 = true ∧ e.2.1 = true) ∨ (e.1 = false ∧ e.2.2.2.1 = u ∧ ∀ j, j < u.m.boxes.length → j < 20 → (u.m.boxes.getD j Kd.box.dflt).length ≤ 20))
    (by
      rintro v ⟨k, hk, hk2, rfl, hall⟩
      by_cases h1 : k < u.m.boxes.length
      · by_cases h2 : k < 20
        · have h2' : ((k : Int) < 20) = True := by simp; omega
          by_cases h3 : (u.m.boxes.getD k Kd.box.dflt).length ≤ 20
          · right
            have h3' : ¬ (((u.m.boxes.getD k Kd.box.dflt).length : Int) > 20) := by omega
            refine ⟨(false, ((k + 1 : Nat) : Int), u, ()), ?_, ⟨k + 1, by omega, by omega, rfl, fun j hj => ?_⟩, ?_⟩
            · simp only [S30_0, lt_cast h1, h2', pos_cast, decide_true, Bool.and_self, cond_true, Int.toNat_natCast, wrap_up (show k < 4294967296 by omega)]
              rw [show decide (((u.m.boxes.getD k Kd.box.dflt).length : Int) > 20) = false from decide_eq_false h3']
              rfl
            · by_cases hjk : j = k
              · rw [hjk]; exact h3
              · exact hall j (by omega)
            · show 20 - ((k + 1 : Nat) : Int).toNat < 20 - ((k : Nat) : Int).toNat
              omega
          · left
            have h3' : ((u.m.boxes.getD k Kd.box.dflt).length : Int) > 20 := by omega
            refine ⟨(true, true, (k : Int), u, ()), ?_, .inl ⟨rfl, rfl⟩⟩
            simp only [S30_0, lt_cast h1, h2', pos_cast, decide_true, Bool.and_self, cond_true, Int.toNat_natCast]
            rw [show decide (((u.m.boxes.getD k Kd.box.dflt).length : Int) > 20) = true from decide_eq_true h3']
            rfl
        · left
          have h2' : ((k : Int) < 20) = False := by simp; omega
          exact ⟨(false, false, (k : Int), u, ()), by simp only [S30_0, lt_cast h1, h2', decide_true, decide_false, cond_true, cond_false], .inr ⟨rfl, rfl, fun j _ hj => hall j (by omega)⟩⟩
      · left
        obtain rfl : k = u.m.boxes.length := by omega
        exact ⟨(false, false, (u.m.boxes.length : Int), u, ()), by simp only [S30_0, not_lt_cast, decide_false, cond_false], .inr ⟨rfl, rfl, fun j hj _ => hall j hj⟩⟩)
    bigN (false, 0, u, ()) ⟨0, by omega, by omega, rfl, fun j hj => absurd hj (by omega)⟩ (by show _ < (18446744073709551616 : Nat); simp)
  simp only [F30, show X30_0 (false, 0, u, ()) = some e from he, Option.bind_some]
  rcases hq with ⟨q1, q2⟩ | ⟨q1, q2, q3⟩
  · rw [q1, q2]
    exact ⟨true, rfl, fun h => by cases h⟩
  · rw [q1, q2]
    simp only [cond_false]
    refine cond_ex (fun _ => ⟨_, rfl, fun h => by cases h⟩) (fun h1 => ?_)
    refine cond_ex (fun _ => ⟨_, rfl, fun h => by cases h⟩) (fun h2 => ?_)
    refine cond_ex (fun _ => ⟨_, rfl, fun h => by cases h⟩) (fun h3 => ?_)
    refine cond_ex (fun _ => ⟨_, rfl, fun h => by cases h⟩) (fun h4 => ?_)
    refine cond_ex (fun _ => ⟨_, rfl, fun h => by cases h⟩) (fun h5 => ?_)
    refine cond_ex (fun _ => ⟨_, rfl, fun h => by cases h⟩) (fun h6 => ?_)
    refine ⟨_, rfl, fun h7 => ?_⟩
    simp only [decide_eq_false_iff_not, gt_iff_lt] at h1 h2 h3 h4 h5 h6 h7
    refine ⟨by omega, by omega, fun b hb => ?_, by omega, by omega, by omega, by omega, by omega⟩
    obtain ⟨j, hj, rfl⟩ := List.mem_iff_getElem.1 hb
    have := q3 j hj (by omega)
    rwa [List.getD_eq_getElem?_getD, List.getElem?_eq_getElem hj] at this
theorem F35_idle (u : Turn) (h : u.th.phase = 0) : F35 u = some u := by
  simp only [F35, F26, h, bne_self_eq_false, Option.bind_some, Bool.not_false, cond_true]
theorem F36_idle (u : Turn) (n : Int) (h : u.th.phase = 0) : F36 u n = some u := by
  have he : ∀ w : Turn, X36_0 (n, u, w, ()) = some (n, u, w, ()) := fun w => by
    show loopF S36_0 18446744073709551616 _ = _
    have hs : S36_0 (n, u, w, ()) = some (.inr (n, u, w, ())) := by
      simp only [S36_0, F26, h, bne_self_eq_false, Option.bind_some, cond_false]
      cases decide (n > 0) <;> rfl
    rw [show (18446744073709551616 : Nat) = 18446744073709551615 + 1 from rfl]
    simp only [loopF, hs]
  simp only [F36, he, Option.bind_some]
theorem t5 (u : Turn) (n : Int) : F5 u n = some true := by
  obtain ⟨b1, h1, g1⟩ := F30_cases u
  obtain ⟨b2, h2, g2⟩ := F31_cases u
  simp only [F5, h1, h2, t32, Option.bind_some, Bool.not_true, cond_false]
  cases b1 with
  | true => rfl
  | false =>
    have hs := (g1 rfl).small
    cases b2 with
    | false => rfl
    | true =>
      have hs' : ({ u with th := { u.th with phase := 0 } } : Turn).Small := ⟨hs.words, hs.boxes, hs.box, ⟨hs.th.batch, hs.th.kids, hs.th.held⟩, hs.tape, hs.log⟩
      simp only [F35_idle _ (show ({ u with th := { u.th with phase := 0 } } : Turn).th.phase = 0 from rfl), F36_idle _ n (show ({ u with th := { u.th with phase := 0 } } : Turn).th.phase = 0 from rfl), F34_eq _ hs', F33_eq _ hs', Option.bind_some, cond_true, cond_false, Bool.not_true]
      cases decide (n > 1000) <;> rfl
end Go.Proofs.YtihhgenbkiollaaGreat

/- MachineIdle: whatever the turn and the number, a thread that is idle does nothing: the law's function answers true and leaves its arguments as they were. No condition. -/
namespace Go.Proofs.YtihhgenbkiollaaGreat
open Go Go.Proofs
theorem machineIdle_holds : Rows.MachineIdleSaid := machineIdle_from (fun u n _ _ => t5 u n)
#print axioms machineIdle_holds
end Go.Proofs.YtihhgenbkiollaaGreat
