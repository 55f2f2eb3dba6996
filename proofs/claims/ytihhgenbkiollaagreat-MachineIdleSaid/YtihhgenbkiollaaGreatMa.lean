/- The abstract machine, part a: carriers, leaves, kinds, codecs. No condition. -/
import Derived.Below
import Derived.Laws.CopyRow
import Derived.Laws.Rows
import Derived.Laws.Cells
import Derived.Calls
import Derived.Orders
import Derived.Laws.StructEq
import Derived.ChangeKeysEq
/- The abstract machine, part a: carriers, leaves, kinds, codecs. No condition. -/
namespace Go.Proofs.YtihhgenbkiollaaGreat
open Go

structure Opn where
  tag : Int
  v : Int
  deriving DecidableEq, Repr, Inhabited
structure Ent where
  thread : Int
  op : Opn
  deriving DecidableEq, Repr, Inhabited
structure Kid where
  thread : Int
  ahead : Int
  deriving DecidableEq, Repr, Inhabited
structure Mark where
  thread : Int
  item : Int
  op : Opn
  prior : Int
  step : Int
  deriving DecidableEq, Repr, Inhabited
structure Sent where
  kind : Int
  thread : Int
  item : Int
  op : Opn
  deriving DecidableEq, Repr, Inhabited
structure Evt where
  kind : Int
  thread : Int
  item : Int
  op : Opn
  prior : Int
  did : Bool
  step : Int
  deriving DecidableEq, Repr, Inhabited
structure Cfg where
  threads : Int
  items : Int
  backend : Int
  depth : Int
  layers : Int
  width : Int
  spin : Int
  wait : Int
  bounded : Bool
  lo : Int
  hi : Int
  init : Int
  deriving DecidableEq, Repr, Inhabited
structure Mem where
  words : List Int
  boxes : List (List Ent)
  deriving DecidableEq, Repr, Inhabited
structure Thr where
  phase : Int
  item : Int
  op : Opn
  batch : List Ent
  kids : List Kid
  held : List Int
  stop : Int
  node : Int
  at_ : Int
  layer : Int
  left : Int
  width : Int
  who : Int
  x : Int
  y : Int
  til : Int
  deriving DecidableEq, Repr, Inhabited
structure Tape where
  l : List Int
  at_ : Int
  deriving DecidableEq, Repr, Inhabited
structure Turn where
  c : Cfg
  t : Int
  now : Int
  m : Mem
  th : Thr
  tape : Tape
  log : List Mark
  done : Bool
  deriving DecidableEq, Repr, Inhabited
structure Wld where
  c : Cfg
  m : Mem
  t : List Thr
  now : Int
  steps : Int
  tape : Tape
  log : List Mark
  hist : List Evt
  deriving DecidableEq, Repr, Inhabited
/-- kinds: what is in a row's cells, typed -/
inductive Kd where
  | int | bool | opn | ent | kid | mark | sent | evt | cfg | box | kids | mem | thr | tape | turn | wld | part | int2 | int3 | int4 | div
  deriving DecidableEq, Repr, Inhabited
structure Div where
  u : Turn
  op : Int
  deriving DecidableEq, Repr, Inhabited
@[reducible] def Kd.C : Kd → Type
  | .int => Int | .bool => Bool | .opn => Opn | .ent => Ent | .kid => Kid | .mark => Mark | .sent => Sent | .evt => Evt | .cfg => Cfg
  | .box => List Ent | .kids => List Kid | .mem => Mem | .thr => Thr | .tape => Tape | .turn => Turn | .wld => Wld
  | .part => ByteArray × FuncId | .int2 => Int × Int | .int3 => Int × Int × Int | .int4 => Int × Int × Int × Int | .div => Div
/-- where a pointer leads -/
inductive Loc where
  | box (b off : Nat)
  | elt (k : Kd) (xs : List k.C) (i off : Nat)
  | arr (b : Nat) (k : Kd) (i off : Nat)
inductive Leaf where
  | int (k : IntKind) (x : Int)
  | bool (b : Bool)
  | str (s : ByteArray)
  | nils
  | list (k : Kd) (xs : List k.C)
  | nilp
  | nilf
  | nili
  | nilc
  | nilm
  | fn (f : FuncId)
  | ptr (l : Loc)
  | own (b : Nat)
  | clo (f : FuncId) (agg : Bool) (first : List Leaf) (cap : List Loc)
  | ifc (t : TypeId) (agg : Bool) (ls : List Leaf)
  | map (b : Nat)
  | chan (b : Nat)
  deriving Inhabited
/-- a value: one leaf, or a row of them -/
structure AV where
  agg : Bool
  ls : List Leaf
  deriving Inhabited
inductive AVal where
  | v (a : AV)
  | tup (vs : List AV)
  deriving Inhabited
inductive Obj where
  | cells (ls : List Leaf)
  | arr (k : Kd) (xs : List k.C) (lent : Bool)
  | omap (es : List (Int × Leaf))
  | chan (buf : List AV)

@[reducible] def Kd.dflt : (k : Kd) → k.C
  | .int => 0 | .bool => false | .opn => default | .ent => default | .kid => default | .mark => default | .sent => default | .evt => default | .cfg => default
  | .box => [] | .kids => [] | .mem => default | .thr => default | .tape => default | .turn => default | .wld => default
  | .part => (⟨#[]⟩, 0) | .int2 => (0, 0) | .int3 => (0, 0, 0) | .int4 => (0, 0, 0, 0) | .div => default
instance (k : Kd) : Inhabited k.C := ⟨k.dflt⟩

abbrev li (x : Int) : Leaf := .int .i64 x
@[reducible] def Opn.ls (o : Opn) (r : List Leaf) : List Leaf := li o.tag :: li o.v :: r
@[reducible] def Cfg.ls (c : Cfg) (r : List Leaf) : List Leaf := li c.threads :: li c.items :: li c.backend :: li c.depth :: li c.layers :: li c.width :: li c.spin :: li c.wait :: .bool c.bounded :: li c.lo :: li c.hi :: li c.init :: r
@[reducible] def Mem.ls (m : Mem) (r : List Leaf) : List Leaf := .list .int m.words :: .list .box m.boxes :: r
@[reducible] def Thr.ls (t : Thr) (r : List Leaf) : List Leaf := li t.phase :: li t.item :: t.op.ls (.list .ent t.batch :: .list .kid t.kids :: .list .int t.held :: li t.stop :: li t.node :: li t.at_ :: li t.layer :: li t.left :: li t.width :: li t.who :: li t.x :: li t.y :: li t.til :: r)
@[reducible] def Tape.ls (t : Tape) (r : List Leaf) : List Leaf := .list .int t.l :: li t.at_ :: r
@[reducible] def Turn.ls (u : Turn) (r : List Leaf) : List Leaf := u.c.ls (li u.t :: li u.now :: u.m.ls (u.th.ls (u.tape.ls (.list .mark u.log :: .bool u.done :: r))))
@[reducible] def Wld.ls (w : Wld) (r : List Leaf) : List Leaf := w.c.ls (w.m.ls (.list .thr w.t :: li w.now :: li w.steps :: w.tape.ls (.list .mark w.log :: .list .evt w.hist :: r)))
/-- the cells of a datum of a kind, ahead of others -/
@[reducible] def Kd.ls : (k : Kd) → k.C → List Leaf → List Leaf
  | .int, x, r => li x :: r
  | .bool, x, r => .bool x :: r
  | .opn, x, r => x.ls r
  | .ent, x, r => li x.thread :: x.op.ls r
  | .kid, x, r => li x.thread :: li x.ahead :: r
  | .mark, x, r => li x.thread :: li x.item :: x.op.ls (li x.prior :: li x.step :: r)
  | .sent, x, r => li x.kind :: li x.thread :: li x.item :: x.op.ls r
  | .evt, x, r => li x.kind :: li x.thread :: li x.item :: x.op.ls (li x.prior :: .bool x.did :: li x.step :: r)
  | .cfg, x, r => x.ls r
  | .box, x, r => .list .ent x :: r
  | .kids, x, r => .list .kid x :: r
  | .mem, x, r => x.ls r
  | .thr, x, r => x.ls r
  | .tape, x, r => x.ls r
  | .turn, x, r => x.ls r
  | .wld, x, r => x.ls r
  | .part, x, r => .str x.1 :: .fn x.2 :: r
  | .int2, x, r => li x.1 :: li x.2 :: r
  | .int3, x, r => li x.1 :: li x.2.1 :: li x.2.2 :: r
  | .int4, x, r => li x.1 :: li x.2.1 :: li x.2.2.1 :: li x.2.2.2 :: r
  | .div, x, r => x.u.ls (li x.op :: r)
@[reducible] def Kd.cells (k : Kd) (x : k.C) : List Leaf := k.ls x []
@[reducible] def Kd.sz : Kd → Nat
  | .int => 1 | .bool => 1 | .opn => 2 | .ent => 3 | .kid => 2 | .mark => 6 | .sent => 5 | .evt => 8 | .cfg => 12 | .box => 1 | .kids => 1
  | .mem => 2 | .thr => 17 | .tape => 2 | .turn => 37 | .wld => 21 | .part => 2 | .int2 => 2 | .int3 => 3 | .int4 => 4 | .div => 38
@[reducible] def Kd.isAgg : Kd → Bool
  | .int | .bool | .box | .kids => false
  | _ => true
theorem Kd.cells_length (k : Kd) (x : k.C) : (k.cells x).length = k.sz := by cases k <;> rfl
theorem Kd.ls_eq (k : Kd) (x : k.C) (r : List Leaf) : k.ls x r = k.cells x ++ r := by cases k <;> rfl
theorem Kd.sz_pos (k : Kd) : 0 < k.sz := by cases k <;> decide

/-- a leaf seen as a list of a kind -/
@[reducible] def Kd.cast : (k k' : Kd) → List k.C → Option (List k'.C)
  | .int, .int, xs => some xs | .bool, .bool, xs => some xs | .opn, .opn, xs => some xs | .ent, .ent, xs => some xs | .kid, .kid, xs => some xs
  | .mark, .mark, xs => some xs | .sent, .sent, xs => some xs | .evt, .evt, xs => some xs | .cfg, .cfg, xs => some xs | .box, .box, xs => some xs
  | .kids, .kids, xs => some xs | .mem, .mem, xs => some xs | .thr, .thr, xs => some xs | .tape, .tape, xs => some xs | .turn, .turn, xs => some xs
  | .wld, .wld, xs => some xs | .part, .part, xs => some xs | .int2, .int2, xs => some xs | .int3, .int3, xs => some xs | .int4, .int4, xs => some xs | .div, .div, xs => some xs
  | _, _, _ => none
@[reducible] def Kd.cast1 : (k k' : Kd) → k.C → Option k'.C
  | .int, .int, xs => some xs | .bool, .bool, xs => some xs | .opn, .opn, xs => some xs | .ent, .ent, xs => some xs | .kid, .kid, xs => some xs
  | .mark, .mark, xs => some xs | .sent, .sent, xs => some xs | .evt, .evt, xs => some xs | .cfg, .cfg, xs => some xs | .box, .box, xs => some xs
  | .kids, .kids, xs => some xs | .mem, .mem, xs => some xs | .thr, .thr, xs => some xs | .tape, .tape, xs => some xs | .turn, .turn, xs => some xs
  | .wld, .wld, xs => some xs | .part, .part, xs => some xs | .int2, .int2, xs => some xs | .int3, .int3, xs => some xs | .int4, .int4, xs => some xs | .div, .div, xs => some xs
  | _, _, _ => none
theorem Kd.cast_eq {k k' : Kd} {xs : List k.C} {ys : List k'.C} (h : Kd.cast k k' xs = some ys) : ∃ e : k = k', e ▸ xs = ys := by
  cases k <;> cases k' <;> simp only [Kd.cast, Option.some.injEq, reduceCtorEq] at h <;> exact ⟨rfl, h⟩
def Leaf.asList (k : Kd) : Leaf → Option (List k.C)
  | .nils => some []
  | .list k' xs => Kd.cast k' k xs
  | _ => none
/-- readers of leaves -/
abbrev Rd (α : Type) := List Leaf → Option (α × List Leaf)
@[reducible] def Rd.bind {α β : Type} (p : Rd α) (f : α → Rd β) : Rd β := fun ls => match p ls with | some (a, r) => f a r | none => none
@[reducible] def Rd.pure {α : Type} (a : α) : Rd α := fun ls => some (a, ls)
@[reducible] def rInt : Rd Int | .int .i64 x :: r => some (x, r) | _ => none
@[reducible] def rBool : Rd Bool | .bool x :: r => some (x, r) | _ => none
@[reducible] def rStr : Rd ByteArray | .str x :: r => some (x, r) | _ => none
@[reducible] def rFn : Rd FuncId | .fn x :: r => some (x, r) | _ => none
@[reducible] def rList (k : Kd) : Rd (List k.C) | l :: r => (match l.asList k with | some xs => some (xs, r) | none => none) | [] => none
@[reducible] def rOpn : Rd Opn := rInt.bind fun a => rInt.bind fun b => Rd.pure ⟨a, b⟩
@[reducible] def rEnt : Rd Ent := rInt.bind fun a => rOpn.bind fun b => Rd.pure ⟨a, b⟩
@[reducible] def rKid : Rd Kid := rInt.bind fun a => rInt.bind fun b => Rd.pure ⟨a, b⟩
@[reducible] def rMark : Rd Mark := rInt.bind fun a => rInt.bind fun b => rOpn.bind fun c => rInt.bind fun d => rInt.bind fun e => Rd.pure ⟨a, b, c, d, e⟩
@[reducible] def rSent : Rd Sent := rInt.bind fun a => rInt.bind fun b => rInt.bind fun c => rOpn.bind fun d => Rd.pure ⟨a, b, c, d⟩
@[reducible] def rEvt : Rd Evt := rInt.bind fun a => rInt.bind fun b => rInt.bind fun c => rOpn.bind fun d => rInt.bind fun e => rBool.bind fun f => rInt.bind fun g => Rd.pure ⟨a, b, c, d, e, f, g⟩
@[reducible] def rCfg : Rd Cfg := rInt.bind fun a => rInt.bind fun b => rInt.bind fun c => rInt.bind fun d => rInt.bind fun e => rInt.bind fun f => rInt.bind fun g => rInt.bind fun h => rBool.bind fun i => rInt.bind fun j => rInt.bind fun k => rInt.bind fun l => Rd.pure ⟨a, b, c, d, e, f, g, h, i, j, k, l⟩
@[reducible] def rMem : Rd Mem := (rList .int).bind fun a => (rList .box).bind fun b => Rd.pure ⟨a, b⟩
@[reducible] def rThr : Rd Thr := rInt.bind fun a => rInt.bind fun b => rOpn.bind fun c => (rList .ent).bind fun d => (rList .kid).bind fun e => (rList .int).bind fun f => rInt.bind fun g => rInt.bind fun h => rInt.bind fun i => rInt.bind fun j => rInt.bind fun k => rInt.bind fun l => rInt.bind fun m => rInt.bind fun n => rInt.bind fun o => rInt.bind fun p => Rd.pure ⟨a, b, c, d, e, f, g, h, i, j, k, l, m, n, o, p⟩
@[reducible] def rTape : Rd Tape := (rList .int).bind fun a => rInt.bind fun b => Rd.pure ⟨a, b⟩
@[reducible] def rTurn : Rd Turn := rCfg.bind fun a => rInt.bind fun b => rInt.bind fun c => rMem.bind fun d => rThr.bind fun e => rTape.bind fun f => (rList .mark).bind fun g => rBool.bind fun h => Rd.pure ⟨a, b, c, d, e, f, g, h⟩
@[reducible] def rWld : Rd Wld := rCfg.bind fun a => rMem.bind fun b => (rList .thr).bind fun c => rInt.bind fun d => rInt.bind fun e => rTape.bind fun f => (rList .mark).bind fun g => (rList .evt).bind fun h => Rd.pure ⟨a, b, c, d, e, f, g, h⟩
@[reducible] def Kd.rd : (k : Kd) → Rd k.C
  | .int => rInt | .bool => rBool | .opn => rOpn | .ent => rEnt | .kid => rKid | .mark => rMark | .sent => rSent | .evt => rEvt | .cfg => rCfg
  | .box => rList .ent | .kids => rList .kid | .mem => rMem | .thr => rThr | .tape => rTape | .turn => rTurn | .wld => rWld
  | .part => rStr.bind fun a => rFn.bind fun b => Rd.pure (a, b)
  | .int2 => rInt.bind fun a => rInt.bind fun b => Rd.pure (a, b)
  | .int3 => rInt.bind fun a => rInt.bind fun b => rInt.bind fun c => Rd.pure (a, b, c)
  | .int4 => rInt.bind fun a => rInt.bind fun b => rInt.bind fun c => rInt.bind fun d => Rd.pure (a, b, c, d)
  | .div => rTurn.bind fun a => rInt.bind fun b => Rd.pure ⟨a, b⟩
def Kd.dec (k : Kd) (ls : List Leaf) : Option k.C := match k.rd ls with | some (x, []) => some x | _ => none

/-- a leaf that may be taken for another one -/
inductive Co : Leaf → Leaf → Prop
  | refl (l) : Co l l
  | nils (k) : Co .nils (.list k [])
def Cos : List Leaf → List Leaf → Prop
  | [], [] => True
  | a :: as, b :: bs => Co a b ∧ Cos as bs
  | _, _ => False
theorem Cos.append {a b c d : List Leaf} (h : Cos a b) (h' : Cos c d) : Cos (a ++ c) (b ++ d) := by
  induction a generalizing b with
  | nil => cases b <;> simp_all [Cos]
  | cons x xs ih => cases b with
    | nil => simp [Cos] at h
    | cons y ys => exact ⟨h.1, ih h.2⟩
theorem asList_co {k : Kd} {l : Leaf} {xs : List k.C} (h : l.asList k = some xs) : Co l (.list k xs) := by
  cases l <;> simp only [Leaf.asList, reduceCtorEq, Option.some.injEq] at h
  case nils => subst h; exact .nils k
  case list k' ys => obtain ⟨rfl, h⟩ := Kd.cast_eq h; subst h; exact .refl _
/-- a reader that reads what it says -/
def Rd.Ok {α : Type} (p : Rd α) (E : α → List Leaf → List Leaf) : Prop := ∀ {ls : List Leaf} {x : α} {r : List Leaf}, p ls = some (x, r) → ∀ {r2 : List Leaf}, Cos r r2 → Cos ls (E x r2)
theorem Rd.elim {α β : Type} {p : Rd α} {f : α → Rd β} {ls : List Leaf} {y : β} {r : List Leaf} (h : (p.bind f) ls = some (y, r)) : ∃ a r1, p ls = some (a, r1) ∧ f a r1 = some (y, r) := by
  simp only [Rd.bind] at h
  cases hq : p ls with
  | none => simp [hq] at h
  | some q => exact ⟨q.1, q.2, rfl, by simpa [hq] using h⟩
theorem Rd.fin {α : Type} {a x : α} {ls r : List Leaf} (h : Rd.pure a ls = some (x, r)) : a = x ∧ ls = r := by simpa [Rd.pure] using h
theorem rInt_ok : Rd.Ok rInt (fun x r => li x :: r) := by
  intro ls x r h r2 hr
  unfold rInt at h
  split at h
  · simp only [Option.some.injEq, Prod.mk.injEq] at h; obtain ⟨rfl, rfl⟩ := h; exact ⟨.refl _, hr⟩
  · cases h
theorem rBool_ok : Rd.Ok rBool (fun x r => .bool x :: r) := by
  intro ls x r h r2 hr
  unfold rBool at h
  split at h
  · simp only [Option.some.injEq, Prod.mk.injEq] at h; obtain ⟨rfl, rfl⟩ := h; exact ⟨.refl _, hr⟩
  · cases h
theorem rStr_ok : Rd.Ok rStr (fun x r => .str x :: r) := by
  intro ls x r h r2 hr
  unfold rStr at h
  split at h
  · simp only [Option.some.injEq, Prod.mk.injEq] at h; obtain ⟨rfl, rfl⟩ := h; exact ⟨.refl _, hr⟩
  · cases h
theorem rFn_ok : Rd.Ok rFn (fun x r => .fn x :: r) := by
  intro ls x r h r2 hr
  unfold rFn at h
  split at h
  · simp only [Option.some.injEq, Prod.mk.injEq] at h; obtain ⟨rfl, rfl⟩ := h; exact ⟨.refl _, hr⟩
  · cases h
theorem rList_ok (k : Kd) : Rd.Ok (rList k) (fun x r => .list k x :: r) := by
  intro ls x r h r2 hr
  unfold rList at h
  split at h
  · split at h
    · rename_i hl
      simp only [Option.some.injEq, Prod.mk.injEq] at h; obtain ⟨rfl, rfl⟩ := h; exact ⟨asList_co hl, hr⟩
    · cases h
  · cases h
theorem rOpn_ok : Rd.Ok rOpn (fun x r => x.ls r) := by
  intro ls x r h r2 hr
  obtain ⟨a0, r0_, h0, h⟩ := Rd.elim h
  obtain ⟨a1, r1_, h1, h⟩ := Rd.elim h
  obtain ⟨rfl, rfl⟩ := Rd.fin h
  exact (rInt_ok h0 (rInt_ok h1 hr))
theorem rEnt_ok : Rd.Ok rEnt (fun x r => Kd.ls .ent x r) := by
  intro ls x r h r2 hr
  obtain ⟨a0, r0_, h0, h⟩ := Rd.elim h
  obtain ⟨a1, r1_, h1, h⟩ := Rd.elim h
  obtain ⟨rfl, rfl⟩ := Rd.fin h
  exact (rInt_ok h0 (rOpn_ok h1 hr))
theorem rKid_ok : Rd.Ok rKid (fun x r => Kd.ls .kid x r) := by
  intro ls x r h r2 hr
  obtain ⟨a0, r0_, h0, h⟩ := Rd.elim h
  obtain ⟨a1, r1_, h1, h⟩ := Rd.elim h
  obtain ⟨rfl, rfl⟩ := Rd.fin h
  exact (rInt_ok h0 (rInt_ok h1 hr))
theorem rMark_ok : Rd.Ok rMark (fun x r => Kd.ls .mark x r) := by
  intro ls x r h r2 hr
  obtain ⟨a0, r0_, h0, h⟩ := Rd.elim h
  obtain ⟨a1, r1_, h1, h⟩ := Rd.elim h
  obtain ⟨a2, r2_, h2, h⟩ := Rd.elim h
  obtain ⟨a3, r3_, h3, h⟩ := Rd.elim h
  obtain ⟨a4, r4_, h4, h⟩ := Rd.elim h
  obtain ⟨rfl, rfl⟩ := Rd.fin h
  exact (rInt_ok h0 (rInt_ok h1 (rOpn_ok h2 (rInt_ok h3 (rInt_ok h4 hr)))))
theorem rSent_ok : Rd.Ok rSent (fun x r => Kd.ls .sent x r) := by
  intro ls x r h r2 hr
  obtain ⟨a0, r0_, h0, h⟩ := Rd.elim h
  obtain ⟨a1, r1_, h1, h⟩ := Rd.elim h
  obtain ⟨a2, r2_, h2, h⟩ := Rd.elim h
  obtain ⟨a3, r3_, h3, h⟩ := Rd.elim h
  obtain ⟨rfl, rfl⟩ := Rd.fin h
  exact (rInt_ok h0 (rInt_ok h1 (rInt_ok h2 (rOpn_ok h3 hr))))
theorem rEvt_ok : Rd.Ok rEvt (fun x r => Kd.ls .evt x r) := by
  intro ls x r h r2 hr
  obtain ⟨a0, r0_, h0, h⟩ := Rd.elim h
  obtain ⟨a1, r1_, h1, h⟩ := Rd.elim h
  obtain ⟨a2, r2_, h2, h⟩ := Rd.elim h
  obtain ⟨a3, r3_, h3, h⟩ := Rd.elim h
  obtain ⟨a4, r4_, h4, h⟩ := Rd.elim h
  obtain ⟨a5, r5_, h5, h⟩ := Rd.elim h
  obtain ⟨a6, r6_, h6, h⟩ := Rd.elim h
  obtain ⟨rfl, rfl⟩ := Rd.fin h
  exact (rInt_ok h0 (rInt_ok h1 (rInt_ok h2 (rOpn_ok h3 (rInt_ok h4 (rBool_ok h5 (rInt_ok h6 hr)))))))
theorem rCfg_ok : Rd.Ok rCfg (fun x r => x.ls r) := by
  intro ls x r h r2 hr
  obtain ⟨a0, r0_, h0, h⟩ := Rd.elim h
  obtain ⟨a1, r1_, h1, h⟩ := Rd.elim h
  obtain ⟨a2, r2_, h2, h⟩ := Rd.elim h
  obtain ⟨a3, r3_, h3, h⟩ := Rd.elim h
  obtain ⟨a4, r4_, h4, h⟩ := Rd.elim h
  obtain ⟨a5, r5_, h5, h⟩ := Rd.elim h
  obtain ⟨a6, r6_, h6, h⟩ := Rd.elim h
  obtain ⟨a7, r7_, h7, h⟩ := Rd.elim h
  obtain ⟨a8, r8_, h8, h⟩ := Rd.elim h
  obtain ⟨a9, r9_, h9, h⟩ := Rd.elim h
  obtain ⟨a10, r10_, h10, h⟩ := Rd.elim h
  obtain ⟨a11, r11_, h11, h⟩ := Rd.elim h
  obtain ⟨rfl, rfl⟩ := Rd.fin h
  exact (rInt_ok h0 (rInt_ok h1 (rInt_ok h2 (rInt_ok h3 (rInt_ok h4 (rInt_ok h5 (rInt_ok h6 (rInt_ok h7 (rBool_ok h8 (rInt_ok h9 (rInt_ok h10 (rInt_ok h11 hr))))))))))))
theorem rMem_ok : Rd.Ok rMem (fun x r => x.ls r) := by
  intro ls x r h r2 hr
  obtain ⟨a0, r0_, h0, h⟩ := Rd.elim h
  obtain ⟨a1, r1_, h1, h⟩ := Rd.elim h
  obtain ⟨rfl, rfl⟩ := Rd.fin h
  exact (rList_ok .int h0 (rList_ok .box h1 hr))
theorem rThr_ok : Rd.Ok rThr (fun x r => x.ls r) := by
  intro ls x r h r2 hr
  obtain ⟨a0, r0_, h0, h⟩ := Rd.elim h
  obtain ⟨a1, r1_, h1, h⟩ := Rd.elim h
  obtain ⟨a2, r2_, h2, h⟩ := Rd.elim h
  obtain ⟨a3, r3_, h3, h⟩ := Rd.elim h
  obtain ⟨a4, r4_, h4, h⟩ := Rd.elim h
  obtain ⟨a5, r5_, h5, h⟩ := Rd.elim h
  obtain ⟨a6, r6_, h6, h⟩ := Rd.elim h
  obtain ⟨a7, r7_, h7, h⟩ := Rd.elim h
  obtain ⟨a8, r8_, h8, h⟩ := Rd.elim h
  obtain ⟨a9, r9_, h9, h⟩ := Rd.elim h
  obtain ⟨a10, r10_, h10, h⟩ := Rd.elim h
  obtain ⟨a11, r11_, h11, h⟩ := Rd.elim h
  obtain ⟨a12, r12_, h12, h⟩ := Rd.elim h
  obtain ⟨a13, r13_, h13, h⟩ := Rd.elim h
  obtain ⟨a14, r14_, h14, h⟩ := Rd.elim h
  obtain ⟨a15, r15_, h15, h⟩ := Rd.elim h
  obtain ⟨rfl, rfl⟩ := Rd.fin h
  exact (rInt_ok h0 (rInt_ok h1 (rOpn_ok h2 (rList_ok .ent h3 (rList_ok .kid h4 (rList_ok .int h5 (rInt_ok h6 (rInt_ok h7 (rInt_ok h8 (rInt_ok h9 (rInt_ok h10 (rInt_ok h11 (rInt_ok h12 (rInt_ok h13 (rInt_ok h14 (rInt_ok h15 hr))))))))))))))))
theorem rTape_ok : Rd.Ok rTape (fun x r => x.ls r) := by
  intro ls x r h r2 hr
  obtain ⟨a0, r0_, h0, h⟩ := Rd.elim h
  obtain ⟨a1, r1_, h1, h⟩ := Rd.elim h
  obtain ⟨rfl, rfl⟩ := Rd.fin h
  exact (rList_ok .int h0 (rInt_ok h1 hr))
theorem rTurn_ok : Rd.Ok rTurn (fun x r => x.ls r) := by
  intro ls x r h r2 hr
  obtain ⟨a0, r0_, h0, h⟩ := Rd.elim h
  obtain ⟨a1, r1_, h1, h⟩ := Rd.elim h
  obtain ⟨a2, r2_, h2, h⟩ := Rd.elim h
  obtain ⟨a3, r3_, h3, h⟩ := Rd.elim h
  obtain ⟨a4, r4_, h4, h⟩ := Rd.elim h
  obtain ⟨a5, r5_, h5, h⟩ := Rd.elim h
  obtain ⟨a6, r6_, h6, h⟩ := Rd.elim h
  obtain ⟨a7, r7_, h7, h⟩ := Rd.elim h
  obtain ⟨rfl, rfl⟩ := Rd.fin h
  exact (rCfg_ok h0 (rInt_ok h1 (rInt_ok h2 (rMem_ok h3 (rThr_ok h4 (rTape_ok h5 (rList_ok .mark h6 (rBool_ok h7 hr))))))))
theorem rWld_ok : Rd.Ok rWld (fun x r => x.ls r) := by
  intro ls x r h r2 hr
  obtain ⟨a0, r0_, h0, h⟩ := Rd.elim h
  obtain ⟨a1, r1_, h1, h⟩ := Rd.elim h
  obtain ⟨a2, r2_, h2, h⟩ := Rd.elim h
  obtain ⟨a3, r3_, h3, h⟩ := Rd.elim h
  obtain ⟨a4, r4_, h4, h⟩ := Rd.elim h
  obtain ⟨a5, r5_, h5, h⟩ := Rd.elim h
  obtain ⟨a6, r6_, h6, h⟩ := Rd.elim h
  obtain ⟨a7, r7_, h7, h⟩ := Rd.elim h
  obtain ⟨rfl, rfl⟩ := Rd.fin h
  exact (rCfg_ok h0 (rMem_ok h1 (rList_ok .thr h2 (rInt_ok h3 (rInt_ok h4 (rTape_ok h5 (rList_ok .mark h6 (rList_ok .evt h7 hr))))))))
theorem Kd.rd_ok (k : Kd) : Rd.Ok k.rd k.ls := by
  cases k
  case int => exact rInt_ok
  case bool => exact rBool_ok
  case opn => exact rOpn_ok
  case ent => exact rEnt_ok
  case kid => exact rKid_ok
  case mark => exact rMark_ok
  case sent => exact rSent_ok
  case evt => exact rEvt_ok
  case cfg => exact rCfg_ok
  case box => exact rList_ok .ent
  case kids => exact rList_ok .kid
  case mem => exact rMem_ok
  case thr => exact rThr_ok
  case tape => exact rTape_ok
  case turn => exact rTurn_ok
  case wld => exact rWld_ok
  case part =>
    intro ls x r h r2 hr
    obtain ⟨a0, r0_, h0, h⟩ := Rd.elim h
    obtain ⟨a1, r1_, h1, h⟩ := Rd.elim h
    obtain ⟨rfl, rfl⟩ := Rd.fin h
    exact (rStr_ok h0 (rFn_ok h1 hr))
  case int2 =>
    intro ls x r h r2 hr
    obtain ⟨a0, r0_, h0, h⟩ := Rd.elim h
    obtain ⟨a1, r1_, h1, h⟩ := Rd.elim h
    obtain ⟨rfl, rfl⟩ := Rd.fin h
    exact (rInt_ok h0 (rInt_ok h1 hr))
  case int3 =>
    intro ls x r h r2 hr
    obtain ⟨a0, r0_, h0, h⟩ := Rd.elim h
    obtain ⟨a1, r1_, h1, h⟩ := Rd.elim h
    obtain ⟨a2, r2_, h2, h⟩ := Rd.elim h
    obtain ⟨rfl, rfl⟩ := Rd.fin h
    exact (rInt_ok h0 (rInt_ok h1 (rInt_ok h2 hr)))
  case int4 =>
    intro ls x r h r2 hr
    obtain ⟨a0, r0_, h0, h⟩ := Rd.elim h
    obtain ⟨a1, r1_, h1, h⟩ := Rd.elim h
    obtain ⟨a2, r2_, h2, h⟩ := Rd.elim h
    obtain ⟨a3, r3_, h3, h⟩ := Rd.elim h
    obtain ⟨rfl, rfl⟩ := Rd.fin h
    exact (rInt_ok h0 (rInt_ok h1 (rInt_ok h2 (rInt_ok h3 hr))))
  case div =>
    intro ls x r h r2 hr
    obtain ⟨a0, r0_, h0, h⟩ := Rd.elim h
    obtain ⟨a1, r1_, h1, h⟩ := Rd.elim h
    obtain ⟨rfl, rfl⟩ := Rd.fin h
    exact (rTurn_ok h0 (rInt_ok h1 hr))
theorem Kd.dec_cos {k : Kd} {ls : List Leaf} {x : k.C} (h : k.dec ls = some x) : Cos ls (k.cells x) := by
  unfold Kd.dec at h
  split at h
  · rename_i hq
    simp only [Option.some.injEq] at h; subst h
    exact k.rd_ok hq (by simp [Cos])
  · cases h
theorem Cos.length {a b : List Leaf} (h : Cos a b) : a.length = b.length := by
  induction a generalizing b with
  | nil => cases b <;> simp_all [Cos]
  | cons x xs ih => cases b with
    | nil => simp [Cos] at h
    | cons y ys => simp [ih h.2]
theorem Kd.dec_cells (k : Kd) (x : k.C) : k.dec (k.cells x) = some x := by cases k <;> rfl
end Go.Proofs.YtihhgenbkiollaaGreat

/- The abstract machine, part b: what a real value stands for. No condition. -/
namespace Go.Proofs.YtihhgenbkiollaaGreat
open Go Go.RowKit

/-- a plain leaf's value: what it reads lies in D -/
inductive PL (w : World) (D : Nat → Nat → Prop) : Value → Leaf → Prop
  | int (k : IntKind) (x : Int) : PL w D (.int k x) (.int k x)
  | bool (b : Bool) : PL w D (.bool b) (.bool b)
  | str (s : ByteArray) : PL w D (.string s) (.str s)
  | nils : PL w D (.slice none 0 0) .nils
  | nilp : PL w D (.pointer none) .nilp
  | nilf : PL w D .nilFunc .nilf
  | nili : PL w D .nilIface .nili
  | nilc : PL w D (.chan none) .nilc
  | nilm : PL w D (.map none) .nilm
  | fn (f : FuncId) : PL w D (.func (.func f) #[] #[]) (.fn f)
  | list (k : Kd) (xs : List k.C) (a : Option Addr) (cap : Nat) (hcap : xs.length ≤ cap) (cs : Nat → Nat → Value)
      (hs : ∀ i j, i < xs.length → j < k.sz → ∃ b o, a = some ⟨b, o, none⟩ ∧ D b (o + i * k.sz + j) ∧ w.cell? ⟨b, o + i * k.sz + j, none⟩ = some (cs i j))
      (hr : ∀ i j, i < xs.length → j < k.sz → PL w D (cs i j) ((k.cells (xs.getD i k.dflt)).getD j .nils)) :
      PL w D (.slice a xs.length cap) (.list k xs)

theorem PL.mono {w w' : World} {D D' : Nat → Nat → Prop} (hD : ∀ b o, D b o → D' b o) (hc : ∀ b o, D b o → w'.cell? ⟨b, o, none⟩ = w.cell? ⟨b, o, none⟩)
    {v : Value} {l : Leaf} (h : PL w D v l) : PL w' D' v l := by
  induction h with
  | int k x => exact .int k x
  | bool b => exact .bool b
  | str s => exact .str s
  | nils => exact .nils
  | nilp => exact .nilp
  | nilf => exact .nilf
  | nili => exact .nili
  | nilc => exact .nilc
  | nilm => exact .nilm
  | fn f => exact .fn f
  | list k xs a cap hcap cs hs hr ih =>
    refine .list k xs a cap hcap cs (fun i j hi hj => ?_) ih
    obtain ⟨b, o, ha, hd, he⟩ := hs i j hi hj
    exact ⟨b, o, ha, hD _ _ hd, (hc _ _ hd).trans he⟩

theorem PL.co {w : World} {D : Nat → Nat → Prop} {v : Value} {l l' : Leaf} (h : PL w D v l) (hc : Co l l') : PL w D v l' := by
  cases hc with
  | refl => exact h
  | nils k =>
    cases h
    exact PL.list (w := w) (D := D) k [] none 0 (Nat.le_refl _) (fun _ _ => undef) (fun i j hi => absurd hi (by simp)) (fun i j hi => absurd hi (by simp))

/-- the context of a state: where objects lie, lengths and capacities of rows, and what is fixed -/
structure Cx where
  ρ : Nat → Option (Option Nat)
  κ : Nat → Nat × Nat
  D : Nat → Nat → Prop

/-- a leaf that may lead to the state's own objects, but holds no leaves -/
def RL0 (x : Cx) (w : World) (v : Value) : Leaf → Prop
  | .ptr (.box b o) => ∃ blk, x.ρ b = some (some blk) ∧ v = .pointer (some ⟨blk, o, none⟩)
  | .ptr (.elt k xs i o) => ∃ blk base, v = .pointer (some ⟨blk, base + o, none⟩) ∧ i < xs.length ∧
      ∀ j, j < k.sz → ∃ c, x.D blk (base + j) ∧ w.cell? ⟨blk, base + j, none⟩ = some c ∧ PL w x.D c ((k.cells (xs.getD i k.dflt)).getD j .nils)
  | .ptr (.arr b k i o) => ∃ blk, x.ρ b = some (some blk) ∧ i < (x.κ b).1 ∧ v = .pointer (some ⟨blk, i * k.sz + o, none⟩)
  | .own b => ∃ ob, x.ρ b = some ob ∧ v = .slice (ob.map fun blk => ⟨blk, 0, none⟩) (x.κ b).1 (x.κ b).2
  | .map b => ∃ blk, x.ρ b = some (some blk) ∧ v = .map (some blk)
  | .chan b => ∃ blk, x.ρ b = some (some blk) ∧ v = .chan (some blk)
  | .clo .. => False
  | .ifc .. => False
  | l => PL w x.D v l

/-- two lists, related place by place -/
def Rs {α β : Type} (R : α → β → Prop) : List α → List β → Prop
  | [], [] => True
  | a :: as, b :: bs => R a b ∧ Rs R as bs
  | _, _ => False

theorem Rs.length {α β : Type} {R : α → β → Prop} : ∀ {as : List α} {bs : List β}, Rs R as bs → as.length = bs.length
  | [], [], _ => rfl
  | a :: as, b :: bs, h => by simp [Rs.length h.2]
  | [], b :: bs, h => h.elim
  | a :: as, [], h => h.elim
theorem Rs.mono {α β : Type} {R R' : α → β → Prop} (hr : ∀ a b, R a b → R' a b) : ∀ {as : List α} {bs : List β}, Rs R as bs → Rs R' as bs
  | [], [], _ => trivial
  | a :: as, b :: bs, h => ⟨hr _ _ h.1, Rs.mono hr h.2⟩
  | [], b :: bs, h => h.elim
  | a :: as, [], h => h.elim
theorem Rs.append {α β : Type} {R : α → β → Prop} : ∀ {as : List α} {bs : List β} {cs : List α} {ds : List β}, Rs R as bs → Rs R cs ds → Rs R (as ++ cs) (bs ++ ds)
  | [], [], _, _, _, h => h
  | a :: as, b :: bs, _, _, h, h' => ⟨h.1, Rs.append h.2 h'⟩
  | [], b :: bs, _, _, h, _ => h.elim
  | a :: as, [], _, _, h, _ => h.elim
theorem Rs.take {α β : Type} {R : α → β → Prop} : ∀ (n : Nat) {as : List α} {bs : List β}, Rs R as bs → Rs R (as.take n) (bs.take n)
  | 0, as, bs, h => by simp [Rs]
  | n + 1, [], [], _ => trivial
  | n + 1, a :: as, b :: bs, h => ⟨h.1, Rs.take n h.2⟩
  | n + 1, [], b :: bs, h => h.elim
  | n + 1, a :: as, [], h => h.elim
theorem Rs.drop {α β : Type} {R : α → β → Prop} : ∀ (n : Nat) {as : List α} {bs : List β}, Rs R as bs → Rs R (as.drop n) (bs.drop n)
  | 0, as, bs, h => h
  | n + 1, [], [], _ => trivial
  | n + 1, a :: as, b :: bs, h => by simpa using Rs.drop n h.2
  | n + 1, [], b :: bs, h => h.elim
  | n + 1, a :: as, [], h => h.elim
theorem Rs.get {α β : Type} {R : α → β → Prop} : ∀ {as : List α} {bs : List β} (j : Nat) (b : β), Rs R as bs → bs[j]? = some b → ∃ a, as[j]? = some a ∧ R a b
  | [], [], _, _, _, h => by simp at h
  | a :: as, b' :: bs, 0, b, h, hb => by simp at hb; subst hb; exact ⟨a, rfl, h.1⟩
  | a :: as, b' :: bs, j + 1, b, h, hb => by simpa using Rs.get j b h.2 (by simpa using hb)
  | [], b' :: bs, _, _, h, _ => h.elim
  | a :: as, [], _, _, h, _ => h.elim
theorem Rs.of_get {α β : Type} {R : α → β → Prop} : ∀ {as : List α} {bs : List β}, as.length = bs.length → (∀ (j : Nat) (a : α) (b : β), as[j]? = some a → bs[j]? = some b → R a b) → Rs R as bs
  | [], [], _, _ => trivial
  | a :: as, b :: bs, hl, h => ⟨h 0 a b rfl rfl, Rs.of_get (by simpa using hl) fun j x y hx hy => h (j + 1) x y (by simpa using hx) (by simpa using hy)⟩
  | [], b :: bs, hl, _ => by simp at hl
  | a :: as, [], hl, _ => by simp at hl
theorem Rs.cos {w : World} {D : Nat → Nat → Prop} : ∀ {vs : List Value} {ls ls' : List Leaf}, Rs (PL w D) vs ls → Cos ls ls' → Rs (PL w D) vs ls'
  | [], [], [], _, _ => trivial
  | v :: vs, l :: ls, l' :: ls', h, hc => ⟨h.1.co hc.1, Rs.cos h.2 hc.2⟩
  | [], [], _ :: _, _, hc => hc.elim
  | _ :: _, _ :: _, [], _, hc => hc.elim
  | [], _ :: _, _, h, _ => h.elim
  | _ :: _, [], _, h, _ => h.elim

/-- a closure's value -/
def IsClo (x : Cx) (w : World) (v : Value) (l : Leaf) : Prop := ∃ f agg first cap, l = .clo f agg first cap ∧
  ∃ (vf : List Value) (vc : List Value), v = .func (.func f) (if agg then #[.agg vf.toArray] else vf.toArray) vc.toArray ∧ Rs (RL0 x w) vf first ∧ Rs (fun v l => RL0 x w v (.ptr l)) vc cap
def RL1 (x : Cx) (w : World) (v : Value) (l : Leaf) : Prop := RL0 x w v l ∨ IsClo x w v l
/-- an interface's value -/
def IsIfc (x : Cx) (w : World) (v : Value) (l : Leaf) : Prop := ∃ t agg ls, l = .ifc t agg ls ∧
  ∃ vs : List Value, Rs (RL1 x w) vs ls ∧ v = .iface t (if agg then .agg vs.toArray else vs.headD undef) ∧ (agg = false → ls.length = 1)
/-- a leaf's value -/
def RL (x : Cx) (w : World) (v : Value) (l : Leaf) : Prop := RL1 x w v l ∨ IsIfc x w v l

/-- a state that goes on from another one: what was laid and fixed is so still -/
structure Evo (x : Cx) (w : World) (x' : Cx) (w' : World) : Prop where
  ρ : ∀ b o, x.ρ b = some o → x'.ρ b = some o
  κ : ∀ b o, x.ρ b = some o → x'.κ b = x.κ b
  D : ∀ b o, x.D b o → x'.D b o
  cell : ∀ b o, x.D b o → w'.cell? ⟨b, o, none⟩ = w.cell? ⟨b, o, none⟩
  sz : w.heap.size ≤ w'.heap.size
  dn : ∀ b o, b < w.heap.size → x'.D b o → x.D b o ∨ ∃ c, x.ρ c = some (some b)
  rn : ∀ c b, b < w.heap.size → x'.ρ c = some (some b) → ∃ c', x.ρ c' = some (some b)
theorem Evo.refl (x : Cx) (w : World) : Evo x w x w := ⟨fun _ _ h => h, fun _ _ _ => rfl, fun _ _ h => h, fun _ _ _ => rfl, Nat.le_refl _, fun _ _ _ h => .inl h, fun c _ _ h => ⟨c, h⟩⟩
theorem Evo.trans {x y z : Cx} {u v w : World} (h : Evo x u y v) (k : Evo y v z w) : Evo x u z w :=
  ⟨fun b o hb => k.ρ b o (h.ρ b o hb), fun b o hb => (k.κ b o (h.ρ b o hb)).trans (h.κ b o hb), fun b o hb => k.D b o (h.D b o hb),
   fun b o hb => (k.cell b o (h.D b o hb)).trans (h.cell b o hb), Nat.le_trans h.sz k.sz,
   fun b o hb hd => by
    rcases k.dn b o (Nat.lt_of_lt_of_le hb h.sz) hd with hd | ⟨c, hc⟩
    · exact h.dn b o hb hd
    · exact .inr (h.rn c b hb hc),
   fun c b hb hc => let ⟨c', hc'⟩ := k.rn c b (Nat.lt_of_lt_of_le hb h.sz) hc; h.rn c' b hb hc'⟩
theorem RL0.evo {x x' : Cx} {w w' : World} (e : Evo x w x' w') {v : Value} {l : Leaf} (h : RL0 x w v l) : RL0 x' w' v l := by
  cases l with
  | ptr p =>
    cases p with
    | box b o => obtain ⟨blk, h1, h2⟩ := h; exact ⟨blk, e.ρ _ _ h1, h2⟩
    | elt k xs i o =>
      obtain ⟨blk, base, h1, h2, h3⟩ := h
      refine ⟨blk, base, h1, h2, fun j hj => ?_⟩
      obtain ⟨c, hd, hc, hp⟩ := h3 j hj
      exact ⟨c, e.D _ _ hd, (e.cell _ _ hd).trans hc, hp.mono e.D e.cell⟩
    | arr b k i o => obtain ⟨blk, h1, h2, h3⟩ := h; exact ⟨blk, e.ρ _ _ h1, by rw [e.κ _ _ h1]; exact h2, h3⟩
  | own b => obtain ⟨ob, h1, h2⟩ := h; exact ⟨ob, e.ρ _ _ h1, by rw [e.κ _ _ h1]; exact h2⟩
  | map b => obtain ⟨blk, h1, h2⟩ := h; exact ⟨blk, e.ρ _ _ h1, h2⟩
  | chan b => obtain ⟨blk, h1, h2⟩ := h; exact ⟨blk, e.ρ _ _ h1, h2⟩
  | clo => exact h
  | ifc => exact h
  | _ => exact PL.mono e.D e.cell h
theorem RL1.evo {x x' : Cx} {w w' : World} (e : Evo x w x' w') {v : Value} {l : Leaf} (h : RL1 x w v l) : RL1 x' w' v l := by
  rcases h with h | ⟨f, agg, first, cap, rfl, vf, vc, h1, h2, h3⟩
  · exact .inl (h.evo e)
  · exact .inr ⟨f, agg, first, cap, rfl, vf, vc, h1, h2.mono fun _ _ => RL0.evo e, h3.mono fun _ _ => RL0.evo e⟩
theorem RL.evo {x x' : Cx} {w w' : World} (e : Evo x w x' w') {v : Value} {l : Leaf} (h : RL x w v l) : RL x' w' v l := by
  rcases h with h | ⟨t, agg, ls, rfl, vs, h1, h2, h3⟩
  · exact .inl (h.evo e)
  · exact .inr ⟨t, agg, ls, rfl, vs, h1.mono fun _ _ => RL1.evo e, h2, h3⟩

/-- every leaf's value is one cell -/
theorem PL.one {w : World} {D : Nat → Nat → Prop} {v : Value} {l : Leaf} (h : PL w D v l) : v.oneCell' = true := by cases h <;> rfl
theorem RL0.one {x : Cx} {w : World} {v : Value} {l : Leaf} (h : RL0 x w v l) : v.oneCell' = true := by
  cases l with
  | ptr p =>
    cases p with
    | box b o => obtain ⟨blk, h1, rfl⟩ := h; rfl
    | elt k xs i o => obtain ⟨blk, base, rfl, h2⟩ := h; rfl
    | arr b k i o => obtain ⟨blk, h1, h2, rfl⟩ := h; rfl
  | own b => obtain ⟨ob, h1, rfl⟩ := h; rfl
  | map b => obtain ⟨blk, h1, rfl⟩ := h; rfl
  | chan b => obtain ⟨blk, h1, rfl⟩ := h; rfl
  | clo => exact h.elim
  | ifc => exact h.elim
  | _ => exact PL.one h
theorem RL1.one {x : Cx} {w : World} {v : Value} {l : Leaf} (h : RL1 x w v l) : v.oneCell' = true := by
  rcases h with h | ⟨f, agg, first, cap, rfl, vf, vc, rfl, h2, h3⟩
  · exact h.one
  · rfl
theorem RL.one {x : Cx} {w : World} {v : Value} {l : Leaf} (h : RL x w v l) : v.oneCell' = true := by
  rcases h with h | ⟨t, agg, ls, rfl, vs, h1, rfl, h3⟩
  · exact h.one
  · rfl
theorem RL0.of_pl {x : Cx} {w : World} {v : Value} {l : Leaf} (h : PL w x.D v l) : RL0 x w v l := by
  cases h with
  | int => exact PL.int _ _
  | bool => exact PL.bool _
  | str => exact PL.str _
  | nils => exact PL.nils
  | nilp => exact PL.nilp
  | nilf => exact PL.nilf
  | nili => exact PL.nili
  | nilc => exact PL.nilc
  | nilm => exact PL.nilm
  | fn => exact PL.fn _
  | list k xs a cap hcap cs hs hr => exact PL.list _ _ _ _ hcap _ hs hr
theorem RL.of_pl {x : Cx} {w : World} {v : Value} {l : Leaf} (h : PL w x.D v l) : RL x w v l := .inl (.inl (.of_pl h))

/-- a value's: one leaf, or a row -/
def RA (x : Cx) (w : World) (v : Value) : AV → Prop
  | ⟨true, ls⟩ => ∃ vs : List Value, v = .agg vs.toArray ∧ Rs (RL x w) vs ls
  | ⟨false, ls⟩ => ∃ l, ls = [l] ∧ RL x w v l
def RV (x : Cx) (w : World) (v : Value) : AVal → Prop
  | .v a => RA x w v a
  | .tup as => ∃ vs : List Value, v = .tuple vs.toArray ∧ Rs (RA x w) vs as
theorem RA.evo {x x' : Cx} {w w' : World} (e : Evo x w x' w') {v : Value} {a : AV} (h : RA x w v a) : RA x' w' v a := by
  obtain ⟨g, ls⟩ := a
  cases g with
  | true => obtain ⟨vs, h1, h2⟩ := h; exact ⟨vs, h1, h2.mono fun _ _ => RL.evo e⟩
  | false => obtain ⟨l, h1, h2⟩ := h; exact ⟨l, h1, h2.evo e⟩
theorem RV.evo {x x' : Cx} {w w' : World} (e : Evo x w x' w') {v : Value} {a : AVal} (h : RV x w v a) : RV x' w' v a := by
  cases a with
  | v a => exact RA.evo e h
  | tup as => obtain ⟨vs, h1, h2⟩ := h; exact ⟨vs, h1, h2.mono fun _ _ => RA.evo e⟩
theorem RA.cells {x : Cx} {w : World} {v : Value} {a : AV} (h : RA x w v a) : Rs (RL x w) v.cells.toList a.ls := by
  obtain ⟨g, ls⟩ := a
  cases g with
  | true => obtain ⟨vs, rfl, h2⟩ := h; simpa [Value.cells] using h2
  | false =>
    obtain ⟨l, h1, h2⟩ := h
    have := h2.one
    subst h1
    cases v <;> simp_all [Value.cells, Value.oneCell', Rs]

/-- an object's block -/
def Lies (x : Cx) (w : World) (ob : Option Nat) (lc : Nat × Nat) : Obj → Prop
  | .cells ls => ∃ blk cs t, ob = some blk ∧ w.heap[blk]? = some (.cells cs t (0, 0)) ∧ Rs (RL x w) cs.toList ls ∧ ∀ o, ¬ x.D blk o
  | .arr k xs lent => lc.1 = xs.length ∧ lc.1 ≤ lc.2 ∧ ((ob = none ∧ lc = (0, 0)) ∨ ∃ blk cs t, ob = some blk ∧ w.heap[blk]? = some (.cells cs t (0, 0)) ∧ cs.size = lc.2 * k.sz ∧
      (∀ i j, i < xs.length → j < k.sz → ∃ c, cs[i * k.sz + j]? = some c ∧ PL w x.D c ((k.cells (xs.getD i k.dflt)).getD j .nils)) ∧
      (lent = false → ∀ o, ¬ x.D blk o) ∧ (lent = true → ∀ o, x.D blk o ↔ o < xs.length * k.sz))
  | .omap es => ∃ (blk : Nat) (ms : List MapEntry) (clock : Nat), ob = some blk ∧ w.heap[blk]? = some (.map ms.toArray clock) ∧ Rs (fun (m : MapEntry) (e : Int × Leaf) => m.key = .int .i64 e.1 ∧ RL x w m.val e.2) ms es
  | .chan buf => ∃ (blk : Nat) (vs : List Value) (s r : Nat), ob = some blk ∧ w.heap[blk]? = some (.chan 1 vs.toArray false s r false) ∧ Rs (RA x w) vs buf ∧ buf.length ≤ 1

/-- the state: slots T, objects H; B: how many blocks there were at the beginning, in w0 -/
structure Sim (B : Nat) (w0 : World) (n : Nat) (T : Nat → Option AVal) (H : Nat → Option Obj) (x : Cx) (a : Act) (w : World) : Prop where
  below : Below B w0 w
  size : B ≤ w.heap.size
  slots : a.tmps.size = n
  defers : a.defers = []
  tmps : ∀ t v, T t = some v → RV x w (a.tmps.getD t undef) v
  heap : ∀ b o, H b = some o → ∃ ob, x.ρ b = some ob ∧ (∀ blk, ob = some blk → B ≤ blk ∧ blk < w.heap.size) ∧ Lies x w ob (x.κ b) o
  inj : ∀ b b' o o' blk, H b = some o → H b' = some o' → x.ρ b = some (some blk) → x.ρ b' = some (some blk) → b = b'
  dlt : ∀ b o, x.D b o → b < w.heap.size
end Go.Proofs.YtihhgenbkiollaaGreat

/- The abstract machine, part c: how it runs. No condition. -/
namespace Go.Proofs.YtihhgenbkiollaaGreat
open Go

/-- types, as far as the abstract machine asks -/
inductive TD where
  | int (k : IntKind) | bool | str | struct (fs : List (Nat × TypeId)) | array (n : Nat) (e : TypeId) | slice (e : TypeId) (k : Kd) | map | chan | fnc | ifc | other
structure TI where
  sz : Nat
  bytes : Nat
  zero : List Leaf
  eqp : Bool
  td : TD
abbrev Gam := List (TypeId × TI)
def TI.agg (i : TI) : Bool := match i.td with | .struct _ | .array _ _ => true | _ => false

def lk {α : Type} (t : Nat) : List (Nat × α) → Option α
  | [] => none
  | (u, x) :: r => cond (Nat.beq u t) (some x) (lk t r)

structure St where
  tm : List (Nat × Option AVal)
  hp : List (Nat × Option Obj)
/-- what does not change: slots and objects that are behind the state's own -/
structure Env where
  tm : List (Nat × Option AVal)
  hp : List (Nat × Option Obj)
def getT (e : Env) (s : St) (t : Nat) : Option AVal :=
  match lk t s.tm with | some v => v | none => match lk t e.tm with | some v => v | none => none
def getH (e : Env) (s : St) (b : Nat) : Option Obj :=
  match lk b s.hp with | some v => v | none => match lk b e.hp with | some v => v | none => none

def AVal.l (l : Leaf) : AVal := .v ⟨false, [l]⟩
def constA : Value → Option AVal
  | .int k n => some (.l (.int k n))
  | .bool b => some (.l (.bool b))
  | .string s => some (.l (.str s))
  | .slice none 0 0 => some (.l .nils)
  | .pointer none => some (.l .nilp)
  | .nilFunc => some (.l .nilf)
  | .nilIface => some (.l .nili)
  | .chan none => some (.l .nilc)
  | _ => none
def opnd (T : Nat → Option AVal) : Operand → Option AVal
  | .tmp t => T t
  | .const v => constA v
  | .func f => some (.l (.fn f))
  | .global _ => none

/-- what an operation does: its value, the objects that it lays anew (or ends), the objects that it looks at -/
structure Eff where
  val : Option AVal
  hp : List (Nat × Option Obj)
  rd : List Nat

/-- leaves with their rows' contents: an owned row becomes a fixed one -/
def fixL (H : Nat → Option Obj) : Leaf → Option Leaf
  | .own b => match H b with | some (.arr k xs _) => some (.list k xs) | _ => none
  | .ptr _ => none
  | .clo .. => none
  | .ifc .. => none
  | .map _ => none
  | .chan _ => none
  | l => some l
def fixLs (H : Nat → Option Obj) : List Leaf → Option (List Leaf)
  | [] => some []
  | l :: r => match fixL H l, fixLs H r with | some l, some r => some (l :: r) | _, _ => none
def ownsL : List Leaf → List Nat
  | [] => []
  | .own b :: r => b :: ownsL r
  | _ :: r => ownsL r
/-- a leaf that leads to places that stay -/
def isElt : Loc → Bool | .elt .. => true | _ => false
def frozenL : Leaf → Bool
  | .ptr p => isElt p
  | .clo _ _ [] cap => cap.all isElt
  | _ => false
def fixA (H : Nat → Option Obj) (a : AV) : Option AV :=
  match fixLs H a.ls with
  | some ls => some ⟨a.agg, ls⟩
  | none => match a with
    | ⟨false, [l]⟩ => cond (frozenL l) (some ⟨false, [l]⟩) none
    | _ => none
def fixAs (H : Nat → Option Obj) : List AV → Option (List AV)
  | [] => some []
  | a :: r => match fixA H a, fixAs H r with | some a, some r => some (a :: r) | _, _ => none
def ownsA : List AV → List Nat
  | [] => []
  | a :: r => ownsL a.ls ++ ownsA r

section
variable {R : Type}
def need {α : Type} (x : Option α) (k : α → Option R) : Option R := match x with | some a => k a | none => none
def guardB (b : Bool) (k : Option R) : Option R := cond b k none
def asOne (x : Option AVal) (k : Leaf → Option R) : Option R := match x with | some (.v ⟨false, [l]⟩) => k l | _ => none
def asInt (x : Option AVal) (k : IntKind → Int → Option R) : Option R := asOne x fun | .int q n => k q n | _ => none
def asV (x : Option AVal) (k : AV → Option R) : Option R := match x with | some (.v a) => k a | _ => none
def asPtr (x : Option AVal) (k : Loc → Option R) : Option R := asOne x fun | .ptr p => k p | _ => none

def cutL (ls : List Leaf) (off n : Nat) : List Leaf := (ls.drop off).take n
/-- leaves as a value of a type -/
def asVal (agg : Bool) (ls : List Leaf) (k : AVal → Option R) : Option R := k (.v ⟨agg, ls⟩)
def fill (ls : List Leaf) (off : Nat) (new : List Leaf) : List Leaf := ls.take off ++ new ++ ls.drop (off + new.length)

def intOp (op : BinOp) (k : IntKind) (a b : Int) (c : AVal → Option R) : Option R :=
  match op with
  | .add => c (.l (.int k (k.wrap (a + b))))
  | .sub => c (.l (.int k (k.wrap (a - b))))
  | .mul => c (.l (.int k (k.wrap (a * b))))
  | .quo => guardB (!(b == 0)) (c (.l (.int k (k.wrap (a.tdiv b)))))
  | .rem => guardB (!(b == 0)) (c (.l (.int k (a.tmod b))))
  | .and => c (.l (.int k (k.wrap (BitVec.ofInt k.bits a &&& BitVec.ofInt k.bits b).toNat)))
  | .or => c (.l (.int k (k.wrap (BitVec.ofInt k.bits a ||| BitVec.ofInt k.bits b).toNat)))
  | .eql => c (.l (.bool (a == b)))
  | .neq => c (.l (.bool (a != b)))
  | .lss => c (.l (.bool (decide (a < b))))
  | .leq => c (.l (.bool (decide (a ≤ b))))
  | .gtr => c (.l (.bool (decide (a > b))))
  | .geq => c (.l (.bool (decide (a ≥ b))))
  | _ => none
/-- rows of whole numbers and bools, compared; z: what they are rows of -/
def eqLs : List Leaf → List Leaf → List Leaf → Option Bool
  | [], [], [] => some true
  | .int q _ :: z, .int k a :: r, .int k' b :: r' => match decide (k = q) && decide (k' = q), eqLs z r r' with | true, some e => some (a == b && e) | _, _ => none
  | .bool _ :: z, .bool a :: r, .bool b :: r' => match eqLs z r r' with | some e => some (a == b && e) | none => none
  | _, _, _ => none
def isCmp : BinOp → Option Bool | .eql => some true | .neq => some false | _ => none
/-- a value held against nil -/
def nilEq (cst : Bool) : TD → Leaf → Leaf → Option Bool
  | .ifc, .nili, .nili => cond cst (some true) none
  | .fnc, .fn _, .nilf => some false
  | .fnc, .clo .., .nilf => some false
  | .fnc, .nilf, .nilf => some true
  | .ifc, .ifc .., .nili => some false
  | _, _, _ => none
def isConstO : Operand → Bool | .const _ => true | _ => false
def binA (Γ : Gam) (cst : Bool) (op : BinOp) (t : TypeId) (x y : AV) (c : AVal → Option R) : Option R :=
  match x, y with
  | ⟨false, [.int k a]⟩, ⟨false, [.int k' b]⟩ =>
    match op with
    | .shl => guardB (decide (0 ≤ b)) (c (.l (.int k (k.wrap (a * 2 ^ (min b.toNat k.bits))))))
    | .shr => guardB (decide (0 ≤ b)) (c (.l (.int k (a.fdiv (2 ^ (min b.toNat k.bits))))))
    | _ => cond (decide (k = k')) (intOp op k a b c) none
  | ⟨false, [.bool a]⟩, ⟨false, [.bool b]⟩ => match isCmp op, lk t Γ with | some true, some ⟨_, _, _, _, .bool⟩ => c (.l (.bool (a == b))) | some false, some ⟨_, _, _, _, .bool⟩ => c (.l (.bool (!(a == b)))) | _, _ => none
  | ⟨true, xs⟩, ⟨true, ys⟩ => match lk t Γ with
    | some ⟨_, _, z, true, .struct _⟩ => match isCmp op, eqLs z xs ys with
      | some true, some e => c (.l (.bool e))
      | some false, some e => c (.l (.bool (!e)))
      | _, _ => none
    | _ => none
  | ⟨false, [a]⟩, ⟨false, [b]⟩ => match lk t Γ with
    | some i => match nilEq cst i.td a b, isCmp op with
      | some e, some true => c (.l (.bool e))
      | some e, some false => c (.l (.bool (!e)))
      | _, _ => none
    | none => none
  | _, _ => none

def elemAt {k : Kd} (xs : List k.C) (i : Nat) : List Leaf := k.cells (xs.getD i k.dflt)
/-- what stands at a place: n cells -/
def rdLoc (H : Nat → Option Obj) (p : Loc) (n : Nat) (k : List Leaf → List Nat → Option R) : Option R :=
  match p with
  | .box b o => match H b with | some (.cells ls) => cond (Nat.ble (o + n) ls.length) (k (cutL ls o n) [b]) none | _ => none
  | .elt q xs i o => cond (Nat.ble (o + n) q.sz) (k (cutL (elemAt xs i) o n) []) none
  | .arr b q i o => match H b with
    | some (.arr q' xs _) => match Kd.cast q' q xs with | some ys => cond (Nat.ble (o + n) q.sz) (k (cutL (elemAt ys i) o n) [b]) none | none => none
    | _ => none
def Loc.add (n : Nat) : Loc → Loc
  | .box b o => .box b (o + n)
  | .elt k xs i o => .elt k xs i (o + n)
  | .arr b k i o => .arr b k i (o + n)
/-- a place that a type may lie at -/
def buildA (zero : List Leaf) (place : Nat → Option (Nat × Nat)) (T : Nat → Option AVal) (k : List Leaf → Option R) : List (Nat × Operand) → Option R
  | [] => k zero
  | (i, x) :: r => match place i, opnd T x with
    | some (off, n), some (.v a) => cond (Nat.beq a.ls.length n && Nat.ble (off + n) zero.length) (buildA (fill zero off a.ls) place T k r) none
    | _, _ => none
def nthF (Γ : Gam) (fs : List (Nat × TypeId)) (i : Nat) : Option (Nat × Nat) := match fs[i]? with | some (o, t) => (match lk t Γ with | some ti => some (o, ti.sz) | none => none) | none => none
def decs (k : Kd) : Nat → List Leaf → Option (List k.C)
  | 0, _ => some []
  | n + 1, ls => match k.dec (ls.take k.sz), decs k n (ls.drop k.sz) with | some x, some xs => some (x :: xs) | _, _ => none
def repl (n : Nat) (ls : List Leaf) : List Leaf := match n with | 0 => [] | n + 1 => ls ++ repl n ls
/-- a row's elements, as a list of the kind -/
def asElems (H : Nat → Option Obj) (k : Kd) (l : Leaf) (c : List k.C → List Nat → Option R) : Option R :=
  match l with
  | .own b => match H b with | some (.arr q xs _) => (match Kd.cast q k xs with | some ys => c ys [b] | none => none) | _ => none
  | l => match l.asList k with | some xs => c xs [] | none => none
def lenOf (td : TD) (H : Nat → Option Obj) (l : Leaf) (c : Nat → List Nat → Option R) : Option R :=
  match td, l with
  | .slice _ _, .nils => c 0 []
  | .slice _ _, .list _ xs => c xs.length []
  | .slice _ _, .own b => match H b with | some (.arr _ xs _) => c xs.length [b] | _ => none
  | .str, .str s => c s.size []
  | _, _ => none
def foldMM (mx : Bool) : Int → List AVal → Option Int
  | a, [] => some a
  | a, .v ⟨false, [.int .i64 b]⟩ :: r => foldMM mx (if mx then (if b > a then b else a) else (if b < a then b else a)) r
  | _, _ => none
def opnds (T : Nat → Option AVal) : List Operand → Option (List AVal)
  | [] => some []
  | x :: r => match opnd T x, opnds T r with | some a, some as => some (a :: as) | _, _ => none

/-- an object as a row that is lent from now on -/
def lendOne (H : Nat → Option Obj) (b : Nat) : Option (Nat × Option Obj) := match H b with | some (.arr k xs _) => some (b, some (.arr k xs true)) | _ => none
def lends (H : Nat → Option Obj) : List Nat → Option (List (Nat × Option Obj))
  | [] => some []
  | b :: r => match lendOne H b, lends H r with | some x, some xs => some (x :: xs) | _, _ => none
/-- a look into a map of whole numbers -/
def lookM (zero : AV) (ok : AVal → Option R) (x : Int) : List (Int × Leaf) → Option R
  | [] => ok (.tup [zero, ⟨false, [.bool false]⟩])
  | (n, l) :: r => cond (x == n) (ok (.tup [⟨false, [l]⟩, ⟨false, [.bool true]⟩])) (lookM zero ok x r)
/-- what may be bound to a function value, or held by an interface value -/
def flat : Leaf → Bool
  | .clo .. => false
  | .ifc .. => false
  | _ => true
def flat1 : Leaf → Bool
  | .ifc .. => false
  | _ => true
def held : TD → Bool
  | .fnc => true
  | .struct _ => true
  | _ => false
def sameOwn (b : Nat) : Leaf → Bool | .own b' => Nat.beq b b' | _ => false
/-- one operation, but for the calls of Go functions -/
def eff (Γ : Gam) (T : Nat → Option AVal) (H : Nat → Option Obj) (me : Nat) (o : Oper) (c : Eff → Option R) : Option R :=
  let ok (v : AVal) : Option R := c ⟨some v, [], []⟩
  match o.op with
  | .move x | .assign x => need (opnd T x) ok
  | .pick q a b => asOne (opnd T q) fun | .bool q => cond q (need (opnd T a) ok) (need (opnd T b) ok) | _ => none
  | .alloc t => need (lk t Γ) fun i => c ⟨some (.l (.ptr (.box me 0))), [(me, some (.cells i.zero))], []⟩
  | .box t x => need (lk t Γ) fun i => asV (opnd T x) fun a => cond (Nat.beq a.ls.length i.sz) (c ⟨some (.l (.ptr (.box me 0))), [(me, some (.cells a.ls))], []⟩) none
  | .build t parts => need (lk t Γ) fun i => match i.td with
    | .struct fs => buildA i.zero (nthF Γ fs) T (fun ls => ok (.v ⟨true, ls⟩)) parts.toList
    | .array n e => need (lk e Γ) fun ei => buildA i.zero (fun j => some (j * ei.sz, ei.sz)) T (fun ls => ok (.v ⟨true, ls⟩)) parts.toList
    | _ => none
  | .buildSlice t n parts => need (lk t Γ) fun i => match i.td with
    | .slice e k => need (lk e Γ) fun ei => cond (Nat.beq k.sz ei.sz && Nat.ble (n * ei.sz) (2 ^ 24))
        (buildA (repl n ei.zero) (fun j => some (j * ei.sz, ei.sz)) T (fun ls => need (fixLs H ls) fun ls' => need (lends H (ownsL ls)) fun lent => need (decs k n ls') fun xs =>
          c ⟨some (.l (.own me)), (me, some (.arr k xs false)) :: lent, ownsL ls⟩) parts.toList) none
    | _ => none
  | .load t a => need (lk t Γ) fun i => asPtr (opnd T a) fun p => rdLoc H p i.sz fun ls rd => c ⟨some (.v ⟨i.agg, ls⟩), [], rd⟩
  | .store t a x => need (lk t Γ) fun i => asPtr (opnd T a) fun p => asV (opnd T x) fun v => cond (Nat.beq v.ls.length i.sz)
      (match p with
       | .box b off => match H b with | some (.cells ls) => cond (Nat.ble (off + i.sz) ls.length) (c ⟨none, [(b, some (.cells (fill ls off v.ls)))], [b]⟩) none | _ => none
       | .arr b q j off => match H b with
         | some (.arr q' xs false) => (match Kd.cast q' q xs with
           | some ys => cond (Nat.ble (off + i.sz) q.sz && (ownsL v.ls).isEmpty) (need (fixLs H v.ls) fun ls => need (q.dec (fill (elemAt ys j) off ls)) fun y => c ⟨none, [(b, some (.arr q (ys.set j y) false))], [b]⟩) none
           | none => none)
         | _ => none
       | .elt .. => none) none
  | .nilCheck x => asOne (opnd T x) fun | .ptr p => ok (.l (.ptr p)) | .fn f => ok (.l (.fn f)) | .clo f g a b => ok (.l (.clo f g a b)) | _ => none
  | .binOp op t x y _ => asV (opnd T x) fun a => asV (opnd T y) fun b => binA Γ (isConstO y) op t a b ok
  | .unOp op _ x => asOne (opnd T x) fun l => match op, l with | .not, .bool b => ok (.l (.bool (!b))) | .neg, .int k n => ok (.l (.int k (k.wrap (0 - n)))) | _, _ => none
  | .convert s d x => need (lk d Γ) fun i => need (lk s Γ) fun j => match i.td, j.td with
    | .int k, .int _ => asInt (opnd T x) fun _ n => ok (.l (.int k (k.wrap n)))
    | _, _ => none
  | .makeFunc (.func f) first cap =>
    let caps : Option (List Loc) := cap.toList.foldr (fun x r => match opnd T x, r with | some (.v ⟨false, [.ptr p]⟩), some r => some (p :: r) | _, _ => none) (some [])
    match first.toList with
    | [] => need caps fun ps => ok (.l (.clo f false [] ps))
    | [x] => asV (opnd T x) fun a => cond (a.ls.all flat) (need caps fun ps => ok (.l (.clo f a.agg a.ls ps))) none
    | _ => none
  | .fieldAddr s x f => need (lk s Γ) fun i => match i.td with
    | .struct fs => need (nthF Γ fs f) fun q => asPtr (opnd T x) fun p => ok (.l (.ptr (p.add q.1)))
    | _ => none
  | .field s x f => need (lk s Γ) fun i => match i.td with
    | .struct fs => match fs[f]? with
      | some (off, t) => need (lk t Γ) fun ti => asV (opnd T x) fun a => cond (a.agg && Nat.ble (off + ti.sz) a.ls.length) (ok (.v ⟨ti.agg, cutL a.ls off ti.sz⟩)) none
      | none => none
    | _ => none
  | .indexAddr t x ix => need (lk t Γ) fun i => asInt (opnd T ix) fun _ n => match i.td with
    | .array len e => need (lk e Γ) fun ei => asPtr (opnd T x) fun p => cond (decide (0 ≤ n) && decide (n < (len : Int))) (ok (.l (.ptr (p.add (n.toNat * ei.sz))))) none
    | .slice e k => need (lk e Γ) fun ei => cond (Nat.beq k.sz ei.sz) (asOne (opnd T x) fun l => match l with
      | .own b => match H b with
        | some (.arr q xs _) => cond (decide (q = k)) (cond (decide (0 ≤ n) && decide (n < (xs.length : Int))) (c ⟨some (.l (.ptr (.arr b k n.toNat 0))), [], [b]⟩) none) none
        | _ => none
      | l => need (l.asList k) fun xs => cond (decide (0 ≤ n) && decide (n < (xs.length : Int))) (ok (.l (.ptr (.elt k xs n.toNat 0)))) none) none
    | _ => none
  | .index t x ix => need (lk t Γ) fun i => asInt (opnd T ix) fun _ n => match i.td with
    | .array len e => need (lk e Γ) fun ei => asV (opnd T x) fun a => cond (a.agg && Nat.beq a.ls.length (len * ei.sz) && (decide (0 ≤ n) && decide (n < (len : Int)))) (ok (.v ⟨ei.agg, cutL a.ls (n.toNat * ei.sz) ei.sz⟩)) none
    | .str => asOne (opnd T x) fun | .str s => cond (decide (0 ≤ n) && decide (n < (s.size : Int))) (ok (.l (.int .u8 ((s.data.getD n.toNat 0).toNat : Int)))) none | _ => none
    | _ => none
  | .slice t x lo hi .none => need (lk t Γ) fun i => match i.td with
    | .str => asOne (opnd T x) fun
      | .str s =>
        let h (q : Int → Option R) : Option R := match hi with | some y => asInt (opnd T y) fun _ n => q n | none => q s.size
        let l (q : Int → Option R) : Option R := match lo with | some y => asInt (opnd T y) fun _ n => q n | none => q 0
        h fun n => l fun m => cond (decide (0 ≤ m) && decide (m ≤ n) && decide (n ≤ (s.size : Int))) (ok (.l (.str (s.extract m.toNat n.toNat)))) none
      | _ => none
    | .slice e k => need (lk e Γ) fun ei => cond (Nat.beq k.sz ei.sz) (asOne (opnd T x) fun l => need (l.asList k) fun xs =>
        let h (q : Int → Option R) : Option R := match hi with | some y => asInt (opnd T y) fun _ n => q n | none => q xs.length
        let l (q : Int → Option R) : Option R := match lo with | some y => asInt (opnd T y) fun _ n => q n | none => q 0
        h fun n => l fun m => cond (decide (0 ≤ m) && decide (m ≤ n) && decide (n ≤ (xs.length : Int))) (ok (.l (.list k ((xs.take n.toNat).drop m.toNat)))) none) none
    | _ => none
  | .extract x j => match opnd T x with
    | some (.tup vs) => (match vs[j]? with | some a => ok (.v a) | none => none)
    | _ => none
  | .makeInterface t x => need (lk t Γ) fun i => cond (held i.td) (asV (opnd T x) fun a => cond (a.ls.all flat1) (ok (.l (.ifc t a.agg a.ls))) none) none
  | .typeAssert x _ want true => asOne (opnd T x) fun
    | .ifc t g ls => need (lk want Γ) fun i => cond (held i.td) (cond (Nat.beq t want) (ok (.tup [⟨g, ls⟩, ⟨false, [.bool true]⟩])) (ok (.tup [⟨i.agg, i.zero⟩, ⟨false, [.bool false]⟩]))) none
    | _ => none
  | .typeAssert x _ want false => asOne (opnd T x) fun
    | .ifc t g ls => need (lk want Γ) fun i => cond (held i.td) (cond (Nat.beq t want) (ok (.v ⟨g, ls⟩)) none) none
    | _ => none
  | .makeSlice t n n' => need (lk t Γ) fun i => match i.td with
    | .slice e k => need (lk e Γ) fun ei => asInt (opnd T n) fun _ a => asInt (opnd T n') fun _ b =>
        cond (Nat.beq k.sz ei.sz && Nat.blt ei.bytes 1024 && decide (a = b) && (decide (0 ≤ a) && decide (a < 4294967296))) (need (k.dec ei.zero) fun z => c ⟨some (.l (.own me)), [(me, some (.arr k (List.replicate a.toNat z) false))], []⟩) none
    | _ => none
  | .makeMap _ .none => c ⟨some (.l (.map me)), [(me, some (.omap []))], []⟩
  | .insert t m q x => need (lk t Γ) fun i => match i.td with
    | .map => asOne (opnd T m) fun
      | .map b => asInt (opnd T q) fun k n => asOne (opnd T x) fun l => match k, H b with
        | .i64, some (.omap es) => cond (es.all fun e => !(e.1 == n)) (c ⟨none, [(b, some (.omap (es ++ [(n, l)])))], [b]⟩) none
        | _, _ => none
      | _ => none
    | _ => none
  | .lookup t m q true => need (lk t Γ) fun i => match i.td with
    | .map => asOne (opnd T m) fun
      | .map b => asInt (opnd T q) fun k n => match k, H b with
        | .i64, some (.omap es) => lookM ⟨false, [.nilf]⟩ (fun v => c ⟨some v, [], [b]⟩) n es
        | _, _ => none
      | _ => none
    | _ => none
  | .makeChan t n => need (lk t Γ) fun i => match i.td with
    | .chan => asInt (opnd T n) fun _ a => cond (decide (a = 1)) (c ⟨some (.l (.chan me)), [(me, some (.chan []))], []⟩) none
    | _ => none
  | .send q x => asOne (opnd T q) fun
    | .chan b => asV (opnd T x) fun a => match H b with
      | some (.chan []) => c ⟨none, [(b, some (.chan [a]))], [b]⟩
      | _ => none
    | _ => none
  | .select cs false => match cs.toList with
    | [⟨q, none, e⟩] => need (lk e Γ) fun i => asOne (opnd T q) fun
      | .chan b => match H b with
        | some (.chan [a]) => c ⟨some (.tup [⟨false, [.int .i64 0]⟩, ⟨false, [.bool true]⟩, a]), [(b, some (.chan []))], [b]⟩
        | some (.chan []) => c ⟨some (.tup [⟨false, [.int .i64 (-1)]⟩, ⟨false, [.bool false]⟩, ⟨i.agg, i.zero⟩]), [], [b]⟩
        | _ => none
      | _ => none
    | _ => none
  | .call { callee := .builtin b, args, argTypes } => match b, args.toList with
    | .len, [x] => need (argTypes[0]?) fun t => need (lk t Γ) fun i => asOne (opnd T x) fun l => lenOf i.td H l fun n rd => c ⟨some (.l (.int .i64 n)), [], rd⟩
    | .max, x :: r => asInt (opnd T x) fun k a => match k with | .i64 => need (opnds T r) fun vs => need (foldMM true a vs) fun m => ok (.l (.int .i64 m)) | _ => none
    | .min, x :: r => asInt (opnd T x) fun k a => match k with | .i64 => need (opnds T r) fun vs => need (foldMM false a vs) fun m => ok (.l (.int .i64 m)) | _ => none
    | .append, [x, y] => match argTypes.toList with
      | t :: t' :: _ => need (lk t Γ) fun i => need (lk t' Γ) fun i' => match i.td, i'.td with
        | .slice e k, .slice _ _ => need (lk e Γ) fun ei => cond (Nat.beq k.sz ei.sz && Nat.blt ei.bytes 1024) (asOne (opnd T y) fun l2 => asElems H k l2 fun ys rd =>
          asOne (opnd T x) fun l => match l with
            | .nils => cond (decide (ys.length < 4294967296)) (cond (ys.isEmpty) (c ⟨some (.l .nils), [], rd⟩) (c ⟨some (.l (.own me)), [(me, some (.arr k ys false))], rd⟩)) none
            | .own b => (match H b with
              | some (.arr q xs lent) => (match Kd.cast q k xs with
                | some xs => cond (decide (xs.length + ys.length < 4294967296) && !(sameOwn b l2)) (c ⟨some (.l (.own me)), [(me, some (.arr k (xs ++ ys) lent)), (b, none)], b :: rd⟩) none
                | none => none)
              | _ => none)
            | _ => none) none
        | _, _ => none
      | _ => none
    | _, _ => none
  | _ => none
end

/-- what a contract answers: a value, or a row that is the caller's own -/
inductive CRes where
  | val (v : AVal)
  | arr (k : Kd) (xs : List k.C)
  /-- a value with one row of the caller's own in it -/
  | mix (v : AVal) (k : Kd) (xs : List k.C)
/-- the row in a mixed value, under its number -/
def renL (me : Nat) : Leaf → Leaf
  | .own _ => .own me
  | l => l
def renA (me : Nat) (a : AV) : AV := ⟨a.agg, a.ls.map (renL me)⟩
def renV (me : Nat) : AVal → AVal
  | .v a => .v (renA me a)
  | .tup as => .tup (as.map (renA me))
inductive Ex where
  | normal
  | exit (id : Nat)
  | goto (l : Nat)
  | ret
/-- the types of arguments and results -/
inductive Ty where
  | d (k : Kd) | l (k : Kd) | str | u8 | ref (k : Kd) | clo (f : FuncId) (a b c : Kd) | clo2 (f : FuncId) (a b : Kd) | clo1 (f : FuncId) (a : Kd) | nils
@[reducible] def Ty.C : Ty → Type
  | .d k => k.C | .l k => List k.C | .str => ByteArray | .u8 => Int | .ref k => k.C | .clo _ a b c => a.C × b.C × c.C | .clo2 _ a b => a.C × b.C | .clo1 _ a => a.C | .nils => Unit
@[reducible] def Ty.enc : (τ : Ty) → τ.C → AV
  | .d k, x => ⟨k.isAgg, k.cells x⟩
  | .l k, x => ⟨false, [.list k x]⟩
  | .str, x => ⟨false, [.str x]⟩
  | .u8, x => ⟨false, [.int .u8 x]⟩
  | .ref k, x => ⟨false, [.ptr (.elt k [x] 0 0)]⟩
  | .clo f p q r, x => ⟨false, [.clo f false [] [.elt p [x.1] 0 0, .elt q [x.2.1] 0 0, .elt r [x.2.2] 0 0]]⟩
  | .clo2 f p q, x => ⟨false, [.clo f false [] [.elt p [x.1] 0 0, .elt q [x.2] 0 0]]⟩
  | .clo1 f p, x => ⟨false, [.clo f false [] [.elt p [x] 0 0]]⟩
  | .nils, _ => ⟨false, [.nils]⟩
/-- a place that holds one datum of a kind -/
def one? (k : Kd) : Loc → Option k.C
  | .elt q [y] 0 0 => (match Kd.cast q k [y] with | some [y] => some y | _ => none)
  | _ => none
def Ty.dec : (τ : Ty) → AV → Option τ.C
  | .d k, a => cond (a.agg == k.isAgg) (k.dec a.ls) none
  | .l k, ⟨false, [q]⟩ => q.asList k
  | .str, ⟨false, [.str s]⟩ => some s
  | .u8, ⟨false, [.int .u8 x]⟩ => some x
  | .ref k, ⟨false, [.ptr p]⟩ => one? k p
  | .clo f a b c, ⟨false, [.clo g false [] [p, q, r]]⟩ => cond (Nat.beq f g) (match one? a p, one? b q, one? c r with | some x, some y, some z => some (x, y, z) | _, _, _ => none) none
  | .clo2 f a b, ⟨false, [.clo g false [] [p, q]]⟩ => cond (Nat.beq f g) (match one? a p, one? b q with | some x, some y => some (x, y) | _, _ => none) none
  | .clo1 f a, ⟨false, [.clo g false [] [p]]⟩ => cond (Nat.beq f g) (one? a p) none
  | .nils, ⟨false, [.nils]⟩ => some ()
  | _, _ => none
/-- what a loop carries: a slot's datum, a slot's own row, a box's datum (with own rows at some cells) -/
inductive Car where
  | sv (t : Nat) (τ : Ty)
  | so (t : Nat) (k : Kd)
  | bv (b : Nat) (k : Kd) (own : List (Nat × Kd))
@[reducible] def Car.C : Car → Type
  | .sv _ τ => τ.C | .so _ k => List k.C | .bv _ k _ => k.C
@[reducible] def Vars : List Car → Type
  | [] => Unit
  | c :: r => c.C × Vars r
/-- what a loop leaves as it is: slots and boxes -/
inductive Fix where
  | s (t : Nat) (a : AV)
  | b (b : Nat) (ls : List Leaf)
structure Ann (R : Type) where
  cs : List Car
  fs : List Fix
  nx : Nat
  L : Vars cs → (Ex → Vars cs → Option R) → Option R
inductive LAnn (R : Type) where
  | unroll (n : Nat)
  | ann (a : Ann R)

/-- may an operation lay these? (new ones of its own numbers; of the others only those that may change) -/
def mayLay (s : St) (me n : Nat) : List (Nat × Option Obj) → Bool
  | [] => true
  | (b, _) :: r => cond (cond (Nat.ble me b && Nat.blt b (me + n)) true (match lk b s.hp with | some (some _) => true | _ => false)) (mayLay s me n r) false
def lays (s : St) (me n : Nat) (l : List (Nat × Option Obj)) : Option St := cond (mayLay s me n l) (some { s with hp := l ++ s.hp }) none
def putDst (d : Option Nat) (v : Option AVal) (s : St) : St := match d with | some d => { s with tm := (d, v) :: s.tm } | none => s

section
variable {R : Type}
/-- a call by its contract -/
def effCall (H : Nat → Option Obj) (me : Nat) (ctr : List AV → (CRes → Option R) → Option R) (args : List AV) (c : Eff → Option R) : Option R :=
  need (fixAs H args) fun args' => need (lends H (ownsA args)) fun lent => ctr args' fun
    | .val v => c ⟨some v, lent, ownsA args⟩
    | .arr k xs => c ⟨some (.l (.own me)), (me, some (.arr k xs false)) :: lent, ownsA args⟩
    | .mix v k xs => c ⟨some (renV me v), (me, some (.arr k xs false)) :: lent, ownsA args⟩
def asVs : List AVal → Option (List AV)
  | [] => some []
  | .v a :: r => match asVs r with | some as => some (a :: as) | none => none
  | _ => none
/-- whom a call calls, with what -/
def callee (T : Nat → Option AVal) (o : Oper) (c : FuncId → List AV → Option R) (other : Option R) : Option R :=
  match o.op with
  | .call { callee := .value f, args, argTypes := _ } => need (opnds T args.toList) fun as => need (asVs as) fun as => asOne (opnd T f) fun
    | .fn g => c g as
    | .clo g agg first cap => c g ((if agg then [⟨true, first⟩] else first.map fun l => ⟨false, [l]⟩) ++ as ++ cap.map fun p => ⟨false, [.ptr p]⟩)
    | _ => none
  | _ => other
abbrev Run (R : Type) := Env → Nat → St → (Ex → Nat → St → Option R) → Option R
structure Cfgs (R : Type) where
  Γ : Gam
  ctr : FuncId → Option (List AV → (CRes → Option R) → Option R)
  /-- contracts of functions that are handed pointers, and answer a number: in regions that draw -/
  fctr : FuncId → Option (List AV → (CRes → Option R) → Option R)
  /-- contracts that are used in regions that draw only -/
  dctr : FuncId → Option (List AV → (CRes → Option R) → Option R)
  fns : List (FuncId × Func)
  la : FuncId → Nat → Option (LAnn R)
  /-- regions (at twice their number) and ranges over functions (at twice their block's number and one) that are run by hand -/
  ra : FuncId → Nat → Option (Run R)

abbrev RunFn (R : Type) := FuncId → List AV → Env → Nat → St → (AVal → Nat → St → Option R) → Option R

/-- the guard of an operation: run it, or not -/
def guarded (ops : Array Oper) (e : Env) (s : St) (o : Oper) (run skip : St → Option R) : Option R :=
  match o.guard with
  | none => run s
  | some (j, want) => match (ops[j]?).bind (·.dst) with
    | some t => match getT e s t with
      | some (.v ⟨false, [.bool b]⟩) =>
        let sT : St := { s with tm := (t, some (.l (.bool true))) :: s.tm }
        let sF : St := { s with tm := (t, some (.l (.bool false))) :: s.tm }
        cond b (cond want (run sT) (skip sT)) (cond want (skip sF) (run sF))
      | some (.tup []) => skip s
      | _ => none
    | none => none
def runSeq (C : Cfgs R) (call : RunFn R) (ops : Array Oper) (e : Env) : List Oper → Nat → St → (Nat → St → Option R) → Option R
  | [], nx, s, k => k nx s
  | o :: rest, nx, s, k => guarded ops e s o
      (fun s => callee (getT e s) o
        (fun g args => match C.ctr g with
          | some ctr => effCall (getH e s) nx ctr args fun ef => need (lays s nx 1 ef.hp) fun s' => runSeq C call ops e rest (nx + 1) (putDst o.dst ef.val s') k
          | none => call g args e nx s fun v nx' s' => runSeq C call ops e rest nx' (putDst o.dst (some v) s') k)
        (eff C.Γ (getT e s) (getH e s) nx o fun ef => need (lays s nx 1 ef.hp) fun s' => runSeq C call ops e rest (nx + 1) (putDst o.dst ef.val s') k))
      (fun s => runSeq C call ops e rest nx (putDst o.dst (some (.tup [])) s) k)

/-! a region that draws its order -/
/-- what an operation did: nothing is said of one that was passed by -/
structure TE where
  o : Oper
  ef : Option Eff
/-- a box, seen as a datum that stays -/
def decFirst (ls : List Leaf) : List Kd → Option ((k : Kd) × k.C)
  | [] => none
  | k :: r => match k.dec ls with | some x => some ⟨k, x⟩ | none => decFirst ls r
def thawP (H : Nat → Option Obj) : Loc → Option (Loc × List Nat)
  | .box b o => match H b with
    | some (.cells ls) => match fixLs (fun _ => none) ls with
      | some ls' => match decFirst ls' [.int, .bool, .cfg, .div] with | some ⟨k, x⟩ => some (.elt k [x] 0 o, [b]) | none => none
      | none => none
    | _ => none
  | .elt k xs i o => some (.elt k xs i o, [])
  | .arr .. => none
def thawPs (H : Nat → Option Obj) : List Loc → Option (List Loc × List Nat)
  | [] => some ([], [])
  | p :: r => match thawP H p, thawPs H r with | some (p, b), some (r, bs) => some (p :: r, b ++ bs) | _, _ => none
def thawL (H : Nat → Option Obj) : Leaf → Option (Leaf × List Nat)
  | .ptr p => match thawP H p with | some (p, b) => some (.ptr p, b) | none => none
  | .clo f agg [] cap => match thawPs H cap with | some (ps, b) => some (.clo f agg [] ps, b) | none => none
  | l => match fixL (fun _ => none) l with | some l => some (l, []) | none => none
def thawLs (H : Nat → Option Obj) : List Leaf → Option (List Leaf × List Nat)
  | [] => some ([], [])
  | p :: r => match thawL H p, thawLs H r with | some (p, b), some (r, bs) => some (p :: r, b ++ bs) | _, _ => none
def thawAs (H : Nat → Option Obj) : List AV → Option (List AV × List Nat)
  | [] => some ([], [])
  | a :: r => match thawLs H a.ls, thawAs H r with | some (ls, b), some (r, bs) => some (⟨a.agg, ls⟩ :: r, b ++ bs) | _, _ => none
/-- a call that is handed pointers, and answers a number -/
def effFrozen (H : Nat → Option Obj) (ctr : List AV → (CRes → Option R) → Option R) (args : List AV) (c : Eff → Option R) : Option R :=
  need (thawAs H args) fun (args', rd) => ctr args' fun
    | .val (.v ⟨false, [.int k n]⟩) => c ⟨some (.l (.int k n)), [], rd⟩
    | _ => none
/-- one operation's effect, in a region that draws -/
def effAny (C : Cfgs R) (e : Env) (s : St) (me : Nat) (o : Oper) (c : Eff → Option R) : Option R :=
  callee (getT e s) o
    (fun g args => match C.ctr g with
      | some ctr => effCall (getH e s) me ctr args c
      | none => match C.fctr g with
        | some ctr => effFrozen (getH e s) ctr args c
        | none => match C.dctr g with
          | some ctr => effCall (getH e s) me ctr args c
          | none => none)
    (eff C.Γ (getT e s) (getH e s) me o c)
def runDraw (C : Cfgs R) (ops : Array Oper) (e : Env) : List Oper → Nat → St → List TE → (List TE → St → Option R) → Option R
  | [], _, s, tr, k => k tr s
  | o :: rest, me, s, tr, k => guarded ops e s o
      (fun s => effAny C e s me o fun ef => need (lays s me 1 ef.hp) fun s' => runDraw C ops e rest (me + 1) (putDst o.dst ef.val s') (tr ++ [⟨o, some ef⟩]) k)
      (fun s => runDraw C ops e rest (me + 1) (putDst o.dst (some (.tup [])) s) (tr ++ [⟨o, none⟩]) k)
end
/-! slots and objects that are met: slot t as 2 t, object b as 2 b + 1 -/
def tmpsOf : List Operand → List Nat
  | [] => []
  | .tmp t :: r => 2 * t :: tmpsOf r
  | _ :: r => tmpsOf r
def objsOf : List Nat → List Nat
  | [] => []
  | b :: r => (2 * b + 1) :: objsOf r
def laidOf : List (Nat × Option Obj) → List Nat
  | [] => []
  | (b, _) :: r => (2 * b + 1) :: laidOf r
def TE.rd (ops : Array Oper) (t : TE) : List Nat :=
  (match t.o.guard with | some (j, _) => (match (ops[j]?).bind (·.dst) with | some u => [2 * u] | none => []) | none => []) ++
  (match t.ef with | some ef => tmpsOf t.o.op.operands.toList ++ objsOf ef.rd | none => [])
def TE.wr (t : TE) : List Nat :=
  (match t.o.dst with | some d => [2 * d] | none => []) ++ (match t.ef with | some ef => laidOf ef.hp | none => [])
def memB (n : Nat) : List Nat → Bool
  | [] => false
  | m :: r => cond (Nat.beq m n) true (memB n r)
def meets (as : List Nat) : List Nat → Bool
  | [] => false
  | b :: bs => cond (memB b as) true (meets as bs)
/-- who must have run ahead of an operation, as the bits of a number -/
def aheadOf (anc : List Nat) : List Edge → Nat → Nat
  | [], r => r
  | ed :: es, r => aheadOf anc es (cond (Region.binds .any ed) (r ||| (2 ^ ed.on ||| anc.getD ed.on 0)) r)
def aheads : List Oper → List Nat → List Nat
  | [], anc => anc
  | o :: r, anc => aheads r (anc ++ [aheadOf anc o.after.toList 0])
def okPairs (an : Nat) (rd wr : List Nat) : List (Nat × List Nat × List Nat) → Bool
  | [] => true
  | (j, rd', wr') :: r => cond (cond (Nat.testBit an j) true (!(meets wr' rd || meets wr' wr || meets rd' wr))) (okPairs an rd wr r) false
/-- is each pair that meets in order? -/
def drawGo (ops : Array Oper) (anc : List Nat) : List TE → Nat → List (Nat × List Nat × List Nat) → Bool
  | [], _, _ => true
  | t :: r, i, seen => cond (okPairs (anc.getD i 0) (t.rd ops) t.wr seen) (drawGo ops anc r (i + 1) ((i, t.rd ops, t.wr) :: seen)) false
/-- do all edges lead back? -/
def backs : List Oper → Nat → Bool
  | [], _ => true
  | o :: r, i => cond (o.after.toList.all fun ed => cond (Region.binds .any ed) (Nat.blt ed.on i) true) (backs r (i + 1)) false
def drawOk (ops : Array Oper) (tr : List TE) : Bool := cond (backs ops.toList 0) (drawGo ops (aheads ops.toList []) tr 0 []) false
section
variable {R : Type}
def runRegion (C : Cfgs R) (call : RunFn R) (ops : Array Oper) (draw : Bool) (e : Env) (nx : Nat) (s : St) (k : Nat → St → Option R) : Option R :=
  match draw with
  | false => runSeq C call ops e ops.toList nx s k
  | true => runDraw C ops e ops.toList nx s [] fun tr s' => cond (drawOk ops tr) (k (nx + ops.size) s') none

/-! loops -/
/-- a row of the state's own, taken out as a list -/
def takeRow (H : Nat → Option Obj) (k : Kd) : Leaf → Option (List k.C × Option Nat)
  | .nils => some ([], none)
  | .own b => match H b with | some (.arr q xs false) => (match Kd.cast q k xs with | some ys => some (ys, some b) | none => none) | _ => none
  | _ => none
def takeCells (H : Nat → Option Obj) (own : List (Nat × Kd)) : Nat → List Leaf → Option (List Leaf × List (Option Nat))
  | _, [] => some ([], [])
  | i, l :: r => match takeCells H own (i + 1) r with
    | none => none
    | some (ls, bs) => match lk i own with
      | some k => (match takeRow H k l with | some (xs, b) => some (.list k xs :: ls, b :: bs) | none => none)
      | none => some (l :: ls, bs)
def take1 (m : Nat) (T : Nat → Option AVal) (H : Nat → Option Obj) : (c : Car) → Option (c.C × List (Option Nat))
  | .sv t τ => match T t with | some (.v a) => (match τ.dec a with | some x => some (x, []) | none => none) | _ => none
  | .so t k => match T t with | some (.v ⟨false, [l]⟩) => (match takeRow H k l with | some (xs, b) => some (xs, [b]) | none => none) | _ => none
  | .bv b k own => cond (Nat.blt b m) (match H b with
    | some (.cells ls) => (match takeCells H own 0 ls with | some (ls', bs) => (match k.dec ls' with | some x => some (x, bs) | none => none) | none => none)
    | _ => none) none
def takeCars (m : Nat) (T : Nat → Option AVal) (H : Nat → Option Obj) : (cs : List Car) → Option (Vars cs × List (Option Nat))
  | [] => some ((), [])
  | c :: r => match take1 m T H c, takeCars m T H r with | some (x, b), some (xs, bs) => some ((x, xs), b ++ bs) | _, _ => none
def eqPs (m : Nat) : List Loc → List Loc → Bool
  | [], [] => true
  | .box b o :: r, .box b' o' :: r' => cond (Nat.beq b b' && Nat.beq o o' && Nat.blt b m) (eqPs m r r') false
  | _, _ => false
/-- leaves that lead to low numbers only, and are the same -/
def eqLf (m : Nat) : Leaf → Leaf → Bool
  | .ptr p, .ptr q => eqPs m [p] [q]
  | .fn f, .fn g => Nat.beq f g
  | .nilf, .nilf => true
  | .clo f g [] cap, .clo f' g' [] cap' => Nat.beq f f' && (g == g') && eqPs m cap cap'
  | _, _ => false
def eqLfs (m : Nat) : List Leaf → List Leaf → Bool
  | [], [] => true
  | a :: r, b :: r' => cond (eqLf m a b) (eqLfs m r r') false
  | _, _ => false
def fixS (m : Nat) (a : AV) : Option AVal → Bool
  | some (.v a') => a.agg == a'.agg && eqLfs m a.ls a'.ls
  | _ => false
def fixB (m : Nat) (b : Nat) (ls : List Leaf) : Option Obj → Bool
  | some (.cells ls') => Nat.blt b m && eqLfs m ls ls'
  | _ => false
def fixed (m : Nat) (T : Nat → Option AVal) (H : Nat → Option Obj) : List Fix → Bool
  | [] => true
  | .s t a :: r => cond (fixS m a (T t)) (fixed m T H r) false
  | .b b ls :: r => cond (fixB m b ls (H b)) (fixed m T H r) false
def memO (b : Nat) : List (Option Nat) → Bool
  | [] => false
  | some c :: r => cond (Nat.beq b c) true (memO b r)
  | none :: r => memO b r
def nodupO : List (Option Nat) → Bool
  | [] => true
  | some b :: r => cond (memO b r) false (nodupO r)
  | none :: r => nodupO r
def take (m : Nat) (cs : List Car) (fs : List Fix) (T : Nat → Option AVal) (H : Nat → Option Obj) : Option (Vars cs × List (Option Nat)) :=
  match takeCars m T H cs with
  | some (v, bs) => cond (fixed m T H fs && nodupO bs) (some (v, bs)) none
  | none => none
/-- rows laid again as the state's own -/
def layCells (own : List (Nat × Kd)) : Nat → Nat → List Leaf → Option (List Leaf × List (Nat × Option Obj) × Nat)
  | _, nx, [] => some ([], [], nx)
  | i, nx, l :: r => match lk i own with
    | some k => (match l with
      | .list q xs => (match Kd.cast q k xs, layCells own (i + 1) (nx + 1) r with | some ys, some (ls, hp, n) => some (.own nx :: ls, (nx, some (.arr k ys false)) :: hp, n) | _, _ => none)
      | _ => none)
    | none => (match layCells own (i + 1) nx r with | some (ls, hp, n) => some (l :: ls, hp, n) | none => none)
def lay1 (nx : Nat) : (c : Car) → c.C → Option (List (Nat × Option AVal) × List (Nat × Option Obj) × Nat)
  | .sv t τ, x => some ([(t, some (.v (τ.enc x)))], [], nx)
  | .so t k, xs => some ([(t, some (.l (.own nx)))], [(nx, some (.arr k xs false))], nx + 1)
  | .bv b k own, x => match layCells own 0 nx (k.cells x) with | some (ls, hp, n) => some ([], (b, some (.cells ls)) :: hp, n) | none => none
def layCars (nx : Nat) : (cs : List Car) → Vars cs → Option (List (Nat × Option AVal) × List (Nat × Option Obj) × Nat)
  | [], _ => some ([], [], nx)
  | c :: r, (x, xs) => match lay1 nx c x with
    | some (tm, hp, n) => (match layCars n r xs with | some (tm', hp', n') => some (tm ++ tm', hp ++ hp', n') | none => none)
    | none => none
def fixTm : List Fix → List (Nat × Option AVal)
  | [] => []
  | .s t a :: r => (t, some (.v a)) :: fixTm r
  | .b _ _ :: r => fixTm r
def fixHp : List Fix → List (Nat × Option Obj)
  | [] => []
  | .s _ _ :: r => fixHp r
  | .b b ls :: r => (b, some (.cells ls)) :: fixHp r
def lay (nx : Nat) (cs : List Car) (fs : List Fix) (v : Vars cs) : Option (St × Nat) :=
  match layCars nx cs v with
  | some (tm, hp, n) => some (⟨tm ++ fixTm fs, hp ++ fixHp fs⟩, n)
  | none => none
def codeDsts : Code → List Nat
  | .region _ ops _ => ops.toList.filterMap (·.dst)
  | .seq a b => codeDsts a ++ codeDsts b
  | .cond _ a b => codeDsts a ++ codeDsts b
  | .block _ c => codeDsts c
  | .loop c => codeDsts c
  | .scope c => codeDsts c
  | .rangeFunc _ ps a b => ps.toList ++ codeDsts a ++ codeDsts b
  | _ => []
def evalUnroll (body : Run R) (e : Env) (k : Ex → Nat → St → Option R) : Nat → Nat → St → Option R
  | 0, _, _ => none
  | n + 1, nx, s => body e nx s fun x nx' s' => match x with | .normal => evalUnroll body e k n nx' s' | x => k x nx' s'
def evalAnn (a : Ann R) (e : Env) (nx : Nat) (s : St) (k : Ex → Nat → St → Option R) : Option R :=
  match e with
  | ⟨[], []⟩ => need (take a.nx a.cs a.fs (getT ⟨[], []⟩ s) (getH ⟨[], []⟩ s)) fun (v, _) => cond (Nat.ble nx a.nx) (a.L v fun x v' => need (lay a.nx a.cs a.fs v') fun (s', n) => k x n s') none
  | _ => none
def refine (e : Env) (s : St) (c : Operand) (b : Bool) : St := match c with | .tmp t => { s with tm := (t, some (.l (.bool b))) :: s.tm } | _ => s
def evalCode (C : Cfgs R) (call : RunFn R) (sub : Code → Nat → Run R) (fid : FuncId) : Code → Nat → Run R
  | .skip, _ => fun _ nx s k => k .normal nx s
  | .label _, _ => fun _ nx s k => k .normal nx s
  | .ret, _ => fun _ nx s k => k .ret nx s
  | .exit id, _ => fun _ nx s k => k (.exit id) nx s
  | .goto l, _ => fun _ nx s k => k (.goto l) nx s
  | .region id ops draw, _ => fun e nx s k => match C.ra fid (2 * id) with | some run => run e nx s k | none => runRegion C call ops draw e nx s (k .normal)
  | .rangeFunc _ _ _ _, bid => fun e nx s k => match C.ra fid (2 * bid + 1) with | some run => run e nx s k | none => none
  | .seq a b, bid => fun e nx s k => evalCode C call sub fid a bid e nx s fun x nx' s' => match x with | .normal => evalCode C call sub fid b bid e nx' s' k | x => k x nx' s'
  | .cond c a b, bid => fun e nx s k => asOne (opnd (getT e s) c) fun
    | .bool q => cond q (evalCode C call sub fid a bid e nx (refine e s c true) k) (evalCode C call sub fid b bid e nx (refine e s c false) k)
    | _ => none
  | .block id c, _ => fun e nx s k => evalCode C call sub fid c id e nx s fun x nx' s' => match x with | .exit j => cond (Nat.beq j id) (k .normal nx' s') (k (.exit j) nx' s') | x => k x nx' s'
  | .loop c, bid => fun e nx s k => match C.la fid bid with
    | some (.unroll n) => evalUnroll (evalCode C call sub fid c bid) e k n nx s
    | some (.ann a) => evalAnn a e nx s k
    | none => none
  | .scope c, bid => fun e nx s k => evalCode C call sub fid c bid e nx s fun x nx' s' => match x with
    | .goto l => (match findLabel c l with | some rest => sub rest bid e nx' s' fun x nx'' s'' => (match x with | .goto _ => none | x => k x nx'' s'') | none => k (.goto l) nx' s')
    | x => k x nx' s'
  | _, _ => fun _ _ _ _ => none
def resV (Γ : Gam) (e : Env) (s : St) (v : ResultVar) (k : AV → Option R) : Option R :=
  match v with
  | .tmp t => asV (getT e s t) k
  | .cell t ty => need (lk ty Γ) fun i => asPtr (getT e s t) fun p => rdLoc (getH e s) p i.sz fun ls _ => k ⟨i.agg, ls⟩
def resVs (Γ : Gam) (e : Env) (s : St) : List ResultVar → (List AV → Option R) → Option R
  | [], k => k []
  | v :: r, k => resV Γ e s v fun a => resVs Γ e s r fun as => k (a :: as)
def pars : Nat → List AV → List (Nat × Option AVal)
  | _, [] => []
  | t, a :: r => (t, some (.v a)) :: pars (t + 1) r
def finRes (vs : List AV) : AVal := match vs with | [a] => .v a | as => .tup as
def runFn (C : Cfgs R) (ev : FuncId → Code → Nat → Run R) : RunFn R := fun g args e nx s k =>
  need (lk g C.fns) fun fn => need fn.body fun c => cond ((codeDsts c).all (fun d => Nat.blt d fn.ntmps) && Nat.ble args.length fn.ntmps) (
    ev g c 0 ⟨[], e.hp⟩ nx ⟨pars 0 args, s.hp⟩ fun x nx' s' => match x with
      | .normal | .ret => resVs C.Γ ⟨[], e.hp⟩ s' fn.results.toList fun as => k (finRes as) nx' ⟨s.tm, s'.hp⟩
      | _ => none) none
def evalD (C : Cfgs R) : Nat → FuncId → Code → Nat → Run R
  | 0, _, _, _ => fun _ _ _ _ => none
  | d + 1, fid, c, bid => evalCode C (runFn C (evalD C d)) (evalD C d fid) fid c bid
/-- a function, from its arguments on -/
def evalFn (C : Cfgs R) (d : Nat) (g : FuncId) (args : List AV) (k : CRes → Option R) : Option R :=
  runFn C (evalD C d) g args ⟨[], []⟩ 0 ⟨[], []⟩ fun v _ s => match v with
    | .v ⟨false, [.own b]⟩ => (match lk b s.hp with | some (some (.arr q xs false)) => k (.arr q xs) | some (some (.arr q xs true)) => k (.val (.l (.list q xs))) | _ => none)
    | .v ⟨false, [.clo f g [] cap]⟩ => need (thawPs (getH ⟨[], []⟩ s) cap) fun (ps, _) => k (.val (.v ⟨false, [.clo f g [] ps]⟩))
    | .v a => need (fixA (getH ⟨[], []⟩ s) a) fun a => k (.val (.v a))
    | .tup as => need (fixAs (getH ⟨[], []⟩ s) as) fun as => k (.val (.tup as))
/-- leaves of which one is a row of the caller's own -/
def mixLs (s : St) (k : Kd) : Nat → List Leaf → Option (List Leaf × List k.C × Option Nat)
  | _, [] => none
  | 0, l :: r => match fixLs (getH ⟨[], []⟩ s) r with
    | some r' => (match l with
      | .nils => some (.own 0 :: r', [], none)
      | .own b => cond (memB b (ownsL r)) none (match lk b s.hp with | some (some (.arr q xs false)) => (match Kd.cast q k xs with | some ys => some (.own 0 :: r', ys, some b) | none => none) | _ => none)
      | _ => none)
    | none => none
  | j + 1, l :: r => match fixL (getH ⟨[], []⟩ s) l, mixLs s k j r with
    | some l', some (r', xs, b) => (match b with
      | some b => cond (memB b (ownsL [l])) none (some (l' :: r', xs, some b))
      | none => some (l' :: r', xs, none))
    | _, _ => none
/-- a function whose answer has a row of the caller's own, at the leaf j of its first value -/
def evalFnM (C : Cfgs R) (d : Nat) (g : FuncId) (args : List AV) (kd : Kd) (j : Nat) (k : CRes → Option R) : Option R :=
  runFn C (evalD C d) g args ⟨[], []⟩ 0 ⟨[], []⟩ fun v _ s => match v with
    | .v ⟨true, ls⟩ => need (mixLs s kd j ls) fun (ls', xs, _) => k (.mix (.v ⟨true, ls'⟩) kd xs)
    | .tup [⟨true, ls⟩, ⟨false, [.int q n]⟩] => need (mixLs s kd j ls) fun (ls', xs, _) => k (.mix (.tup [⟨true, ls'⟩, ⟨false, [.int q n]⟩]) kd xs)
    | _ => none
end
end Go.Proofs.YtihhgenbkiollaaGreat

/- The abstract machine's table of types. No condition. -/
namespace Go.Proofs.YtihhgenbkiollaaGreat
open Go
def gam : Gam := [
(3, ⟨1, 8, [.int .i64 0], true, .int .i64⟩),
  (4, ⟨1, 1, [.bool false], true, .bool⟩),
  (5, ⟨1, 1, [.int .u8 0], true, .int .u8⟩),
  (9, ⟨1, 16, [.str ⟨#[]⟩], false, .str⟩),
  (20, ⟨1, 16, [.nili], false, .ifc⟩),
  (22, ⟨12, 96, [.int .i64 0, .int .i64 0, .int .i64 0, .int .i64 0, .int .i64 0, .int .i64 0, .int .i64 0, .int .i64 0, .bool false, .int .i64 0, .int .i64 0, .int .i64 0], true, .struct [(0, 3), (1, 3), (2, 3), (3, 3), (4, 3), (5, 3), (6, 3), (7, 3), (8, 4), (9, 3), (10, 3), (11, 3)]⟩),
  (23, ⟨12, 96, [.int .i64 0, .int .i64 0, .int .i64 0, .int .i64 0, .int .i64 0, .int .i64 0, .int .i64 0, .int .i64 0, .bool false, .int .i64 0, .int .i64 0, .int .i64 0], true, .struct [(0, 3), (1, 3), (2, 3), (3, 3), (4, 3), (5, 3), (6, 3), (7, 3), (8, 4), (9, 3), (10, 3), (11, 3)]⟩),
  (24, ⟨1, 24, [.nils], false, .slice 63 .sent⟩),
  (25, ⟨1, 24, [.nils], false, .slice 3 .int⟩),
  (26, ⟨12, 96, [.int .i64 0, .int .i64 0, .int .i64 0, .int .i64 0, .int .i64 0, .int .i64 0, .int .i64 0, .int .i64 0, .bool false, .int .i64 0, .int .i64 0, .int .i64 0], true, .struct [(0, 3), (1, 3), (2, 3), (3, 3), (4, 3), (5, 3), (6, 3), (7, 3), (8, 4), (9, 3), (10, 3), (11, 3)]⟩),
  (29, ⟨1, 24, [.nils], false, .slice 54 .box⟩),
  (31, ⟨2, 48, [.nils, .nils], false, .struct [(0, 25), (1, 29)]⟩),
  (32, ⟨1, 24, [.nils], false, .slice 57 .thr⟩),
  (34, ⟨2, 32, [.nils, .int .i64 0], false, .struct [(0, 25), (1, 3)]⟩),
  (35, ⟨1, 24, [.nils], false, .slice 65 .mark⟩),
  (36, ⟨1, 24, [.nils], false, .slice 50 .evt⟩),
  (38, ⟨21, 264, [.int .i64 0, .int .i64 0, .int .i64 0, .int .i64 0, .int .i64 0, .int .i64 0, .int .i64 0, .int .i64 0, .bool false, .int .i64 0, .int .i64 0, .int .i64 0, .nils, .nils, .nils, .int .i64 0, .int .i64 0, .nils, .int .i64 0, .nils, .nils], false, .struct [(0, 23), (12, 31), (14, 32), (15, 3), (16, 3), (17, 34), (19, 35), (20, 36)]⟩),
  (39, ⟨1, 8, [.int .i64 0], true, .int .i64⟩),
  (48, ⟨2, 16, [.int .i64 0, .int .i64 0], true, .struct [(0, 3), (1, 3)]⟩),
  (50, ⟨8, 64, [.int .i64 0, .int .i64 0, .int .i64 0, .int .i64 0, .int .i64 0, .int .i64 0, .bool false, .int .i64 0], true, .struct [(0, 3), (1, 3), (2, 3), (3, 48), (5, 3), (6, 4), (7, 3)]⟩),
  (54, ⟨1, 24, [.nils], false, .slice 160 .ent⟩),
  (55, ⟨1, 24, [.nils], false, .slice 202 .kid⟩),
  (57, ⟨17, 184, [.int .i64 0, .int .i64 0, .int .i64 0, .int .i64 0, .nils, .nils, .nils, .int .i64 0, .int .i64 0, .int .i64 0, .int .i64 0, .int .i64 0, .int .i64 0, .int .i64 0, .int .i64 0, .int .i64 0, .int .i64 0], false, .struct [(0, 3), (1, 3), (2, 48), (4, 54), (5, 55), (6, 25), (7, 3), (8, 3), (9, 3), (10, 3), (11, 3), (12, 3), (13, 3), (14, 3), (15, 3), (16, 3)]⟩),
  (63, ⟨5, 40, [.int .i64 0, .int .i64 0, .int .i64 0, .int .i64 0, .int .i64 0], true, .struct [(0, 3), (1, 3), (2, 3), (3, 48)]⟩),
  (65, ⟨6, 48, [.int .i64 0, .int .i64 0, .int .i64 0, .int .i64 0, .int .i64 0, .int .i64 0], true, .struct [(0, 3), (1, 3), (2, 48), (4, 3), (5, 3)]⟩),
  (69, ⟨37, 408, [.int .i64 0, .int .i64 0, .int .i64 0, .int .i64 0, .int .i64 0, .int .i64 0, .int .i64 0, .int .i64 0, .bool false, .int .i64 0, .int .i64 0, .int .i64 0, .int .i64 0, .int .i64 0, .nils, .nils, .int .i64 0, .int .i64 0, .int .i64 0, .int .i64 0, .nils, .nils, .nils, .int .i64 0, .int .i64 0, .int .i64 0, .int .i64 0, .int .i64 0, .int .i64 0, .int .i64 0, .int .i64 0, .int .i64 0, .int .i64 0, .nils, .int .i64 0, .nils, .bool false], false, .struct [(0, 23), (12, 3), (13, 3), (14, 31), (16, 57), (33, 34), (35, 35), (36, 4)]⟩),
  (72, ⟨1, 24, [.nils], false, .slice 76 .box⟩),
  (74, ⟨2, 48, [.nils, .nils], false, .struct [(0, 25), (1, 72)]⟩),
  (75, ⟨2, 16, [.int .i64 0, .int .i64 0], true, .struct [(0, 3), (1, 3)]⟩),
  (76, ⟨1, 24, [.nils], false, .slice 162 .ent⟩),
  (77, ⟨1, 24, [.nils], false, .slice 199 .kid⟩),
  (79, ⟨17, 184, [.int .i64 0, .int .i64 0, .int .i64 0, .int .i64 0, .nils, .nils, .nils, .int .i64 0, .int .i64 0, .int .i64 0, .int .i64 0, .int .i64 0, .int .i64 0, .int .i64 0, .int .i64 0, .int .i64 0, .int .i64 0], false, .struct [(0, 3), (1, 3), (2, 75), (4, 76), (5, 77), (6, 25), (7, 3), (8, 3), (9, 3), (10, 3), (11, 3), (12, 3), (13, 3), (14, 3), (15, 3), (16, 3)]⟩),
  (80, ⟨2, 32, [.nils, .int .i64 0], false, .struct [(0, 25), (1, 3)]⟩),
  (81, ⟨1, 24, [.nils], false, .slice 201 .mark⟩),
  (83, ⟨37, 408, [.int .i64 0, .int .i64 0, .int .i64 0, .int .i64 0, .int .i64 0, .int .i64 0, .int .i64 0, .int .i64 0, .bool false, .int .i64 0, .int .i64 0, .int .i64 0, .int .i64 0, .int .i64 0, .nils, .nils, .int .i64 0, .int .i64 0, .int .i64 0, .int .i64 0, .nils, .nils, .nils, .int .i64 0, .int .i64 0, .int .i64 0, .int .i64 0, .int .i64 0, .int .i64 0, .int .i64 0, .int .i64 0, .int .i64 0, .int .i64 0, .nils, .int .i64 0, .nils, .bool false], false, .struct [(0, 26), (12, 3), (13, 3), (14, 74), (16, 79), (33, 80), (35, 81), (36, 4)]⟩),
  (85, ⟨1, 8, [.nilf], false, .fnc⟩),
  (101, ⟨1, 24, [.nils], false, .slice 126 .sent⟩),
  (109, ⟨1, 24, [.nils], false, .slice 79 .thr⟩),
  (110, ⟨1, 24, [.nils], false, .slice 177 .evt⟩),
  (112, ⟨21, 264, [.int .i64 0, .int .i64 0, .int .i64 0, .int .i64 0, .int .i64 0, .int .i64 0, .int .i64 0, .int .i64 0, .bool false, .int .i64 0, .int .i64 0, .int .i64 0, .nils, .nils, .nils, .int .i64 0, .int .i64 0, .nils, .int .i64 0, .nils, .nils], false, .struct [(0, 26), (12, 74), (14, 109), (15, 3), (16, 3), (17, 80), (19, 81), (20, 110)]⟩),
  (126, ⟨5, 40, [.int .i64 0, .int .i64 0, .int .i64 0, .int .i64 0, .int .i64 0], true, .struct [(0, 3), (1, 3), (2, 3), (3, 75)]⟩),
  (129, ⟨1, 24, [.nils], false, .slice 48 .opn⟩),
  (131, ⟨1, 8, [.nilf], false, .fnc⟩),
  (133, ⟨1, 8, [.nilf], false, .fnc⟩),
  (134, ⟨1, 8, [.nilf], false, .fnc⟩),
  (140, ⟨1, 8, [.nilp], false, .other⟩),
  (149, ⟨1, 8, [.nilf], false, .fnc⟩),
  (151, ⟨2, 24, [.str ⟨#[]⟩, .nilf], false, .struct [(0, 9), (1, 149)]⟩),
  (152, ⟨1, 24, [.nils], false, .slice 151 .part⟩),
  (155, ⟨1, 8, [.int .u64 0], true, .int .u64⟩),
  (160, ⟨3, 24, [.int .i64 0, .int .i64 0, .int .i64 0], true, .struct [(0, 3), (1, 48)]⟩),
  (162, ⟨3, 24, [.int .i64 0, .int .i64 0, .int .i64 0], true, .struct [(0, 3), (1, 75)]⟩),
  (163, ⟨1, 8, [.nilp], false, .other⟩),
  (164, ⟨1, 16, [.str ⟨#[]⟩], false, .struct [(0, 9)]⟩),
  (165, ⟨1, 16, [.str ⟨#[]⟩], false, .struct [(0, 9)]⟩),
  (166, ⟨1, 8, [.nilf], false, .fnc⟩),
  (168, ⟨1, 8, [.int .u64 0], true, .int .u64⟩),
  (177, ⟨8, 64, [.int .i64 0, .int .i64 0, .int .i64 0, .int .i64 0, .int .i64 0, .int .i64 0, .bool false, .int .i64 0], true, .struct [(0, 3), (1, 3), (2, 3), (3, 75), (5, 3), (6, 4), (7, 3)]⟩),
  (188, ⟨3, 24, [.int .i64 0, .int .i64 0, .int .i64 0], false, .array 3 3⟩),
  (189, ⟨24, 192, [.int .i64 0, .int .i64 0, .int .i64 0, .int .i64 0, .int .i64 0, .int .i64 0, .int .i64 0, .int .i64 0, .int .i64 0, .int .i64 0, .int .i64 0, .int .i64 0, .int .i64 0, .int .i64 0, .int .i64 0, .int .i64 0, .int .i64 0, .int .i64 0, .int .i64 0, .int .i64 0, .int .i64 0, .int .i64 0, .int .i64 0, .int .i64 0], false, .array 8 188⟩),
  (199, ⟨2, 16, [.int .i64 0, .int .i64 0], true, .struct [(0, 3), (1, 3)]⟩),
  (201, ⟨6, 48, [.int .i64 0, .int .i64 0, .int .i64 0, .int .i64 0, .int .i64 0, .int .i64 0], true, .struct [(0, 3), (1, 3), (2, 75), (4, 3), (5, 3)]⟩),
  (202, ⟨2, 16, [.int .i64 0, .int .i64 0], true, .struct [(0, 3), (1, 3)]⟩),
  (206, ⟨37, 408, [.int .i64 0, .int .i64 0, .int .i64 0, .int .i64 0, .int .i64 0, .int .i64 0, .int .i64 0, .int .i64 0, .bool false, .int .i64 0, .int .i64 0, .int .i64 0, .int .i64 0, .int .i64 0, .nils, .nils, .int .i64 0, .int .i64 0, .int .i64 0, .int .i64 0, .nils, .nils, .nils, .int .i64 0, .int .i64 0, .int .i64 0, .int .i64 0, .int .i64 0, .int .i64 0, .int .i64 0, .int .i64 0, .int .i64 0, .int .i64 0, .nils, .int .i64 0, .nils, .bool false], false, .struct [(0, 69)]⟩),
  (207, ⟨1, 8, [.nilf], false, .fnc⟩),
  (208, ⟨1, 8, [.nilm], false, .map⟩),
  (211, ⟨2, 16, [.int .i64 0, .int .i64 0], true, .struct [(0, 3), (1, 3)]⟩),
  (218, ⟨1, 8, [.nilp], false, .other⟩),
  (220, ⟨38, 416, [.int .i64 0, .int .i64 0, .int .i64 0, .int .i64 0, .int .i64 0, .int .i64 0, .int .i64 0, .int .i64 0, .bool false, .int .i64 0, .int .i64 0, .int .i64 0, .int .i64 0, .int .i64 0, .nils, .nils, .int .i64 0, .int .i64 0, .int .i64 0, .int .i64 0, .nils, .nils, .nils, .int .i64 0, .int .i64 0, .int .i64 0, .int .i64 0, .int .i64 0, .int .i64 0, .int .i64 0, .int .i64 0, .int .i64 0, .int .i64 0, .nils, .int .i64 0, .nils, .bool false, .int .i64 0], false, .struct [(0, 69), (37, 3)]⟩),
  (222, ⟨1, 8, [.nilf], false, .fnc⟩),
  (225, ⟨1, 8, [.int .i64 0], true, .struct [(0, 3)]⟩),
  (228, ⟨3, 24, [.int .i64 0, .int .i64 0, .int .i64 0], true, .struct [(0, 3), (1, 3), (2, 3)]⟩),
  (232, ⟨4, 32, [.int .i64 0, .int .i64 0, .int .i64 0, .int .i64 0], true, .struct [(0, 3), (1, 3), (2, 3), (3, 3)]⟩),
  (244, ⟨3, 24, [.int .i64 0, .int .i64 0, .int .i64 0], true, .struct [(0, 48), (2, 3)]⟩),
  (252, ⟨1, 8, [.nilc], false, .chan⟩),
  (269, ⟨2, 16, [.int .i64 0, .int .i64 0], true, .struct [(0, 3), (1, 3)]⟩),
  (315, ⟨1, 24, [.nils], false, .slice 55 .kids⟩),
  (317, ⟨1, 8, [.nilc], false, .chan⟩)
]
end Go.Proofs.YtihhgenbkiollaaGreat

/- The abstract machine, part d: typed contracts. No condition. -/
namespace Go.Proofs.YtihhgenbkiollaaGreat
open Go
/-- results: none, one, some, or a row of the caller's own -/
inductive RT where
  | one (τ : Ty) | two (τ σ : Ty) | three (τ σ υ : Ty) | four (τ σ υ φ : Ty) | own (k : Kd) | mix (q : Kd) (j : Nat) (k : Kd) | mix2 (q : Kd) (j : Nat) (k : Kd)
@[reducible] def RT.C : RT → Type
  | .one τ => τ.C | .two τ σ => τ.C × σ.C | .three τ σ υ => τ.C × σ.C × υ.C | .four τ σ υ φ => τ.C × σ.C × υ.C × φ.C | .own k => List k.C | .mix q _ _ => q.C | .mix2 q _ _ => q.C × Int
/-- the row that stands among leaves -/
def rowAt (k : Kd) (ls : List Leaf) (j : Nat) : List k.C := match ls[j]? with | some (.list q xs) => (match Kd.cast q k xs with | some ys => ys | none => []) | _ => []
@[reducible] def RT.enc : (ρ : RT) → ρ.C → CRes
  | .one τ, x => .val (.v (τ.enc x))
  | .two τ σ, x => .val (.tup [τ.enc x.1, σ.enc x.2])
  | .three τ σ υ, x => .val (.tup [τ.enc x.1, σ.enc x.2.1, υ.enc x.2.2])
  | .four τ σ υ φ, x => .val (.tup [τ.enc x.1, σ.enc x.2.1, υ.enc x.2.2.1, φ.enc x.2.2.2])
  | .own k, x => .arr k x
  | .mix q j k, x => .mix (.v ⟨true, (q.cells x).set j (.own 0)⟩) k (rowAt k (q.cells x) j)
  | .mix2 q j k, x => .mix (.tup [⟨true, (q.cells x.1).set j (.own 0)⟩, ⟨false, [li x.2]⟩]) k (rowAt k (q.cells x.1) j)
def isOwn0 : Option Leaf → Bool | some (.own 0) => true | _ => false
def RT.dec : (ρ : RT) → CRes → Option ρ.C
  | .one τ, .val (.v a) => τ.dec a
  | .one (.l k), .arr q xs => Kd.cast q k xs
  | .two τ σ, .val (.tup [a, b]) => match τ.dec a, σ.dec b with | some x, some y => some (x, y) | _, _ => none
  | .three τ σ υ, .val (.tup [a, b, c]) => match τ.dec a, σ.dec b, υ.dec c with | some x, some y, some z => some (x, y, z) | _, _, _ => none
  | .four τ σ υ φ, .val (.tup [a, b, c, d]) => match τ.dec a, σ.dec b, υ.dec c, φ.dec d with | some x, some y, some z, some t => some (x, y, z, t) | _, _, _, _ => none
  | .own k, .arr q xs => Kd.cast q k xs
  | .own _, .val (.v ⟨false, [.nils]⟩) => some []
  | .mix q j k, .mix (.v ⟨true, ls⟩) k' xs => (match Kd.cast k' k xs with | some ys => cond (isOwn0 ls[j]?) (q.dec (ls.set j (.list k ys))) none | none => none)
  | .mix2 q j k, .mix (.tup [⟨true, ls⟩, ⟨false, [.int .i64 n]⟩]) k' xs => (match Kd.cast k' k xs with | some ys => cond (isOwn0 ls[j]?) (match q.dec (ls.set j (.list k ys)) with | some x => some (x, n) | none => none) none | none => none)
  | _, _ => none
/-- arguments' types, and what is done to them -/
@[reducible] def Fun : List Ty → Type → Type
  | [], β => β
  | τ :: r, β => τ.C → Fun r β
def ctrOf {R : Type} (ρ : RT) (k : CRes → Option R) : (τs : List Ty) → Fun τs (Option ρ.C) → List AV → Option R
  | [], f, [] => need f fun y => k (ρ.enc y)
  | τ :: r, f, a :: as => need (τ.dec a) fun x => ctrOf ρ k r (f x) as
  | _, _, _ => none
/-- a contract: the types, and the function -/
structure Ctr where
  τs : List Ty
  ρ : RT
  f : Fun τs (Option ρ.C)
def Ctr.run {R : Type} (c : Ctr) (as : List AV) (k : CRes → Option R) : Option R := ctrOf c.ρ k c.τs c.f as
def ctrs {R : Type} (l : List (FuncId × Ctr)) (g : FuncId) : Option (List AV → (CRes → Option R) → Option R) := match lk g l with | some c => some c.run | none => none
def cfgR {R : Type} (cs fs ds : List (FuncId × Ctr)) (fns : List (FuncId × Func)) (la : FuncId → Nat → Option (LAnn R)) (ra : FuncId → Nat → Option (Run R)) : Cfgs R := ⟨gam, ctrs cs, ctrs fs, ctrs ds, fns, la, ra⟩
@[reducible] def cfg {R : Type} (cs fs ds : List (FuncId × Ctr)) (fns : List (FuncId × Func)) (la : FuncId → Nat → Option (LAnn R)) : Cfgs R := cfgR cs fs ds fns la fun _ _ => none
end Go.Proofs.YtihhgenbkiollaaGreat

/- The abstract machine, part e: one operation's step. No condition. -/
namespace Go.Proofs.YtihhgenbkiollaaGreat
open Go Go.RowKit

/-- an operation that runs, to a state of which 'next' holds -/
def Does (P : Program) (o : Oper) (a : Act) (w : World) (next : Act → World → Prop) : Prop :=
  ∀ (ops : Array Oper) (i : Nat) (rest : List Nat) (b : Frame) (k : List Item) (cs : List Frame), ops[i]? = some o → Region.wanted o (yielded ops a.tmps) = true →
    ∃ a' w', next a' w' ∧ Steps P (lone (b.at a (.inRegion ops (i :: rest) :: k)) cs w) (lone (b.at a' (.inRegion ops rest :: k)) cs w')
theorem Does.mono {P : Program} {o : Oper} {a : Act} {w : World} {n n' : Act → World → Prop} (h : Does P o a w n) (hn : ∀ a w, n a w → n' a w) : Does P o a w n' :=
  fun ops i rest b k cs ho hw => let ⟨a', w', h1, h2⟩ := h ops i rest b k cs ho hw; ⟨a', w', hn _ _ h1, h2⟩
theorem finish_eq {b : Frame} {a : Act} {ops : Array Oper} {i : Nat} {rest : List Nat} {k : List Item} {o : Oper} (ho : ops[i]? = some o) (v : Value) :
    (b.at a (.inRegion ops (i :: rest) :: k)).finish v = b.at (a.put o.dst v) (.inRegion ops rest :: k) := by rw [Frame.finish_at, ho]; rfl
theorem does_value {P : Program} {o : Oper} {a : Act} {w w' : World} {next : Act → World → Prop} {v : Value} (hr : (execOp a.eval o).run P w = .ok (.value v) w') (h : next (a.put o.dst v) w') :
    Does P o a w next := by
  intro ops i rest b k cs ho hw
  have hg := stepG_op (P := P) (b := b) (k := k) (cs := cs) (w := w) (rest := rest) ho hw
  refine ⟨_, _, h, .one (step_lone_go ?_)⟩
  rw [hg, ← finish_eq ho]; simp [stepG.apply, hr]
theorem does_skip {P : Program} {o : Oper} {a : Act} {w w' : World} {next : Act → World → Prop} (hr : (execOp a.eval o).run P w = .ok .skip w') (h : next (a.put o.dst undef) w') :
    Does P o a w next := by
  intro ops i rest b k cs ho hw
  have hg := stepG_op (P := P) (b := b) (k := k) (cs := cs) (w := w) (rest := rest) ho hw
  refine ⟨_, _, h, .one (step_lone_go ?_)⟩
  rw [hg, ← finish_eq ho]; simp [stepG.apply, hr]
theorem does_enter {P : Program} {o : Oper} {a : Act} {w w' : World} {next : Act → World → Prop} {f : FuncId} {args : Array Value} (hr : (execOp a.eval o).run P w = .ok (.enter f args) w')
    (h : Calls P f args w' fun e w'' => ∃ v, e = .returned v ∧ next (a.put o.dst v) w'') : Does P o a w next := by
  intro ops i rest b k cs ho hw
  have hg := stepG_op (P := P) (b := b) (k := k) (cs := cs) (w := w) (rest := rest) ho hw
  obtain ⟨e, w'', fr, ⟨v, rfl, hn⟩, hsteps, _, hleave⟩ := h (b.at a (.inRegion ops (i :: rest) :: k) :: cs)
  have henter : step P (lone (b.at a (.inRegion ops (i :: rest) :: k)) cs w) =
      .next (lone (Frame.enter P f args .normal) (b.at a (.inRegion ops (i :: rest) :: k) :: cs) w') :=
    step_lone_go (by rw [hg]; simp [stepG.apply, hr, Frame.at])
  refine ⟨_, _, hn, .head henter (Steps.trans hsteps (.one ?_))⟩
  rw [← finish_eq ho]; exact step_leave_returned hleave

/-- slots and objects behind an operation -/
def updT (T : Nat → Option AVal) (d : Option Nat) (v : Option AVal) : Nat → Option AVal := fun t => if d = some t then v else T t
def updH (H : Nat → Option Obj) (l : List (Nat × Option Obj)) : Nat → Option Obj := fun b => match lk b l with | some o => o | none => H b
/-- what holds behind an operation that may lay the objects me .. me + n - 1 -/
structure Post (B : Nat) (w0 : World) (N : Nat) (T : Nat → Option AVal) (H : Nat → Option Obj) (x : Cx) (w : World) (me n : Nat) (x' : Cx) (a' : Act) (w' : World) : Prop where
  evo : Evo x w x' w'
  old : ∀ b, ¬ (me ≤ b ∧ b < me + n) → x'.ρ b = x.ρ b
  sim : Sim B w0 N T H x' a' w'

theorem Act.getD_put {a : Act} {d : Option Tmp} {v : Value} {t : Nat} (hd : ∀ d', d = some d' → d' < a.tmps.size) : (a.put d v).tmps.getD t undef = if d = some t then v else a.tmps.getD t undef := by
  cases d with
  | none => simp [Act.put]
  | some d =>
    have := hd d rfl
    simp only [Act.put, Option.some.injEq]
    by_cases h : d = t
    · subst h; simp [Array.getD, this]
    · simp only [h, if_false]
      simp only [Array.getD_eq_getD_getElem?, Array.getElem?_setIfInBounds, if_neg h]
theorem Act.put_size {a : Act} {d : Option Tmp} {v : Value} : (a.put d v).tmps.size = a.tmps.size := by cases d <;> simp [Act.put]
theorem Act.put_defs {a : Act} {d : Option Tmp} {v : Value} : (a.put d v).defers = a.defers := by cases d <;> rfl

/-- an operation that only answers -/
theorem Sim.put {B : Nat} {w0 : World} {N : Nat} {T : Nat → Option AVal} {H : Nat → Option Obj} {x : Cx} {a : Act} {w : World} (s : Sim B w0 N T H x a w) {d : Option Tmp} (hd : ∀ d', d = some d' → d' < N)
    {v : Value} {av : Option AVal} (h : ∀ u, av = some u → RV x w v u) : Sim B w0 N (updT T d av) H x (a.put d v) w where
  below := s.below
  size := s.size
  slots := by rw [Act.put_size]; exact s.slots
  defers := by rw [Act.put_defs]; exact s.defers
  tmps := by
    intro t u hu
    rw [Act.getD_put (fun d' h' => s.slots ▸ hd d' h')]
    unfold updT at hu
    split at hu
    · rename_i hh; rw [if_pos hh]; exact h u hu
    · rename_i hh; rw [if_neg hh]; exact s.tmps t u hu
  heap := s.heap
  inj := s.inj
  dlt := s.dlt
theorem Post.val {B : Nat} {w0 : World} {N : Nat} {T : Nat → Option AVal} {H : Nat → Option Obj} {x : Cx} {a : Act} {w : World} (s : Sim B w0 N T H x a w) {d : Option Tmp} (hd : ∀ d', d = some d' → d' < N)
    {v : Value} {av : Option AVal} (h : ∀ u, av = some u → RV x w v u) (me n : Nat) : Post B w0 N (updT T d av) H x w me n x (a.put d v) w :=
  ⟨.refl _ _, fun _ _ => rfl, s.put hd h⟩
theorem updH_nil (H : Nat → Option Obj) : updH H [] = H := rfl

/-- an operand's value -/
theorem constA_ok {x : Cx} {w : World} {v : Value} {u : AVal} (h : constA v = some u) : RV x w v u := by
  unfold constA at h
  split at h <;> cases h <;> exact ⟨_, rfl, RL.of_pl (by constructor)⟩
theorem opnd_ok {B : Nat} {w0 : World} {N : Nat} {T : Nat → Option AVal} {H : Nat → Option Obj} {x : Cx} {a : Act} {w : World} (s : Sim B w0 N T H x a w) {o : Operand} {u : AVal} (h : opnd T o = some u) :
    RV x w (a.eval o) u := by
  cases o with
  | tmp t => exact s.tmps t u h
  | const v => exact constA_ok h
  | global g => cases h
  | func f => simp only [opnd, Option.some.injEq] at h; subst h; exact ⟨_, rfl, RL.of_pl (.fn f)⟩

/-! readings of values -/
theorem RV.leaf {x : Cx} {w : World} {v : Value} {l : Leaf} (h : RV x w v (.v ⟨false, [l]⟩)) : RL x w v l := by
  obtain ⟨l', h1, h2⟩ := h; simp only [List.cons.injEq, and_true] at h1; subst h1; exact h2
theorem RL.mk {x : Cx} {w : World} {v : Value} {l : Leaf} (h : RL x w v l) : RV x w v (.l l) := ⟨l, rfl, h⟩
theorem RL.int {x : Cx} {w : World} {v : Value} {k : IntKind} {n : Int} (h : RL x w v (.int k n)) : v = .int k n := by
  rcases h with (h | ⟨_, _, _, _, h, _⟩) | ⟨_, _, _, h, _⟩
  · cases (h : PL w x.D v _); rfl
  · cases h
  · cases h
theorem RL.bool {x : Cx} {w : World} {v : Value} {n : Bool} (h : RL x w v (.bool n)) : v = .bool n := by
  rcases h with (h | ⟨_, _, _, _, h, _⟩) | ⟨_, _, _, h, _⟩
  · cases (h : PL w x.D v _); rfl
  · cases h
  · cases h
theorem RL.str {x : Cx} {w : World} {v : Value} {n : ByteArray} (h : RL x w v (.str n)) : v = .string n := by
  rcases h with (h | ⟨_, _, _, _, h, _⟩) | ⟨_, _, _, h, _⟩
  · cases (h : PL w x.D v _); rfl
  · cases h
  · cases h
theorem RL.list {x : Cx} {w : World} {v : Value} {k : Kd} {xs : List k.C} (h : RL x w v (.list k xs)) : PL w x.D v (.list k xs) := by
  rcases h with (h | ⟨_, _, _, _, h, _⟩) | ⟨_, _, _, h, _⟩
  · exact h
  · cases h
  · cases h
theorem RL.fn {x : Cx} {w : World} {v : Value} {f : FuncId} (h : RL x w v (.fn f)) : v = .func (.func f) #[] #[] := by
  rcases h with (h | ⟨_, _, _, _, h, _⟩) | ⟨_, _, _, h, _⟩
  · cases (h : PL w x.D v _); rfl
  · cases h
  · cases h
theorem RL.nils {x : Cx} {w : World} {v : Value} (h : RL x w v .nils) : v = .slice none 0 0 := by
  rcases h with (h | ⟨_, _, _, _, h, _⟩) | ⟨_, _, _, h, _⟩
  · cases (h : PL w x.D v _); rfl
  · cases h
  · cases h
theorem RL.ptr {x : Cx} {w : World} {v : Value} {p : Loc} (h : RL x w v (.ptr p)) : RL0 x w v (.ptr p) := by
  rcases h with (h | ⟨_, _, _, _, h, _⟩) | ⟨_, _, _, h, _⟩
  · exact h
  · cases h
  · cases h
theorem RL.own {x : Cx} {w : World} {v : Value} {b : Nat} (h : RL x w v (.own b)) : ∃ ob, x.ρ b = some ob ∧ v = .slice (ob.map fun blk => ⟨blk, 0, none⟩) (x.κ b).1 (x.κ b).2 := by
  rcases h with (h | ⟨_, _, _, _, h, _⟩) | ⟨_, _, _, h, _⟩
  · exact h
  · cases h
  · cases h
theorem need_some {α R : Type} {x : Option α} {k : α → Option R} {r : R} (h : need x k = some r) : ∃ a, x = some a ∧ k a = some r := by
  cases x with
  | none => cases h
  | some a => exact ⟨a, rfl, h⟩
theorem cond_some {R : Type} {b : Bool} {k : Option R} {r : R} (h : cond b k none = some r) : b = true ∧ k = some r := by
  cases b with
  | false => cases h
  | true => exact ⟨rfl, h⟩
theorem asOne_some {R : Type} {x : Option AVal} {k : Leaf → Option R} {r : R} (h : asOne x k = some r) : ∃ l, x = some (.l l) ∧ k l = some r := by
  unfold asOne at h
  split at h
  · exact ⟨_, rfl, h⟩
  · cases h
theorem asInt_some {R : Type} {x : Option AVal} {k : IntKind → Int → Option R} {r : R} (h : asInt x k = some r) : ∃ q n, x = some (.l (.int q n)) ∧ k q n = some r := by
  obtain ⟨l, h1, h2⟩ := asOne_some h
  split at h2
  · exact ⟨_, _, h1, h2⟩
  · cases h2
theorem asV_some {R : Type} {x : Option AVal} {k : AV → Option R} {r : R} (h : asV x k = some r) : ∃ a, x = some (.v a) ∧ k a = some r := by
  unfold asV at h
  split at h
  · exact ⟨_, rfl, h⟩
  · cases h
theorem asPtr_some {R : Type} {x : Option AVal} {k : Loc → Option R} {r : R} (h : asPtr x k = some r) : ∃ p, x = some (.l (.ptr p)) ∧ k p = some r := by
  obtain ⟨l, h1, h2⟩ := asOne_some h
  split at h2
  · exact ⟨_, h1, h2⟩
  · cases h2

/-! types -/
/-- a type that is compared cell by cell, as z has them -/
def eqfB (P : Program) (f : TypeId → List Leaf → Bool) (z : List Leaf) : List Field → Nat → Bool
  | [], off => off == z.length
  | fd :: r, off => (fd.name != "_") && (fd.offset == off) && f fd.type ((z.drop off).take (P.cellsOf fd.type)) && eqfB P f z r (off + P.cellsOf fd.type)
def eqtB (P : Program) : Nat → TypeId → List Leaf → Bool
  | 0, _, _ => false
  | d + 1, t, z => match P.underlying t with
    | some .bool => (match z with | [.bool _] => true | _ => false)
    | some (.int k) => (match z with | [.int k' _] => decide (k' = k) | _ => false)
    | some (.struct fs) => !P.stoodInHeld t && eqfB P (eqtB P d) z fs.toList 0
    | _ => false
structure TIok (P : Program) (i : TI) (t : TypeId) : Prop where
  info : ∃ ti, P.info? t = some ti ∧ ti.size = i.sz ∧ ti.bytes = i.bytes ∧ ∃ z, ti.zero = some z ∧ z.cells.size = i.sz ∧ (∀ w D, Rs (PL w D) z.cells.toList i.zero) ∧ (i.agg = true → z = .agg z.cells) ∧ (i.agg = false → z.cells = #[z])
  und : match i.td with
    | .int k => P.underlying t = some (.int k)
    | .bool => P.underlying t = some .bool
    | .str => P.underlying t = some .string
    | .struct fs => ∃ fields, P.underlying t = some (.struct fields) ∧ fields.toList.map (fun f => (f.offset, f.type)) = fs ∧ ∀ f ∈ fields.toList, (P.info? f.type).isSome
    | .array n e => P.underlying t = some (.array n e)
    | .slice e _ => P.underlying t = some (.slice e)
    | .map => ∃ k e, P.underlying t = some (.map k e) ∧ P.underlying k = some (.int .i64) ∧ ∃ ti, P.info? e = some ti ∧ ti.zero = some .nilFunc
    | .chan => ∃ d e, P.underlying t = some (.chan d e) ∧ ∃ ti, P.info? e = some ti ∧ ti.bytes < 2 ^ 40
    | .fnc => ∃ ps rs v, P.underlying t = some (.func ps rs v)
    | .ifc => ∃ ms, P.underlying t = some (.interface ms)
    | .other => ∃ d, P.underlying t = some d ∧ (match d with | .struct _ | .array _ _ => False | _ => True)
  pos : i.sz ≠ 0
  eqp : i.eqp = true → eqtB P 6 t i.zero = true ∧ P.eqGuardType P.depth t = false
def GamOk (P : Program) (Γ : Gam) : Prop := ∀ t i, lk t Γ = some i → TIok P i t
theorem TIok.agg_run {P : Program} {i : TI} {t : TypeId} (h : TIok P i t) (w : World) : (isAgg t).run P w = .ok i.agg w := by
  have hu := h.und
  unfold TI.agg
  unfold isAgg
  cases htd : i.td <;> simp only [htd] at hu
  case struct fs => obtain ⟨f, hf, _⟩ := hu; simp [Sem.run_bind, run_underlying hf w]
  case map => obtain ⟨k, e, hf, _⟩ := hu; simp [Sem.run_bind, run_underlying hf w]
  case chan => obtain ⟨k, e, hf, _⟩ := hu; simp [Sem.run_bind, run_underlying hf w]
  case fnc => obtain ⟨ps, rs, v, hf⟩ := hu; simp [Sem.run_bind, run_underlying hf w]
  case ifc => obtain ⟨ms, hf⟩ := hu; simp [Sem.run_bind, run_underlying hf w]
  case other => obtain ⟨d, hf, hd⟩ := hu; simp only [Sem.run_bind, run_underlying hf w, Result.andThen_ok]; cases d <;> simp_all
  all_goals simp [Sem.run_bind, run_underlying hu w]
theorem TIok.size_run {P : Program} {i : TI} {t : TypeId} (h : TIok P i t) (w : World) : (sizeOf t).run P w = .ok i.sz w := by
  obtain ⟨ti, h1, h2, _⟩ := h.info
  simp [sizeOf, typeInfo, h1, h2]
theorem TIok.info_run {P : Program} {i : TI} {t : TypeId} (h : TIok P i t) : ∃ ti, (∀ w, (typeInfo t).run P w = .ok ti w) ∧ ti.size = i.sz ∧ ti.bytes = i.bytes := by
  obtain ⟨ti, h1, h2, h3, _⟩ := h.info
  exact ⟨ti, fun w => by simp [typeInfo, h1], h2, h3⟩
theorem TIok.zero_run {P : Program} {i : TI} {t : TypeId} (h : TIok P i t) : ∃ z, (∀ w, (zeroValue t).run P w = .ok z w) ∧ z.cells.size = i.sz ∧ (∀ w D, Rs (PL w D) z.cells.toList i.zero) ∧ (i.agg = true → z = .agg z.cells) ∧ (i.agg = false → z.cells = #[z]) := by
  obtain ⟨ti, h1, h2, h3, z, h4, h5⟩ := h.info
  exact ⟨z, fun w => by simp [zeroValue, typeInfo, h1, h4], h5⟩

/-! loading a place -/
theorem addr_add (b o n : Nat) : (⟨b, o, none⟩ : Addr).add n = ⟨b, o + n, none⟩ := by unfold Addr.add; split <;> simp_all
/-- cells in memory that stand for leaves -/
theorem run_loadVar_cells {P : Program} {i : TI} {t : TypeId} (h : TIok P i t) {w : World} {b o : Nat} {cs : List Value} (hc : ∀ j v, cs[j]? = some v → w.cell? ⟨b, o + j, none⟩ = some v) (hl : cs.length = i.sz)
    (h1 : i.agg = false → i.sz = 1) : (loadVar t ⟨b, o, none⟩).run P w = .ok (if i.agg then .agg cs.toArray else cs.headD undef) w := by
  unfold loadVar
  simp only [Sem.run_bind, h.agg_run w, Result.andThen_ok]
  cases hg : i.agg with
  | true =>
    have := run_loadCells_list (P := P) w ⟨b, o, none⟩ cs (fun j v hv => by rw [addr_add]; exact hc j v hv)
    simp only [hl] at this
    simp [Sem.run_bind, h.size_run w, this]
  | false =>
    have h1 := h1 hg
    match cs, hl with
    | [c], _ =>
      have := hc 0 c rfl
      simp only [Nat.add_zero] at this
      simp [this]
    | [], hl => simp [h1] at hl
    | _ :: _ :: _, hl => simp [h1] at hl
end Go.Proofs.YtihhgenbkiollaaGreat

/- The abstract machine, part f: operations on memory. No condition. -/
namespace Go.Proofs.YtihhgenbkiollaaGreat
open Go Go.RowKit

theorem Lies.frame {x x' : Cx} {w w' : World} {ob : Option Nat} {lc : Nat × Nat} {o : Obj} (h : Lies x w ob lc o) (e : Evo x w x' w')
    (hs : ∀ blk, ob = some blk → w'.heap[blk]? = w.heap[blk]? ∧ ∀ q, x'.D blk q ↔ x.D blk q) : Lies x' w' ob lc o := by
  cases o with
  | cells ls =>
    obtain ⟨blk, cs, t, h1, h2, h3, h4⟩ := h
    obtain ⟨g1, g2⟩ := hs blk h1
    exact ⟨blk, cs, t, h1, g1.trans h2, h3.mono fun _ _ => RL.evo e, fun q hq => h4 q ((g2 q).1 hq)⟩
  | arr k xs lent =>
    obtain ⟨h1, h2, h3⟩ := h
    refine ⟨h1, h2, ?_⟩
    rcases h3 with h3 | ⟨blk, cs, t, h4, h5, h6, h7, h8, h9⟩
    · exact .inl h3
    · obtain ⟨g1, g2⟩ := hs blk h4
      refine .inr ⟨blk, cs, t, h4, g1.trans h5, h6, fun i j hi hj => ?_, fun hl q hq => h8 hl q ((g2 q).1 hq), fun hl q => (g2 q).trans (h9 hl q)⟩
      obtain ⟨c, hc, hp⟩ := h7 i j hi hj
      exact ⟨c, hc, hp.mono e.D e.cell⟩
  | omap es =>
    obtain ⟨blk, ms, cl, h1, h2, h3⟩ := h
    exact ⟨blk, ms, cl, h1, (hs blk h1).1.trans h2, h3.mono fun _ _ hh => ⟨hh.1, hh.2.evo e⟩⟩
  | chan buf =>
    obtain ⟨blk, vs, sn, r, h1, h2, h3, h4⟩ := h
    exact ⟨blk, vs, sn, r, h1, (hs blk h1).1.trans h2, h3.mono fun _ _ hh => hh.evo e, h4⟩

section
variable {B : Nat} {w0 : World} {N : Nat} {T : Nat → Option AVal} {H : Nat → Option Obj} {x : Cx} {a : Act} {w : World}
theorem Post.upd (s : Sim B w0 N T H x a w) {l : List (Nat × Option Obj)} {x' : Cx} {w' : World} {d : Option Tmp} {v : Value} {av : Option AVal} {me n : Nat} (tch : Nat → Prop)
    (evo : Evo x w x' w') (old : ∀ b, ¬ (me ≤ b ∧ b < me + n) → x'.ρ b = x.ρ b) (below : Below B w w') (dlt : ∀ b o, x'.D b o → b < w'.heap.size)
    (same : ∀ blk, blk < w.heap.size → ¬ tch blk → w'.heap[blk]? = w.heap[blk]? ∧ ∀ q, x'.D blk q ↔ x.D blk q)
    (news : ∀ b o, lk b l = some (some o) → ∃ ob, x'.ρ b = some ob ∧ (∀ blk, ob = some blk → B ≤ blk ∧ blk < w'.heap.size ∧ (tch blk ∨ w.heap.size ≤ blk)) ∧ Lies x' w' ob (x'.κ b) o)
    (kept : ∀ b o blk, lk b l = none → H b = some o → x.ρ b = some (some blk) → ¬ tch blk)
    (inj : ∀ b b' o o' blk, lk b l = some (some o) → lk b' l = some (some o') → x'.ρ b = some (some blk) → x'.ρ b' = some (some blk) → b = b')
    (hd : ∀ d', d = some d' → d' < N) (hv : ∀ u, av = some u → RV x' w' v u) : Post B w0 N (updT T d av) (updH H l) x w me n x' (a.put d v) w' where
  evo := evo
  old := old
  sim := by
    have hk : ∀ b o, lk b l = none → H b = some o → ∃ ob, x.ρ b = some ob ∧ x'.ρ b = some ob ∧ (∀ blk, ob = some blk → B ≤ blk ∧ blk < w.heap.size ∧ ¬ tch blk) ∧ Lies x' w' ob (x'.κ b) o := by
      intro b o hl ho
      obtain ⟨ob, h1, h2, h3⟩ := s.heap b o ho
      refine ⟨ob, h1, evo.ρ b ob h1, fun blk hb => ⟨(h2 blk hb).1, (h2 blk hb).2, kept b o blk hl ho (hb ▸ h1)⟩, ?_⟩
      rw [evo.κ b ob h1]
      exact h3.frame evo fun blk hb => same blk (h2 blk hb).2 (kept b o blk hl ho (hb ▸ h1))
    have split : ∀ b o, updH H l b = some o → (lk b l = some (some o)) ∨ (lk b l = none ∧ H b = some o) := by
      intro b o h
      unfold updH at h
      cases hq : lk b l with
      | none => rw [hq] at h; exact .inr ⟨rfl, h⟩
      | some q => rw [hq] at h; subst h; exact .inl rfl
    exact {
      below := s.below.trans below
      size := Nat.le_trans s.size below.size
      slots := by rw [Act.put_size]; exact s.slots
      defers := by rw [Act.put_defs]; exact s.defers
      tmps := by
        intro t u hu
        rw [Act.getD_put (fun d' h' => s.slots ▸ hd d' h')]
        unfold updT at hu
        split at hu
        · rename_i hh; rw [if_pos hh]; exact hv u hu
        · rename_i hh; rw [if_neg hh]; exact (s.tmps t u hu).evo evo
      heap := by
        intro b o h
        rcases split b o h with hl | ⟨hl, ho⟩
        · obtain ⟨ob, h1, h2, h3⟩ := news b o hl
          exact ⟨ob, h1, fun blk hb => ⟨(h2 blk hb).1, (h2 blk hb).2.1⟩, h3⟩
        · obtain ⟨ob, h1, h2, h3, h4⟩ := hk b o hl ho
          exact ⟨ob, h2, fun blk hb => ⟨(h3 blk hb).1, Nat.lt_of_lt_of_le (h3 blk hb).2.1 below.size⟩, h4⟩
      inj := by
        intro b b' o o' blk h h' hr hr'
        rcases split b o h with hl | ⟨hl, ho⟩ <;> rcases split b' o' h' with hl' | ⟨hl', ho'⟩
        · exact inj b b' o o' blk hl hl' hr hr'
        · obtain ⟨ob, h1, h2, h3⟩ := news b o hl
          obtain ⟨ob', g1, g2, g3, g4⟩ := hk b' o' hl' ho'
          have e1 : ob = some blk := by rw [h1] at hr; exact Option.some.inj hr
          have e2 : ob' = some blk := by rw [g2] at hr'; exact Option.some.inj hr'
          rcases (h2 blk e1).2.2 with ht | ht
          · exact absurd ht (g3 blk e2).2.2
          · have := (g3 blk e2).2.1; omega
        · obtain ⟨ob, h1, h2, h3⟩ := news b' o' hl'
          obtain ⟨ob', g1, g2, g3, g4⟩ := hk b o hl ho
          have e1 : ob = some blk := by rw [h1] at hr'; exact Option.some.inj hr'
          have e2 : ob' = some blk := by rw [g2] at hr; exact Option.some.inj hr
          rcases (h2 blk e1).2.2 with ht | ht
          · exact absurd ht (g3 blk e2).2.2
          · have := (g3 blk e2).2.1; omega
        · obtain ⟨ob, h1, h2, h3⟩ := hk b o hl ho
          obtain ⟨ob', g1, g2, g3⟩ := hk b' o' hl' ho'
          have e1 : ob = some blk := by rw [h2] at hr; exact Option.some.inj hr
          have e2 : ob' = some blk := by rw [g2] at hr'; exact Option.some.inj hr'
          exact s.inj b b' o o' blk ho ho' (e1 ▸ h1) (e2 ▸ g1)
      dlt := dlt }

/-- a new block under a new number -/
theorem Post.new (s : Sim B w0 N T H x a w) {d : Option Tmp} {me : Nat} (hf : x.ρ me = none) (cs : Array Value) (t : TypeId) {o : Obj} {κ : Nat × Nat} {v : Value} {av : AVal}
    (ho : ∀ x' w', Evo x w x' w' → x'.D = x.D → w'.heap[w.heap.size]? = some (.cells cs t (0, 0)) → Lies x' w' (some w.heap.size) κ o)
    (hv : ∀ x' w', x'.ρ me = some (some w.heap.size) → x'.κ me = κ → RV x' w' v av)
    (hd : ∀ d', d = some d' → d' < N) {w1 : World} (hw : w1.heap = w.heap.push (.cells cs t (0, 0))) (hos : w1.os = w.os) (htp : w1.tape = w.tape) (hout : w1.output = w.output) :
    ∃ x', Post B w0 N (updT T d (some av)) (updH H [(me, some o)]) x w me 1 x' (a.put d v) w1 := by
  let x' : Cx := ⟨fun b => if b = me then some (some w.heap.size) else x.ρ b, fun b => if b = me then κ else x.κ b, x.D⟩
  have hblk : ∀ k, k < w.heap.size → w1.heap[k]? = w.heap[k]? := by
    intro k hk; rw [hw, Array.getElem?_push, if_neg (by omega)]
  have hnew : w1.heap[w.heap.size]? = some (.cells cs t (0, 0)) := by rw [hw]; simp
  have evo : Evo x w x' w1 := by
    refine ⟨fun b o hb => ?_, fun b o hb => ?_, fun _ _ h => h, fun b o hb => ?_, by rw [hw]; simp, fun _ _ _ h => .inl h, fun c b hb hc => ?_⟩
    · show (if b = me then _ else _) = _
      rw [if_neg (by intro h; rw [h, hf] at hb; cases hb)]; exact hb
    · show (if b = me then _ else _) = _
      rw [if_neg (by intro h; rw [h, hf] at hb; cases hb)]
    · exact World.cell?_of_block (w := w) (hblk b (s.dlt b o hb))
    · have hc : (if c = me then some (some w.heap.size) else x.ρ c) = some (some b) := hc
      by_cases h : c = me
      · rw [if_pos h] at hc; simp only [Option.some.injEq] at hc; omega
      · rw [if_neg h] at hc; exact ⟨c, hc⟩
  have hρ : x'.ρ me = some (some w.heap.size) := by show (if me = me then _ else _) = _; rw [if_pos rfl]
  have hκ : x'.κ me = κ := by show (if me = me then _ else _) = _; rw [if_pos rfl]
  have hone : ∀ b q, lk b [(me, some o)] = some (some q) → b = me ∧ q = o := by
    intro b q h
    simp only [lk] at h
    cases he : Nat.beq me b with
    | true => rw [he] at h; simp only [cond_true, Option.some.injEq] at h; exact ⟨(Nat.eq_of_beq_eq_true he).symm, h.symm⟩
    | false => rw [he] at h; simp at h
  refine ⟨x', Post.upd s (fun _ => False) evo (fun b hb => ?_) ⟨hos, htp, hout, by rw [hw]; simp, fun k hk => hblk k (Nat.lt_of_lt_of_le hk s.size)⟩ (fun b q hb => ?_) (fun blk hb _ => ⟨hblk blk hb, fun _ => Iff.rfl⟩) (fun b q hb => ?_) (fun _ _ _ _ _ _ h => h) (fun b b' q q' blk h h' _ _ => ?_) hd (fun u hu => ?_)⟩
  · show (if b = me then _ else _) = _
    rw [if_neg (by omega)]
  · have := s.dlt b q hb; rw [hw]; simp; omega
  · obtain ⟨rfl, rfl⟩ := hone b q hb
    refine ⟨some w.heap.size, hρ, fun blk hb => ?_, ?_⟩
    · cases hb; exact ⟨s.size, by rw [hw]; simp, .inr (Nat.le_refl _)⟩
    · rw [hκ]; exact ho x' w1 evo rfl hnew
  · rw [(hone b q h).1, (hone b' q' h').1]
  · cases hu; exact hv x' w1 hρ hκ
end
end Go.Proofs.YtihhgenbkiollaaGreat

/- The abstract machine, part h: what each operation does is what it says. No condition. -/
namespace Go.Proofs.YtihhgenbkiollaaGreat
open Go Go.RowKit
section
variable {R : Type} {Γ : Gam} {T : Nat → Option AVal} {H : Nat → Option Obj} {me : Nat} {o : Oper} {c : Eff → Option R}
theorem need_bind {α β : Type} (y : Option α) (k : α → Option β) (c : β → Option R) : (need y k).bind c = need y fun a => (k a).bind c := by cases y <;> rfl
theorem cond_bind {β : Type} (b : Bool) (m n : Option β) (c : β → Option R) : (cond b m n).bind c = cond b (m.bind c) (n.bind c) := by cases b <;> rfl
theorem asOne_bind {β : Type} (y : Option AVal) (k : Leaf → Option β) (c : β → Option R) : (asOne y k).bind c = asOne y fun a => (k a).bind c := by unfold asOne; split <;> rfl
theorem asInt_bind {β : Type} (y : Option AVal) (k : IntKind → Int → Option β) (c : β → Option R) : (asInt y k).bind c = asInt y fun a n => (k a n).bind c := by
  unfold asInt; rw [asOne_bind]; congr 1; funext l; split <;> rfl
theorem asV_bind {β : Type} (y : Option AVal) (k : AV → Option β) (c : β → Option R) : (asV y k).bind c = asV y fun a => (k a).bind c := by unfold asV; split <;> rfl
theorem asPtr_bind {β : Type} (y : Option AVal) (k : Loc → Option β) (c : β → Option R) : (asPtr y k).bind c = asPtr y fun a => (k a).bind c := by
  unfold asPtr; rw [asOne_bind]; congr 1; funext l; split <;> rfl
theorem guardB_bind {β : Type} (b : Bool) (m : Option β) (c : β → Option R) : (guardB b m).bind c = guardB b (m.bind c) := by cases b <;> rfl
theorem rdLoc_bind {β : Type} (H : Nat → Option Obj) (p : Loc) (n : Nat) (k : List Leaf → List Nat → Option β) (c : β → Option R) : (rdLoc H p n k).bind c = rdLoc H p n fun a n => (k a n).bind c := by
  unfold rdLoc
  cases p with
  | box b o => dsimp only; split <;> simp only [cond_bind, Option.bind_none]
  | elt q xs i o => simp only [cond_bind, Option.bind_none]
  | arr b q i o =>
    dsimp only
    split
    · split <;> simp only [cond_bind, Option.bind_none]
    · rfl
theorem lenOf_bind {β : Type} (td : TD) (H : Nat → Option Obj) (l : Leaf) (k : Nat → List Nat → Option β) (c : β → Option R) : (lenOf td H l k).bind c = lenOf td H l fun a n => (k a n).bind c := by
  unfold lenOf; split <;> first | rfl | (split <;> rfl)
theorem asElems_bind {β : Type} (H : Nat → Option Obj) (q : Kd) (l : Leaf) (k : List q.C → List Nat → Option β) (c : β → Option R) : (asElems H q l k).bind c = asElems H q l fun a n => (k a n).bind c := by
  unfold asElems; split
  · split
    · split <;> rfl
    · rfl
  · split <;> rfl
theorem buildA_bind {β : Type} (place : Nat → Option (Nat × Nat)) (T : Nat → Option AVal) (k : List Leaf → Option β) (c : β → Option R) : ∀ (ps : List (Nat × Operand)) (z : List Leaf), (buildA z place T k ps).bind c = buildA z place T (fun a => (k a).bind c) ps
  | [], z => rfl
  | (i, y) :: r, z => by
    unfold buildA
    split
    · simp only [cond_bind, Option.bind_none, buildA_bind place T k c r]
    · rfl
theorem lookM_bind {β : Type} (z : AV) (k : AVal → Option β) (y : Int) (c : β → Option R) : ∀ es, (lookM z k y es).bind c = lookM z (fun a => (k a).bind c) y es
  | [] => rfl
  | (n, l) :: r => by simp only [lookM, cond_bind, lookM_bind z k y c r]
theorem intOp_bind {β : Type} (op : BinOp) (k : IntKind) (a b : Int) (m : AVal → Option β) (c : β → Option R) : (intOp op k a b m).bind c = intOp op k a b fun v => (m v).bind c := by
  unfold intOp; split <;> first | rfl | simp only [guardB_bind]
theorem binA_bind {β : Type} (Γ : Gam) (s : Bool) (op : BinOp) (t : TypeId) (y z : AV) (m : AVal → Option β) (c : β → Option R) : (binA Γ s op t y z m).bind c = binA Γ s op t y z fun v => (m v).bind c := by
  unfold binA
  split
  · split
    · simp only [guardB_bind]
    · simp only [guardB_bind]
    · simp only [cond_bind, intOp_bind, Option.bind_none]
  · split <;> rfl
  · split
    · split <;> rfl
    · rfl
  · split
    · split <;> rfl
    · rfl
  · rfl
set_option maxHeartbeats 4000000 in
theorem eff_bind : (eff Γ T H me o some).bind c = eff Γ T H me o c := by
  unfold eff
  dsimp only
  split
  all_goals
    repeat' first
      | rfl
      | (refine congrArg (need _) (funext fun _ => ?_))
      | (refine congrArg (asOne _) (funext fun _ => ?_))
      | (refine congrArg (asInt _) (funext fun _ => funext fun _ => ?_))
      | (refine congrArg (asV _) (funext fun _ => ?_))
      | (refine congrArg (asPtr _) (funext fun _ => ?_))
      | (refine congr (congrArg (cond _) ?_) ?_)
      | (simp only [need_bind, cond_bind, asOne_bind, asInt_bind, asV_bind, asPtr_bind, guardB_bind, rdLoc_bind, lenOf_bind, asElems_bind, buildA_bind, lookM_bind, binA_bind, Option.bind_none, Option.bind_some]; done)
      | (rw [need_bind]) | (rw [cond_bind]) | (rw [asOne_bind]) | (rw [asInt_bind]) | (rw [asV_bind]) | (rw [asPtr_bind]) | (rw [rdLoc_bind]) | (rw [lenOf_bind]) | (rw [asElems_bind]) | (rw [buildA_bind]) | (rw [lookM_bind]) | (rw [binA_bind])
      | (refine congrArg (asElems H _ _) (funext fun _ => funext fun _ => ?_))
      | (dsimp only)
      | split
end
end Go.Proofs.YtihhgenbkiollaaGreat

/- The abstract machine, part i: what each operation does is what it says: values. No condition. -/
namespace Go.Proofs.YtihhgenbkiollaaGreat
open Go Go.RowKit
section
variable {P : Program} {Γ : Gam} {B : Nat} {w0 : World} {N : Nat} {T : Nat → Option AVal} {H : Nat → Option Obj} {x : Cx} {a : Act} {w : World} {me : Nat} {o : Oper}
/-- what an operation with this effect does -/
def OpOk (P : Program) (B : Nat) (w0 : World) (N : Nat) (T : Nat → Option AVal) (H : Nat → Option Obj) (x : Cx) (a : Act) (w : World) (me n : Nat) (o : Oper) (ef : Eff) : Prop :=
  Does P o a w fun a' w' => ∃ x', Post B w0 N (updT T o.dst ef.val) (updH H ef.hp) x w me n x' a' w'
theorem ok_val (s : Sim B w0 N T H x a w) (hd : ∀ d, o.dst = some d → d < N) {v : Value} {u : AVal} {rd : List Nat} (hr : (execOp a.eval o).run P w = .ok (.value v) w) (hv : RV x w v u) :
    OpOk P B w0 N T H x a w me 1 o ⟨some u, [], rd⟩ :=
  does_value hr ⟨x, Post.val s hd (fun _ h => by cases h; exact hv) me 1⟩
theorem ok_move (s : Sim B w0 N T H x a w) (hd : ∀ d, o.dst = some d → d < N) {y : Operand} (ho : o.op = .move y ∨ o.op = .assign y) {u : AVal} (h : opnd T y = some u) : OpOk P B w0 N T H x a w me 1 o ⟨some u, [], []⟩ := by
  refine ok_val s hd (v := a.eval y) ?_ (opnd_ok s h)
  rcases ho with ho | ho <;> simp [execOp, ho]
theorem ok_pick (s : Sim B w0 N T H x a w) (hd : ∀ d, o.dst = some d → d < N) {q y z : Operand} (ho : o.op = .pick q y z) {b : Bool} (hq : opnd T q = some (.l (.bool b))) {u : AVal} (h : opnd T (if b then y else z) = some u) :
    OpOk P B w0 N T H x a w me 1 o ⟨some u, [], []⟩ := by
  have hb := (opnd_ok s hq).leaf.bool
  refine ok_val s hd (v := if b then a.eval y else a.eval z) ?_ ?_
  · simp [execOp, ho, hb, asBool]
  · cases b <;> exact opnd_ok s h
theorem zero_rl {i : TI} {t : TypeId} (ht : TIok P i t) : ∃ z, (∀ w, (zeroValue t).run P w = .ok z w) ∧ z.cells.size = i.sz ∧ (∀ (x : Cx) (w : World), Rs (RL x w) z.cells.toList i.zero) := by
  obtain ⟨z, h1, h2, h3, _⟩ := ht.zero_run
  exact ⟨z, h1, h2, fun x w => (h3 w x.D).mono fun _ _ => RL.of_pl⟩
theorem newRow_run (t : TypeId) (cs : Array Value) (w : World) : (newRow t cs).run P w = .ok ⟨w.heap.size, 0, none⟩ (w.alloc (.cells cs t)) := rfl
theorem no_new (s : Sim B w0 N T H x a w) {x' : Cx} (hD : x'.D = x.D) (q : Nat) : ¬ x'.D w.heap.size q := by
  rw [hD]; intro h; have := s.dlt _ _ h; omega
theorem ok_alloc (hΓ : GamOk P Γ) (s : Sim B w0 N T H x a w) (hd : ∀ d, o.dst = some d → d < N) (hf : x.ρ me = none) {t : TypeId} (ho : o.op = .alloc t) {i : TI} (ht : lk t Γ = some i) :
    OpOk P B w0 N T H x a w me 1 o ⟨some (.l (.ptr (.box me 0))), [(me, some (.cells i.zero))], []⟩ := by
  obtain ⟨z, hz, hs, hr⟩ := zero_rl (hΓ t i ht)
  refine does_value (v := .pointer (some ⟨w.heap.size, 0, none⟩)) (w' := w.alloc (.cells z.cells t)) ?_ ?_
  · simp [execOp, ho, Instr.alloc, hz, newVar, newRow_run]
  · exact Post.new (o := .cells i.zero) (av := .l (.ptr (.box me 0))) (κ := (0, 0)) s hf z.cells t (fun x' w' _ hD hh => ⟨w.heap.size, z.cells, t, rfl, hh, hr x' w', no_new s hD⟩)
      (fun x' w' hρ _ => RL.mk (.inl (.inl ⟨w.heap.size, hρ, rfl⟩))) hd rfl rfl rfl rfl
theorem ok_box (s : Sim B w0 N T H x a w) (hd : ∀ d, o.dst = some d → d < N) (hf : x.ρ me = none) {t : TypeId} {y : Operand} (ho : o.op = .box t y) {u : AV} (hu : opnd T y = some (.v u)) :
    OpOk P B w0 N T H x a w me 1 o ⟨some (.l (.ptr (.box me 0))), [(me, some (.cells u.ls))], []⟩ := by
  have hr := RA.cells (show RA x w _ _ from opnd_ok s hu)
  refine does_value (v := .pointer (some ⟨w.heap.size, 0, none⟩)) (w' := w.alloc (.cells (a.eval y).cells t)) ?_ ?_
  · simp [execOp, ho, Instr.box, newVar, newRow_run]
  · exact Post.new (o := .cells u.ls) (av := .l (.ptr (.box me 0))) (κ := (0, 0)) s hf (a.eval y).cells t (fun x' w' e hD hh => ⟨w.heap.size, _, t, rfl, hh, hr.mono fun _ _ => RL.evo e, no_new s hD⟩)
      (fun x' w' hρ _ => RL.mk (.inl (.inl ⟨w.heap.size, hρ, rfl⟩))) hd rfl rfl rfl rfl

/-! loading -/
theorem cells_of_fn (w : World) (b o n : Nat) (f : Nat → Leaf) (R : Value → Leaf → Prop) (h : ∀ j, j < n → ∃ c, w.cell? ⟨b, o + j, none⟩ = some c ∧ R c (f j)) :
    ∃ cs : List Value, cs.length = n ∧ (∀ (j : Nat) (v : Value), cs[j]? = some v → w.cell? ⟨b, o + j, none⟩ = some v) ∧ Rs R cs ((List.range n).map f) := by
  refine ⟨(List.range n).map fun j => (w.cell? ⟨b, o + j, none⟩).getD undef, by simp, fun j v hv => ?_, Rs.of_get (by simp) fun j v l hv hl => ?_⟩
  · by_cases hj : j < n
    · obtain ⟨c, hc, _⟩ := h j hj
      simp [hj, hc] at hv; rw [hc, hv]
    · simp [hj] at hv
  · by_cases hj : j < n
    · obtain ⟨c, hc, hr⟩ := h j hj
      simp [hj, hc] at hv hl; subst hv; subst hl; exact hr
    · simp [hj] at hv
theorem cut_eq (ls : List Leaf) (o n : Nat) (h : o + n ≤ ls.length) : cutL ls o n = (List.range n).map fun j => ls.getD (o + j) .nils := by
  unfold cutL
  apply List.ext_getElem?
  intro j
  by_cases hj : j < n
  · simp only [List.getElem?_take, hj, if_true, List.getElem?_drop]
    rw [List.getElem?_map, List.getElem?_range hj]
    simp only [Option.map_some, List.getD_eq_getElem?_getD]
    rw [List.getElem?_eq_getElem (by omega)]; rfl
  · simp [hj]; omega
theorem ble_le {a b : Nat} (h : Nat.ble a b = true) : a ≤ b := Nat.le_of_ble_eq_true h
/-- a place's cells -/
theorem rdLoc_ok (s : Sim B w0 N T H x a w) {p : Loc} {v : Value} (hv : RL x w v (.ptr p)) {n : Nat} {R : Type} {k : List Leaf → List Nat → Option R} {r : R} (h : rdLoc H p n k = some r) :
    ∃ ls rd, k ls rd = some r ∧ ls.length = n ∧ ∃ (b q : Nat) (cs : List Value), v = .pointer (some ⟨b, q, none⟩) ∧ cs.length = n ∧ (∀ (j : Nat) (c : Value), cs[j]? = some c → w.cell? ⟨b, q + j, none⟩ = some c) ∧ Rs (RL x w) cs ls := by
  have hv := hv.ptr
  cases p with
  | box b q =>
    simp only [rdLoc] at h
    split at h
    · rename_i ls hb
      obtain ⟨hle, h⟩ := cond_some h
      have hle := ble_le hle
      obtain ⟨blk, h1, rfl⟩ := hv
      obtain ⟨ob, g1, g2, blk', cs, t, g3, g4, g5, g6⟩ := s.heap b _ hb
      have : ob = some blk := by rw [h1] at g1; exact (Option.some.inj g1).symm
      rw [this] at g3; cases g3
      refine ⟨_, _, h, by simp [cutL]; omega, blk, q, (cs.toList.drop q).take n, rfl, ?_, fun j c hc => ?_, (g5.drop q).take n⟩
      · have := g5.length; simp at this ⊢; omega
      · simp only [World.cell?, g4]
        by_cases hj : j < n
        · simpa [List.getElem?_take, hj] using hc
        · simp [List.getElem?_take, hj] at hc
    · cases h
  | elt e xs i q =>
    simp only [rdLoc] at h
    obtain ⟨hle, h⟩ := cond_some h
    have hle := ble_le hle
    obtain ⟨blk, base, rfl, hi, hc⟩ := hv
    obtain ⟨cs, c1, c2, c3⟩ := cells_of_fn w blk (base + q) n (fun j => (elemAt xs i).getD (q + j) .nils) (RL x w) (fun j hj => by
      obtain ⟨c, _, d2, d3⟩ := hc (q + j) (by omega)
      exact ⟨c, by rw [Nat.add_assoc]; exact d2, RL.of_pl d3⟩)
    refine ⟨_, _, h, by simp [cutL, elemAt, Kd.cells_length]; omega, blk, base + q, cs, rfl, c1, c2, ?_⟩
    rw [cut_eq _ _ _ (by simp [elemAt, Kd.cells_length]; exact hle)]; exact c3
  | arr b e i q =>
    simp only [rdLoc] at h
    split at h
    · rename_i q' xs lent hb
      split at h
      · rename_i ys hcast
        obtain ⟨rfl, hxy⟩ := Kd.cast_eq hcast
        subst hxy
        obtain ⟨hle, h⟩ := cond_some h
        have hle := ble_le hle
        obtain ⟨blk, h1, hi, rfl⟩ := hv
        obtain ⟨ob, g1, g2, g3, g4, g5⟩ := s.heap b _ hb
        have hob : ob = some blk := by rw [h1] at g1; exact (Option.some.inj g1).symm
        rcases g5 with ⟨g5, _⟩ | ⟨blk', cells, t, g5, g6, g7, g8, _⟩
        · rw [hob] at g5; cases g5
        · rw [hob] at g5; cases g5
          rw [g3] at hi
          obtain ⟨cs, c1, c2, c3⟩ := cells_of_fn w blk (i * q'.sz + q) n (fun j => (elemAt xs i).getD (q + j) .nils) (RL x w) (fun j hj => by
            obtain ⟨c, d1, d2⟩ := g8 i (q + j) hi (by omega)
            refine ⟨c, ?_, RL.of_pl d2⟩
            simp only [World.cell?, g6]
            rw [Nat.add_assoc]; simpa using d1)
          refine ⟨_, _, h, by simp [cutL, elemAt, Kd.cells_length]; omega, blk, _, cs, rfl, c1, c2, ?_⟩
          rw [cut_eq _ _ _ (by simp [elemAt, Kd.cells_length]; exact hle)]; exact c3
      · cases h
    · cases h
theorem TIok.one {i : TI} {t : TypeId} (h : TIok P i t) (hg : i.agg = false) : i.sz = 1 := by
  obtain ⟨ti, h1, h2, h3, z, h4, h5, h6, h7, h8⟩ := h.info
  rw [← h5, h8 hg]; rfl
theorem ra_of_cells {g : Bool} {cs : List Value} {ls : List Leaf} (h : Rs (RL x w) cs ls) (h1 : g = false → ls.length = 1) : RV x w (if g then .agg cs.toArray else cs.headD undef) (.v ⟨g, ls⟩) := by
  cases g with
  | true => exact ⟨cs, rfl, h⟩
  | false =>
    have := h1 rfl
    match ls, cs, h with
    | [l], [c], h => exact ⟨l, rfl, h.1⟩
    | [], _, _ => simp at this
    | _ :: _ :: _, _, _ => simp at this
    | [_], [], h => exact h.elim
    | [_], _ :: _ :: _, h => exact h.2.elim
theorem ok_load (hΓ : GamOk P Γ) (s : Sim B w0 N T H x a w) (hd : ∀ d, o.dst = some d → d < N) {t : TypeId} {y : Operand} (ho : o.op = .load t y) {i : TI} (ht : lk t Γ = some i) {p : Loc} (hp : opnd T y = some (.l (.ptr p)))
    {ef : Eff} (h : rdLoc H p i.sz (fun ls rd => some (⟨some (.v ⟨i.agg, ls⟩), [], rd⟩ : Eff)) = some ef) : OpOk P B w0 N T H x a w me 1 o ef := by
  obtain ⟨ls, rd, h1, h2, b, q, cs, h3, h4, h5, h6⟩ := rdLoc_ok s (opnd_ok s hp).leaf h
  cases h1
  have ht' := hΓ t i ht
  refine ok_val s hd (v := if i.agg then .agg cs.toArray else cs.headD undef) ?_ (ra_of_cells h6 fun hg => by rw [h2]; exact ht'.one hg)
  simp [execOp, ho, h3, Instr.loadAt, Instr.sureAddr, run_loadVar_cells ht' h5 h4 (fun hg => ht'.one hg)]
end
end Go.Proofs.YtihhgenbkiollaaGreat

/- The abstract machine, part j: stores, parts, numbers. No condition. -/
namespace Go.Proofs.YtihhgenbkiollaaGreat
open Go Go.RowKit
section
variable {P : Program} {Γ : Gam} {B : Nat} {w0 : World} {N : Nat} {T : Nat → Option AVal} {H : Nat → Option Obj} {x : Cx} {a : Act} {w : World} {me : Nat} {o : Oper}
/-- one object's row changed -/
theorem Post.set (s : Sim B w0 N T H x a w) {d : Option Tmp} {b blk : Nat} {o1 o2 : Obj} {old new : Array Value} {t : TypeId} (hb : H b = some o1) (hρ : x.ρ b = some (some blk)) (hh : w.heap[blk]? = some (.cells old t (0, 0)))
    (hD : ∀ q, ¬ x.D blk q) (hn : ∀ w', Evo x w x w' → w'.heap[blk]? = some (.cells new t (0, 0)) → Lies x w' (some blk) (x.κ b) o2) (hd : ∀ d', d = some d' → d' < N) (v : Value) :
    Post B w0 N (updT T d none) (updH H [(b, some o2)]) x w me 1 x (a.put d v) (w.setRow blk new) := by
  obtain ⟨ob, g1, g2, g3⟩ := s.heap b _ hb
  have hob : ob = some blk := by rw [hρ] at g1; exact (Option.some.inj g1).symm
  have hblk := g2 blk hob
  have hsame : ∀ k, k ≠ blk → (w.setRow blk new).heap[k]? = w.heap[k]? := fun k hk => setRow_other w blk k new hk
  have hnew : (w.setRow blk new).heap[blk]? = some (.cells new t (0, 0)) := setRow_heap w blk old new t (0, 0) hh
  have evo : Evo x w x (w.setRow blk new) := by
    refine ⟨fun _ _ h => h, fun _ _ _ => rfl, fun _ _ h => h, fun c q hq => ?_, by simp [World.setRow], fun _ _ _ h => .inl h, fun c _ _ h => ⟨c, h⟩⟩
    exact World.cell?_of_block (w := w) (hsame c (fun e => hD q (e ▸ hq)))
  have hone : ∀ c q, lk c [(b, some o2)] = some (some q) → c = b ∧ q = o2 := by
    intro c q h
    simp only [lk] at h
    cases he : Nat.beq b c with
    | true => rw [he] at h; simp only [cond_true, Option.some.injEq] at h; exact ⟨(Nat.eq_of_beq_eq_true he).symm, h.symm⟩
    | false => rw [he] at h; simp at h
  have hsz : (w.setRow blk new).heap.size = w.heap.size := by simp [World.setRow]
  refine Post.upd s (fun k => k = blk) evo (fun _ _ => rfl) ⟨rfl, rfl, rfl, by rw [hsz]; exact Nat.le_refl _, fun k hk => hsame k (by omega)⟩ (fun c q hq => by rw [hsz]; exact s.dlt c q hq)
    (fun k _ hk => ⟨hsame k hk, fun _ => Iff.rfl⟩) (fun c q hc => ?_) (fun c q k hl hc hk hkb => ?_) (fun c c' q q' k hc hc' _ _ => by rw [(hone c q hc).1, (hone c' q' hc').1]) hd (fun _ h => by cases h)
  · obtain ⟨rfl, rfl⟩ := hone c q hc
    exact ⟨some blk, hρ, fun k hk => by cases hk; exact ⟨hblk.1, by rw [hsz]; exact hblk.2, .inl rfl⟩, hn _ evo hnew⟩
  · subst hkb
    have := s.inj c b q o1 k hc hb hk hρ
    subst this
    simp [lk] at hl
theorem Rs.fill {R : Value → Leaf → Prop} {vs us : List Value} {ls ms : List Leaf} (h : Rs R vs ls) (h' : Rs R us ms) (off : Nat) : Rs R (vs.take off ++ us ++ vs.drop (off + us.length)) (fill ls off ms) := by
  show Rs R _ (ls.take off ++ ms ++ ls.drop (off + ms.length))
  rw [h'.length]
  exact ((h.take off).append h').append (h.drop _)
theorem ok_store_box (hΓ : GamOk P Γ) (s : Sim B w0 N T H x a w) (hd : ∀ d, o.dst = some d → d < N) {t : TypeId} {y z : Operand} (ho : o.op = .store t y z) {i : TI} (ht : lk t Γ = some i) {b off : Nat} (hp : opnd T y = some (.l (.ptr (.box b off))))
    {u : AV} (hu : opnd T z = some (.v u)) (hl : u.ls.length = i.sz) {ls : List Leaf} (hb : H b = some (.cells ls)) (hle : off + i.sz ≤ ls.length) {rd : List Nat} :
    OpOk P B w0 N T H x a w me 1 o ⟨none, [(b, some (.cells (fill ls off u.ls)))], rd⟩ := by
  obtain ⟨blk, hρ, hv⟩ := (opnd_ok s hp).leaf.ptr
  have hr := RA.cells (show RA x w _ _ from opnd_ok s hu)
  obtain ⟨ob, g1, g2, blk', cs, t', g3, g4, g5, g6⟩ := s.heap b _ hb
  have hob : ob = some blk := by rw [hρ] at g1; exact (Option.some.inj g1).symm
  rw [hob] at g3; cases g3
  have hone : ∀ v ∈ (a.eval z).cells.toList, v.oneCell' = true := by
    intro v hv
    obtain ⟨j, hj, rfl⟩ := List.mem_iff_getElem.1 hv
    have hl2 := hr.length
    obtain ⟨v', h1, h2⟩ := hr.get j (u.ls[j]'(by omega)) (by simp)
    rw [List.getElem?_eq_getElem hj] at h1; cases h1; exact h2.one
  have hcs : cs.toList.length = ls.length := g5.length
  have hcl : (a.eval z).cells.toList.length = i.sz := by rw [hr.length, hl]
  have hrun := run_storeCells_at (P := P) blk off t' (a.eval z).cells.toList 0 cs w g4 (by simp at hcs hcl ⊢; omega) hone
  refine does_skip (w' := w.setRow blk (cs.toList.take off ++ (a.eval z).cells.toList ++ cs.toList.drop (off + (a.eval z).cells.toList.length)).toArray) ?_ ⟨x, ?_⟩
  · have hsz : (a.eval z).cells.size = i.sz := by simpa using hcl
    simp only [execOp, ho, Sem.run_bind, Instr.storeAt, hv, Instr.sureAddr, Sem.run_pure, Result.andThen_ok, storeVar, (hΓ t i ht).size_run w, hsz, ne_eq, not_true, if_false]
    simp only [Nat.add_zero] at hrun
    simp [hrun]
  · exact Post.set (o2 := .cells (fill ls off u.ls)) s hb hρ g4 g6 (fun w' e hh => ⟨blk, _, t', rfl, hh, by simpa using (Rs.fill (g5.mono fun _ _ => RL.evo e) (hr.mono fun _ _ => RL.evo e) off), g6⟩) hd undef
end
end Go.Proofs.YtihhgenbkiollaaGreat

/- The abstract machine, part k: fields, indices, numbers. No condition. -/
namespace Go.Proofs.YtihhgenbkiollaaGreat
open Go Go.RowKit
section
variable {P : Program} {Γ : Gam} {B : Nat} {w0 : World} {N : Nat} {T : Nat → Option AVal} {H : Nat → Option Obj} {x : Cx} {a : Act} {w : World} {me : Nat} {o : Oper}
/-- a pointer, some cells on -/
theorem RL.ptr_add {v : Value} {p : Loc} (h : RL x w v (.ptr p)) : ∃ b q, v = .pointer (some ⟨b, q, none⟩) ∧ ∀ n, RL x w (.pointer (some ⟨b, q + n, none⟩)) (.ptr (p.add n)) := by
  have h := h.ptr
  cases p with
  | box b q => obtain ⟨blk, h1, rfl⟩ := h; exact ⟨blk, q, rfl, fun n => .inl (.inl ⟨blk, h1, rfl⟩)⟩
  | elt k xs i q => obtain ⟨blk, base, rfl, h1, h2⟩ := h; exact ⟨blk, base + q, rfl, fun n => .inl (.inl ⟨blk, base, by rw [Nat.add_assoc], h1, h2⟩)⟩
  | arr b k i q => obtain ⟨blk, h1, h2, rfl⟩ := h; exact ⟨blk, i * k.sz + q, rfl, fun n => .inl (.inl ⟨blk, h1, h2, by rw [Nat.add_assoc]⟩)⟩
theorem nthF_ok {fs : List (Nat × TypeId)} {f : Nat} {q : Nat × Nat} (h : nthF Γ fs f = some q) : ∃ t ti, fs[f]? = some (q.1, t) ∧ lk t Γ = some ti ∧ q.2 = ti.sz := by
  unfold nthF at h
  split at h
  · split at h
    · rename_i h1 _ _ h2
      cases h; exact ⟨_, _, h1, h2, rfl⟩
    · cases h
  · cases h
theorem field_of {fields : Array Field} {fs : List (Nat × TypeId)} (h : fields.toList.map (fun f => (f.offset, f.type)) = fs) {f : Nat} {q : Nat} {t : TypeId} (hf : fs[f]? = some (q, t)) :
    ∃ fd, fields[f]? = some fd ∧ fd.offset = q ∧ fd.type = t := by
  subst h
  simp only [List.getElem?_map] at hf
  cases hq : fields.toList[f]? with
  | none => rw [hq] at hf; cases hf
  | some fd =>
    rw [hq] at hf; simp only [Option.map_some, Option.some.injEq, Prod.mk.injEq] at hf
    exact ⟨fd, by simpa using hq, hf.1, hf.2⟩
theorem ok_extract (s : Sim B w0 N T H x a w) (hd : ∀ d, o.dst = some d → d < N) {y : Operand} {j : Nat} (ho : o.op = .extract y j) {vs : List AV} (hp : opnd T y = some (.tup vs)) {u : AV} (hj : vs[j]? = some u) :
    OpOk P B w0 N T H x a w me 1 o ⟨some (.v u), [], []⟩ := by
  obtain ⟨ws, h1, h2⟩ := opnd_ok s hp
  obtain ⟨v, h3, h4⟩ := h2.get j u hj
  refine ok_val s hd (v := v) ?_ h4
  simp [execOp, ho, h1, Instr.extract, h3]
theorem ok_not (s : Sim B w0 N T H x a w) (hd : ∀ d, o.dst = some d → d < N) {t : TypeId} {y : Operand} (ho : o.op = .unOp .not t y) {b : Bool} (hp : opnd T y = some (.l (.bool b))) :
    OpOk P B w0 N T H x a w me 1 o ⟨some (.l (.bool (!b))), [], []⟩ := by
  refine ok_val s hd (v := .bool (!b)) ?_ (RL.mk (.of_pl (.bool _)))
  simp [execOp, ho, (opnd_ok s hp).leaf.bool, Op.unary]
theorem ok_neg (s : Sim B w0 N T H x a w) (hd : ∀ d, o.dst = some d → d < N) {t : TypeId} {y : Operand} (ho : o.op = .unOp .neg t y) {k : IntKind} {n : Int} (hp : opnd T y = some (.l (.int k n))) :
    OpOk P B w0 N T H x a w me 1 o ⟨some (.l (.int k (k.wrap (0 - n)))), [], []⟩ := by
  refine ok_val s hd (v := .int k (k.wrap (0 - n))) ?_ (RL.mk (.of_pl (.int _ _)))
  simp [execOp, ho, (opnd_ok s hp).leaf.int, Op.unary, Op.intArith]
theorem ok_convert (hΓ : GamOk P Γ) (s : Sim B w0 N T H x a w) (hd : ∀ d, o.dst = some d → d < N) {t t' : TypeId} {y : Operand} (ho : o.op = .convert t t' y) {i j : TI} (hi : lk t' Γ = some i) (hj : lk t Γ = some j) {k k' q : IntKind}
    (htd : i.td = .int k) (htd' : j.td = .int k') {n : Int} (hp : opnd T y = some (.l (.int q n))) : OpOk P B w0 N T H x a w me 1 o ⟨some (.l (.int k (k.wrap n))), [], []⟩ := by
  have h1 := (hΓ _ _ hi).und; have h2 := (hΓ _ _ hj).und
  rw [htd] at h1; rw [htd'] at h2
  refine ok_val s hd (v := .int k (k.wrap n)) ?_ (RL.mk (.of_pl (.int _ _)))
  simp [execOp, ho, (opnd_ok s hp).leaf.int, convert, Sem.run_bind, run_underlying h1 w, run_underlying h2 w, Conv.intToInt]
theorem ok_nilCheck (s : Sim B w0 N T H x a w) (hd : ∀ d, o.dst = some d → d < N) {y : Operand} (ho : o.op = .nilCheck y) {l : Leaf} (hp : opnd T y = some (.l l)) (hl : (∃ p, l = .ptr p) ∨ (∃ f, l = .fn f) ∨ (∃ f g b c, l = .clo f g b c)) :
    OpOk P B w0 N T H x a w me 1 o ⟨some (.l l), [], []⟩ := by
  have hv := (opnd_ok s hp).leaf
  refine ok_val s hd (v := a.eval y) ?_ (RL.mk hv)
  rcases hl with ⟨p, rfl⟩ | ⟨f, rfl⟩ | ⟨f, g, b, c, rfl⟩
  · obtain ⟨b, q, h1, _⟩ := hv.ptr_add; simp [execOp, ho, h1]
  · simp [execOp, ho, hv.fn]
  · rcases hv with (h | ⟨_, _, _, _, h, vf, vc, h1, _⟩) | ⟨_, _, _, h, _⟩
    · exact h.elim
    · simp [execOp, ho, h1]
    · cases h
theorem ok_fieldAddr (hΓ : GamOk P Γ) (s : Sim B w0 N T H x a w) (hd : ∀ d, o.dst = some d → d < N) {t : TypeId} {y : Operand} {f : Nat} (ho : o.op = .fieldAddr t y f) {i : TI} (ht : lk t Γ = some i) {fs : List (Nat × TypeId)}
    (htd : i.td = .struct fs) {q : Nat × Nat} (hq : nthF Γ fs f = some q) {p : Loc} (hp : opnd T y = some (.l (.ptr p))) : OpOk P B w0 N T H x a w me 1 o ⟨some (.l (.ptr (p.add q.1))), [], []⟩ := by
  have hu := (hΓ _ _ ht).und
  rw [htd] at hu
  obtain ⟨fields, hu, hfs, _⟩ := hu
  obtain ⟨t', ti, h1, h2, h3⟩ := nthF_ok hq
  obtain ⟨fd, g1, g2, g3⟩ := field_of hfs h1
  obtain ⟨b, n, hv, hadd⟩ := (opnd_ok s hp).leaf.ptr_add
  refine ok_val s hd (v := .pointer (some ⟨b, n + q.1, none⟩)) ?_ (RL.mk (hadd _))
  have hz := (hΓ _ _ h2)
  simp [execOp, ho, hv, Instr.fieldAt, Sem.run_bind, run_underlying hu w, g1, Instr.sureAddr, fieldPlace, g3, hz.size_run w, hz.pos, addr_add, g2]
/-- a part of a row of cells -/
theorem run_part {ti : TI} {t : TypeId} (h : TIok P ti t) {vs : List Value} {ls : List Leaf} (hr : Rs (RL x w) vs ls) {off : Nat} (hl : off + ti.sz ≤ ls.length) :
    ∃ v, (part t vs.toArray off).run P w = .ok v w ∧ RV x w v (.v ⟨ti.agg, cutL ls off ti.sz⟩) := by
  have hlen := hr.length
  have hc : Rs (RL x w) ((vs.drop off).take ti.sz) (cutL ls off ti.sz) := (hr.drop off).take _
  refine ⟨if ti.agg then .agg ((vs.drop off).take ti.sz).toArray else ((vs.drop off).take ti.sz).headD undef, ?_, ra_of_cells hc fun hg => by have := h.one hg; simp [cutL]; omega⟩
  unfold part
  simp only [Sem.run_bind, h.agg_run w, Result.andThen_ok]
  cases hg : ti.agg with
  | true =>
    simp only [if_true, Sem.run_bind, h.size_run w, Result.andThen_ok, Sem.run_pure]
    congr 2
    simp [List.take_drop]
  | false =>
    have h1 := h.one hg
    have ho : off < vs.length := by omega
    simp only [Bool.false_eq_true, if_false, h1]
    simp [ho, List.take_one, List.head?_drop]
theorem ok_field (hΓ : GamOk P Γ) (s : Sim B w0 N T H x a w) (hd : ∀ d, o.dst = some d → d < N) {t : TypeId} {y : Operand} {f : Nat} (ho : o.op = .field t y f) {i : TI} (ht : lk t Γ = some i) {fs : List (Nat × TypeId)}
    (htd : i.td = .struct fs) {off : Nat} {t' : TypeId} (hq : fs[f]? = some (off, t')) {ti : TI} (ht' : lk t' Γ = some ti) {u : AV} (hp : opnd T y = some (.v u)) (hg : u.agg = true) (hl : off + ti.sz ≤ u.ls.length) :
    OpOk P B w0 N T H x a w me 1 o ⟨some (.v ⟨ti.agg, cutL u.ls off ti.sz⟩), [], []⟩ := by
  have hu := (hΓ _ _ ht).und
  rw [htd] at hu
  obtain ⟨fields, hu, hfs, _⟩ := hu
  obtain ⟨fd, g1, g2, g3⟩ := field_of hfs hq
  obtain ⟨g, ls⟩ := u
  cases hg
  obtain ⟨vs, hv, hr⟩ := opnd_ok s hp
  obtain ⟨v, hrun, hv'⟩ := run_part (hΓ _ _ ht') hr hl
  refine ok_val s hd (v := v) ?_ hv'
  simp [execOp, ho, hv, Instr.field, Sem.run_bind, run_underlying hu w, g1, asAgg, g2, g3, hrun]
theorem and_some {p q : Prop} [Decidable p] [Decidable q] (h : (decide p && decide q) = true) : p ∧ q := by simpa using h
theorem ok_indexAddr_array (hΓ : GamOk P Γ) (s : Sim B w0 N T H x a w) (hd : ∀ d, o.dst = some d → d < N) {t : TypeId} {y z : Operand} (ho : o.op = .indexAddr t y z) {i : TI} (ht : lk t Γ = some i) {len : Nat} {e : TypeId}
    (htd : i.td = .array len e) {ei : TI} (he : lk e Γ = some ei) {q : IntKind} {n : Int} (hn : opnd T z = some (.l (.int q n))) {p : Loc} (hp : opnd T y = some (.l (.ptr p))) (hr : 0 ≤ n ∧ n < (len : Int)) :
    OpOk P B w0 N T H x a w me 1 o ⟨some (.l (.ptr (p.add (n.toNat * ei.sz)))), [], []⟩ := by
  have hu := (hΓ _ _ ht).und
  rw [htd] at hu
  obtain ⟨b, m, hv, hadd⟩ := (opnd_ok s hp).leaf.ptr_add
  refine ok_val s hd (v := .pointer (some ⟨b, m + n.toNat * ei.sz, none⟩)) ?_ (RL.mk (hadd _))
  simp [execOp, ho, hv, (opnd_ok s hn).leaf.int, Instr.indexAt, asIntOf, Sem.run_bind, run_underlying hu w, Instr.sureAddr, hr.1, hr.2, (hΓ _ _ he).size_run w, addr_add]
theorem ok_index_array (hΓ : GamOk P Γ) (s : Sim B w0 N T H x a w) (hd : ∀ d, o.dst = some d → d < N) {t : TypeId} {y z : Operand} (ho : o.op = .index t y z) {i : TI} (ht : lk t Γ = some i) {len : Nat} {e : TypeId}
    (htd : i.td = .array len e) {ei : TI} (he : lk e Γ = some ei) {q : IntKind} {n : Int} (hn : opnd T z = some (.l (.int q n))) {u : AV} (hp : opnd T y = some (.v u)) (hg : u.agg = true) (hl : u.ls.length = len * ei.sz) (hr : 0 ≤ n ∧ n < (len : Int)) :
    OpOk P B w0 N T H x a w me 1 o ⟨some (.v ⟨ei.agg, cutL u.ls (n.toNat * ei.sz) ei.sz⟩), [], []⟩ := by
  have hu := (hΓ _ _ ht).und
  rw [htd] at hu
  obtain ⟨g, ls⟩ := u
  cases hg
  obtain ⟨vs, hv, hrs⟩ := opnd_ok s hp
  have hlt : n.toNat + 1 ≤ len := by omega
  have hle : n.toNat * ei.sz + ei.sz ≤ ls.length := by
    have := Nat.mul_le_mul_right ei.sz hlt
    rw [Nat.succ_mul] at this
    simp only at hl; omega
  obtain ⟨v, hrun, hv'⟩ := run_part (hΓ _ _ he) hrs hle
  refine ok_val s hd (v := v) ?_ hv'
  simp [execOp, ho, hv, (opnd_ok s hn).leaf.int, Instr.index, asIntOf, Sem.run_bind, run_underlying hu w, hr.1, hr.2, (hΓ _ _ he).size_run w, hrun]
theorem ok_index_str (hΓ : GamOk P Γ) (s : Sim B w0 N T H x a w) (hd : ∀ d, o.dst = some d → d < N) {t : TypeId} {y z : Operand} (ho : o.op = .index t y z) {i : TI} (ht : lk t Γ = some i)
    (htd : i.td = .str) {q : IntKind} {n : Int} (hn : opnd T z = some (.l (.int q n))) {b : ByteArray} (hp : opnd T y = some (.l (.str b))) (hr : 0 ≤ n ∧ n < (b.size : Int)) :
    OpOk P B w0 N T H x a w me 1 o ⟨some (.l (.int .u8 ((b.data.getD n.toNat 0).toNat : Int))), [], []⟩ := by
  have hu := (hΓ _ _ ht).und
  rw [htd] at hu
  have hlt : n.toNat < b.data.size := by have := hr.2; have : b.data.size = b.size := rfl; omega
  refine ok_val s hd (v := .int .u8 ((b.data.getD n.toNat 0).toNat : Int)) ?_ (RL.mk (.of_pl (.int _ _)))
  have hget : b[n.toNat]? = some (b.data.getD n.toNat 0) := by
    have h2 : n.toNat < b.size := hlt
    rw [getElem?_pos b n.toNat h2]
    simp only [Array.getD, hlt, dif_pos]
    rfl
  simp [execOp, ho, (opnd_ok s hn).leaf.int, (opnd_ok s hp).leaf.str, Instr.index, asIntOf, Sem.run_bind, run_underlying hu w, hr.1, hget]
end
end Go.Proofs.YtihhgenbkiollaaGreat

/- The abstract machine, part l: numbers and comparisons, parts put together. No condition. -/
namespace Go.Proofs.YtihhgenbkiollaaGreat
open Go Go.RowKit
section
variable {P : Program} {Γ : Gam} {B : Nat} {w0 : World} {N : Nat} {T : Nat → Option AVal} {H : Nat → Option Obj} {x : Cx} {a : Act} {w : World} {me : Nat} {o : Oper}
theorem guardB_some {R : Type} {b : Bool} {k : Option R} {r : R} (h : guardB b k = some r) : b = true ∧ k = some r := cond_some h
theorem intOp_ok {op : BinOp} {k : IntKind} {t : TypeId} {m n : Int} {R : Type} {c : AVal → Option R} {r : R} (h : intOp op k m n c = some r) :
    ∃ u, c u = some r ∧ ∃ v, (Go.binOp op t (.int k m) (.int k n)).run P w = .ok v w ∧ RV x w v u := by
  cases op <;> simp only [intOp, reduceCtorEq] at h
  case add => exact ⟨_, h, _, by simp [Go.binOp, Op.intArith], RL.mk (.of_pl (.int _ _))⟩
  case sub => exact ⟨_, h, _, by simp [Go.binOp, Op.intArith], RL.mk (.of_pl (.int _ _))⟩
  case mul => exact ⟨_, h, _, by simp [Go.binOp, Op.intArith], RL.mk (.of_pl (.int _ _))⟩
  case quo =>
    obtain ⟨h0, h⟩ := guardB_some h
    have h0 : n ≠ 0 := by simpa using h0
    exact ⟨_, h, _, by simp [Go.binOp, Op.intDiv, h0], RL.mk (.of_pl (.int _ _))⟩
  case rem =>
    obtain ⟨h0, h⟩ := guardB_some h
    have h0 : n ≠ 0 := by simpa using h0
    exact ⟨_, h, _, by simp [Go.binOp, Op.intDiv, h0], RL.mk (.of_pl (.int _ _))⟩
  case and => exact ⟨_, h, _, by simp [Go.binOp, Op.intBits], RL.mk (.of_pl (.int _ _))⟩
  case or => exact ⟨_, h, _, by simp [Go.binOp, Op.intBits], RL.mk (.of_pl (.int _ _))⟩
  case eql => exact ⟨_, h, .bool (m == n), by simp [Go.binOp, Op.intCmp], RL.mk (.of_pl (.bool _))⟩
  case neq => exact ⟨_, h, .bool (m != n), by simp [Go.binOp, Op.intCmp], RL.mk (.of_pl (.bool _))⟩
  case lss => exact ⟨_, h, .bool (decide (m < n)), by simp [Go.binOp, Op.intCmp], RL.mk (.of_pl (.bool _))⟩
  case leq => exact ⟨_, h, .bool (decide (m ≤ n)), by simp [Go.binOp, Op.intCmp], RL.mk (.of_pl (.bool _))⟩
  case gtr => exact ⟨_, h, .bool (decide (m > n)), by simp [Go.binOp, Op.intCmp], RL.mk (.of_pl (.bool _))⟩
  case geq => exact ⟨_, h, .bool (decide (m ≥ n)), by simp [Go.binOp, Op.intCmp], RL.mk (.of_pl (.bool _))⟩

/-- what leaves that are compared are -/
theorem eqLs_inv {z ls ms : List Leaf} {e : Bool} (h : eqLs z ls ms = some e) : (z = [] ∧ ls = [] ∧ ms = [] ∧ e = true) ∨
    ∃ z1 l m z' ls' ms' e1 e2, z = z1 :: z' ∧ ls = l :: ls' ∧ ms = m :: ms' ∧ eqLs z' ls' ms' = some e2 ∧ e = (e1 && e2) ∧ eqLs [z1] [l] [m] = some e1 ∧
      ((∃ k q a b, z1 = .int k q ∧ l = .int k a ∧ m = .int k b ∧ e1 = (a == b)) ∨ (∃ q a b, z1 = .bool q ∧ l = .bool a ∧ m = .bool b ∧ e1 = (a == b))) := by
  unfold eqLs at h
  split at h
  · cases h; exact .inl ⟨rfl, rfl, rfl, rfl⟩
  · rename_i q q0 z k a r k' b r'
    split at h
    · rename_i hk hr
      cases h
      simp only [Bool.and_eq_true, decide_eq_true_eq] at hk
      obtain ⟨rfl, rfl⟩ := hk
      exact .inr ⟨_, _, _, _, _, _, a == b, _, rfl, rfl, rfl, hr, rfl, by simp [eqLs], .inl ⟨_, _, _, _, rfl, rfl, rfl, rfl⟩⟩
    · cases h
  · split at h
    · rename_i hr
      cases h
      exact .inr ⟨_, _, _, _, _, _, _, _, rfl, rfl, rfl, hr, rfl, by simp [eqLs], .inr ⟨_, _, _, rfl, rfl, rfl, rfl⟩⟩
    · cases h
  · cases h
theorem eqLs_length : ∀ {z ls ms : List Leaf} {e : Bool}, eqLs z ls ms = some e → ls.length = z.length ∧ ms.length = z.length := by
  intro z
  induction z with
  | nil =>
    intro ls ms e h
    rcases eqLs_inv h with ⟨_, rfl, rfl, _⟩ | ⟨_, _, _, _, _, _, _, _, h1, _⟩
    · simp
    · cases h1
  | cons z1 z ih =>
    intro ls ms e h
    rcases eqLs_inv h with ⟨h1, _⟩ | ⟨_, _, _, _, _, _, _, _, h1, rfl, rfl, h2, _⟩
    · cases h1
    · cases h1
      have := ih h2
      simp [this.1, this.2]
theorem eqLs_split (m : Nat) : ∀ {z ls ms : List Leaf} {e : Bool}, eqLs z ls ms = some e → ∃ e1 e2, eqLs (z.take m) (ls.take m) (ms.take m) = some e1 ∧ eqLs (z.drop m) (ls.drop m) (ms.drop m) = some e2 ∧ e = (e1 && e2) := by
  induction m with
  | zero => intro z ls ms e h; exact ⟨true, e, by simp [eqLs], by simpa using h, by simp⟩
  | succ m ih =>
    intro z ls ms e h
    rcases eqLs_inv h with ⟨rfl, rfl, rfl, rfl⟩ | ⟨z1, l, n, z', ls', ms', e1, e2, rfl, rfl, rfl, h2, rfl, h3, h4⟩
    · exact ⟨true, true, by simp [eqLs], by simp [eqLs], rfl⟩
    · obtain ⟨e3, e4, h5, h6, rfl⟩ := ih h2
      refine ⟨e1 && e3, e4, ?_, by simpa using h6, by rw [Bool.and_assoc]⟩
      rcases h4 with ⟨k, q, a, b, rfl, rfl, rfl, rfl⟩ | ⟨q, a, b, rfl, rfl, rfl, rfl⟩ <;> simp [eqLs, h5]
theorem shape_of_eqtB {d : Nat} {t : TypeId} {z : List Leaf} (h : eqtB P d t z = true) :
    (P.underlying t = some .bool ∧ ∃ q, z = [.bool q]) ∨ (∃ k, P.underlying t = some (.int k) ∧ ∃ q, z = [.int k q]) ∨ (∃ d' fs, d = d' + 1 ∧ P.underlying t = some (.struct fs) ∧ P.stoodInHeld t = false ∧ eqfB P (eqtB P d') z fs.toList 0 = true) := by
  cases d with
  | zero => simp [eqtB] at h
  | succ d =>
    simp only [eqtB] at h
    split at h
    · rename_i hu
      split at h
      · exact .inl ⟨hu, _, rfl⟩
      · cases h
    · rename_i k hu
      split at h
      · have := of_decide_eq_true h; subst this; exact .inr (.inl ⟨_, hu, _, rfl⟩)
      · cases h
    · rename_i fs hu
      simp only [Bool.and_eq_true, Bool.not_eq_true'] at h
      exact .inr (.inr ⟨d, fs, rfl, hu, h.1, h.2⟩)
    · cases h
/-- a value of a type that is compared cell by cell -/
def Formed (P : Program) (t : TypeId) (v : Value) (vs : List Value) : Prop := match P.underlying t with | some (.struct _) => v = .agg vs.toArray | _ => vs = [v]
theorem part_formed {d : Nat} {t : TypeId} {z : List Leaf} (h : eqtB P d t z = true) (hz : z.length = P.cellsOf t) {vs : List Value} {off : Nat} (hl : off + P.cellsOf t ≤ vs.length) :
    ∃ v, (part t vs.toArray off).run P w = .ok v w ∧ Formed P t v ((vs.drop off).take (P.cellsOf t)) := by
  rcases shape_of_eqtB h with ⟨hu, q, rfl⟩ | ⟨k, hu, q, rfl⟩ | ⟨d', fs, _, hu, _, _⟩
  · have hn : P.cellsOf t = 1 := by simpa using hz.symm
    have ho : off < vs.length := by omega
    refine ⟨vs[off], by unfold part isAgg; simp [Sem.run_bind, run_underlying hu w, ho], ?_⟩
    unfold Formed
    rw [hu, hn, List.take_one, List.head?_drop, List.getElem?_eq_getElem ho]; rfl
  · have hn : P.cellsOf t = 1 := by simpa using hz.symm
    have ho : off < vs.length := by omega
    refine ⟨vs[off], by unfold part isAgg; simp [Sem.run_bind, run_underlying hu w, ho], ?_⟩
    unfold Formed
    rw [hu, hn, List.take_one, List.head?_drop, List.getElem?_eq_getElem ho]; rfl
  · obtain ⟨i, hi⟩ := info_of_underlying hu
    refine ⟨.agg ((vs.drop off).take (P.cellsOf t)).toArray, ?_, by unfold Formed; rw [hu]⟩
    unfold part isAgg
    simp only [Sem.run_bind, run_underlying hu w, Result.andThen_ok, Sem.run_pure, if_true, run_sizeOf w hi]
    congr 2
    simp [Program.cellsOf, hi, List.take_drop]
theorem eqfB_le {f : TypeId → List Leaf → Bool} {z : List Leaf} : ∀ (fl : List Field) (off : Nat), eqfB P f z fl off = true → off ≤ z.length := by
  intro fl
  induction fl with
  | nil => intro off h; simp only [eqfB, beq_iff_eq] at h; omega
  | cons f fl ih => intro off h; simp only [eqfB, Bool.and_eq_true] at h; have := ih _ h.2; omega
theorem run_eqt (d : Nat) : ∀ {t : TypeId} {z : List Leaf}, eqtB P d t z = true → ∀ {D : Nat}, d ≤ D → ∀ {v u : Value} {vs us : List Value} {ls ms : List Leaf} {e : Bool}, Formed P t v vs → Formed P t u us →
    Rs (RL x w) vs ls → Rs (RL x w) us ms → eqLs z ls ms = some e → (Op.equalIn D t v u).run P w = .ok e w := by
  induction d with
  | zero => intro t z h; simp [eqtB] at h
  | succ d IH =>
    intro t z h D hD v u vs us ls ms e hv hu hvs hus he
    obtain ⟨D, rfl⟩ : ∃ q, D = q + 1 := ⟨D - 1, by omega⟩
    rcases shape_of_eqtB h with ⟨hk, q, rfl⟩ | ⟨k, hk, q, rfl⟩ | ⟨d', fs, hd', hk, hst, hfs⟩
    · have hv' : vs = [v] := by unfold Formed at hv; rw [hk] at hv; exact hv
      have hu' : us = [u] := by unfold Formed at hu; rw [hk] at hu; exact hu
      subst hv'; subst hu'
      rcases eqLs_inv he with ⟨h1, _⟩ | ⟨z1, l, n, z', ls', ms', e1, e2, h1, rfl, rfl, h2, rfl, h3, h4⟩
      · cases h1
      · cases h1
        rcases h4 with ⟨_, _, _, _, h5, _⟩ | ⟨_, p, q, _, rfl, rfl, rfl⟩
        · cases h5
        · rcases eqLs_inv h2 with ⟨_, rfl, rfl, rfl⟩ | ⟨_, _, _, _, _, _, _, _, h6, _⟩
          · rw [hvs.1.bool, hus.1.bool]
            simp [Op.equalIn, Sem.run_bind, run_underlying hk w]
          · cases h6
    · have hv' : vs = [v] := by unfold Formed at hv; rw [hk] at hv; exact hv
      have hu' : us = [u] := by unfold Formed at hu; rw [hk] at hu; exact hu
      subst hv'; subst hu'
      rcases eqLs_inv he with ⟨h1, _⟩ | ⟨z1, l, n, z', ls', ms', e1, e2, h1, rfl, rfl, h2, rfl, h3, h4⟩
      · cases h1
      · cases h1
        rcases h4 with ⟨_, _, p, q, _, rfl, rfl, rfl⟩ | ⟨_, _, _, h5, _⟩
        · rcases eqLs_inv h2 with ⟨_, rfl, rfl, rfl⟩ | ⟨_, _, _, _, _, _, _, _, h6, _⟩
          · rw [hvs.1.int, hus.1.int]
            simp [Op.equalIn, Sem.run_bind, run_underlying hk w]
          · cases h6
        · cases h5
    · cases hd'
      have hv' : v = .agg vs.toArray := by unfold Formed at hv; rw [hk] at hv; exact hv
      have hu' : u = .agg us.toArray := by unfold Formed at hu; rw [hk] at hu; exact hu
      subst hv'; subst hu'
      have hfo : P.fieldsOf t = fs := by simp [Program.fieldsOf, hk]
      rw [run_equalIn_agg w D t _ _ (by rw [hfo]; exact hk) hst, hfo]
      have hlen := eqLs_length he
      have key : ∀ (fl : List Field) (off : Nat) (e : Bool), eqfB P (eqtB P d) z fl off = true → eqLs (z.drop off) (ls.drop off) (ms.drop off) = some e → (Op.eqFields D vs.toArray us.toArray fl).run P w = .ok e w := by
        intro fl
        induction fl with
        | nil =>
          intro off e hf he'
          simp only [eqfB, beq_iff_eq] at hf
          rw [List.drop_of_length_le (by omega), List.drop_of_length_le (by omega), List.drop_of_length_le (by omega)] at he'
          simp only [eqLs, Option.some.injEq] at he'
          subst he'
          simp [Op.eqFields]
        | cons f fl ih =>
          intro off e hf he'
          simp only [eqfB, Bool.and_eq_true, bne_iff_ne, beq_iff_eq] at hf
          obtain ⟨⟨⟨hn1, ho⟩, hty⟩, hrest⟩ := hf
          have hle := eqfB_le _ _ hrest
          have hvl := hvs.length
          have hul := hus.length
          have hzl : ((z.drop off).take (P.cellsOf f.type)).length = P.cellsOf f.type := by simp; omega
          obtain ⟨p, hp, hpf⟩ := part_formed (w := w) hty hzl (vs := vs) (off := off) (by omega)
          obtain ⟨q, hq, hqf⟩ := part_formed (w := w) hty hzl (vs := us) (off := off) (by omega)
          obtain ⟨e1, e2, g1, g2, g3⟩ := eqLs_split (P.cellsOf f.type) he'
          have hr := IH hty (D := D) (by omega) hpf hqf ((hvs.drop off).take _) ((hus.drop off).take _) g1
          rw [List.drop_drop, List.drop_drop, List.drop_drop] at g2
          have hi := ih (off + P.cellsOf f.type) e2 hrest g2
          simp only [Op.eqFields, hn1, ne_eq, not_false_eq_true, if_true, Sem.run_bind, ho, hp, hq, hr, Result.andThen_ok]
          cases e1
          · simp [g3]
          · simp [g3, hi]
      exact key fs.toList 0 e hfs (by simpa using he)
end
end Go.Proofs.YtihhgenbkiollaaGreat

/- The abstract machine, part m: comparisons, parts put together, rows looked at. No condition. -/
namespace Go.Proofs.YtihhgenbkiollaaGreat
open Go Go.RowKit
section
variable {P : Program} {Γ : Gam} {B : Nat} {w0 : World} {N : Nat} {T : Nat → Option AVal} {H : Nat → Option Obj} {x : Cx} {a : Act} {w : World} {me : Nat} {o : Oper}
theorem RL.nilf {v : Value} (h : RL x w v .nilf) : v = .nilFunc := by
  rcases h with (h | ⟨_, _, _, _, h, _⟩) | ⟨_, _, _, h, _⟩
  · cases (h : PL w x.D v _); rfl
  · cases h
  · cases h
theorem RL.nili {v : Value} (h : RL x w v .nili) : v = .nilIface := by
  rcases h with (h | ⟨_, _, _, _, h, _⟩) | ⟨_, _, _, h, _⟩
  · cases (h : PL w x.D v _); rfl
  · cases h
  · cases h
theorem RL.clo {v : Value} {f : FuncId} {g : Bool} {first : List Leaf} {cap : List Loc} (h : RL x w v (.clo f g first cap)) :
    ∃ (vf vc : List Value), v = .func (.func f) (if g then #[.agg vf.toArray] else vf.toArray) vc.toArray ∧ Rs (RL0 x w) vf first ∧ Rs (fun v l => RL0 x w v (.ptr l)) vc cap := by
  rcases h with (h | ⟨_, _, _, _, h, r⟩) | ⟨_, _, _, h, _⟩
  · exact h.elim
  · cases h; exact r
  · cases h
theorem RL.ifc {v : Value} {t : TypeId} {g : Bool} {ls : List Leaf} (h : RL x w v (.ifc t g ls)) :
    ∃ vs : List Value, Rs (RL1 x w) vs ls ∧ v = .iface t (if g then .agg vs.toArray else vs.headD undef) ∧ (g = false → ls.length = 1) := by
  rcases h with (h | ⟨_, _, _, _, h, r⟩) | ⟨_, _, _, h, r⟩
  · exact h.elim
  · cases h
  · cases h; exact r
theorem eq_ifc_nil (d : Nat) {t : TypeId} {ms : Array (String × TypeId)} (h : P.underlying t = some (.interface ms)) : (Op.equalIn (d + 1) t .nilIface .nilIface).run P w = .ok true w := by
  simp only [Op.equalIn, Sem.run_bind, run_underlying h w, Result.andThen_ok, Sem.run_pure]
theorem eq_ifc_held (d : Nat) {t u : TypeId} {v : Value} {ms : Array (String × TypeId)} (h : P.underlying t = some (.interface ms)) : (Op.equalIn (d + 1) t (.iface u v) .nilIface).run P w = .ok false w := by
  simp only [Op.equalIn, Sem.run_bind, run_underlying h w, Result.andThen_ok, Sem.run_pure]
theorem eq_fn_nil (d : Nat) {t : TypeId} {ps rs : Array TypeId} {q : Bool} (h : P.underlying t = some (.func ps rs q)) : (Op.equalIn (d + 1) t .nilFunc .nilFunc).run P w = .ok true w := by
  simp only [Op.equalIn, Sem.run_bind, run_underlying h w, Result.andThen_ok, Sem.run_pure]
theorem eq_fn_held (d : Nat) {t : TypeId} {ps rs : Array TypeId} {q : Bool} {f : Fn} {u v : Array Value} (h : P.underlying t = some (.func ps rs q)) : (Op.equalIn (d + 1) t (.func f u v) .nilFunc).run P w = .ok false w := by
  simp only [Op.equalIn, Sem.run_bind, run_underlying h w, Result.andThen_ok, Sem.run_pure]
theorem ok_binOp (hΓ : GamOk P Γ) (s : Sim B w0 N T H x a w) (hd : ∀ d, o.dst = some d → d < N) {op : BinOp} {t t' : TypeId} {y z : Operand} (ho : o.op = .binOp op t y z t') {u v : AV} (hu : opnd T y = some (.v u)) (hv : opnd T z = some (.v v))
    {ef : Eff} (h : binA Γ (isConstO z) op t u v (fun q => some (⟨some q, [], []⟩ : Eff)) = some ef) : OpOk P B w0 N T H x a w me 1 o ef := by
  have h1 := opnd_ok s hu
  have h2 := opnd_ok s hv
  unfold binA at h
  split at h
  · rename_i k m k' n
    have e1 := h1.leaf.int; have e2 := h2.leaf.int
    have hrun : (execOp a.eval o).run P w = ((Go.binOp op t (.int k m) (.int k' n)).run P w).andThen fun v w => .ok (.value v) w := by
      simp [execOp, ho, e1, e2, eqGuard, Sem.run_bind]
    split at h
    · obtain ⟨h0, h⟩ := guardB_some h
      have h0 := of_decide_eq_true h0
      cases h
      refine ok_val s hd (v := .int k (k.wrap (m * 2 ^ (min n.toNat k.bits)))) ?_ (RL.mk (.of_pl (.int _ _)))
      rw [hrun]; simp [Go.binOp, Op.shift, show ¬ n < 0 by omega]
    · obtain ⟨h0, h⟩ := guardB_some h
      have h0 := of_decide_eq_true h0
      cases h
      refine ok_val s hd (v := .int k (m.fdiv (2 ^ (min n.toNat k.bits)))) ?_ (RL.mk (.of_pl (.int _ _)))
      rw [hrun]; simp [Go.binOp, Op.shift, show ¬ n < 0 by omega]
    · obtain ⟨hk, h3⟩ := cond_some h
      have hk := of_decide_eq_true hk
      subst hk
      obtain ⟨q, hq, v, hr, hv'⟩ := intOp_ok (P := P) (x := x) (w := w) (t := t) h3
      cases hq
      refine ok_val s hd (v := v) ?_ hv'
      rw [hrun, hr]; rfl
  · rename_i m n
    have e1 := h1.leaf.bool; have e2 := h2.leaf.bool
    have key : ∀ i, lk t Γ = some i → i.td = .bool → (Op.equal t (.bool m) (.bool n)).run P w = .ok (m == n) w := by
      intro i ht htd
      have hu := (hΓ _ _ ht).und
      rw [htd] at hu
      exact run_eqt (x := x) 1 (t := t) (z := [.bool false]) (by simp [eqtB, hu]) (D := Op.maxDepth) (by decide) (vs := [.bool m]) (us := [.bool n]) (ls := [.bool m]) (ms := [.bool n]) (by unfold Formed; rw [hu]) (by unfold Formed; rw [hu])
        ⟨RL.of_pl (.bool _), trivial⟩ ⟨RL.of_pl (.bool _), trivial⟩ (by simp [eqLs])
    split at h
    · rename_i hop ht
      have : op = .eql := by cases op <;> simp_all [isCmp]
      subst this
      cases h
      refine ok_val s hd (v := .bool (m == n)) ?_ (RL.mk (.of_pl (.bool _)))
      simp only [execOp, ho, e1, e2, eqGuard, Sem.run_bind, Go.binOp, Sem.run_pure, Result.andThen_ok, Sem.run_ite]
      simp [key _ ht rfl]
    · rename_i hop ht
      have : op = .neq := by cases op <;> simp_all [isCmp]
      subst this
      cases h
      refine ok_val s hd (v := .bool (!(m == n))) ?_ (RL.mk (.of_pl (.bool _)))
      simp only [execOp, ho, e1, e2, eqGuard, Sem.run_bind, Go.binOp, Sem.run_pure, Result.andThen_ok, Sem.run_ite]
      simp [key _ ht rfl]
    · cases h
  · rename_i xs ys
    split at h
    · rename_i sz by_ zz fs ht
      obtain ⟨vs, hvs, hrv⟩ := h1
      obtain ⟨us, hus, hru⟩ := h2
      have hT := hΓ _ _ ht
      obtain ⟨he1, he2⟩ := hT.eqp rfl
      obtain ⟨fields, hfu, _⟩ := hT.und
      have key : ∀ e, eqLs zz xs ys = some e → (Op.equal t (.agg vs.toArray) (.agg us.toArray)).run P w = .ok e w := fun e he =>
        run_eqt 6 he1 (D := Op.maxDepth) (by decide) (by unfold Formed; rw [hfu]) (by unfold Formed; rw [hfu]) hrv hru he
      split at h
      · rename_i e hop he
        have : op = .eql := by cases op <;> simp_all [isCmp]
        subst this
        cases h
        refine ok_val s hd (v := .bool e) ?_ (RL.mk (.of_pl (.bool _)))
        simp [execOp, ho, hvs, hus, eqGuard, Sem.run_bind, Go.binOp, key e he, program, Sem.run, he2]
      · rename_i e hop he
        have : op = .neq := by cases op <;> simp_all [isCmp]
        subst this
        cases h
        refine ok_val s hd (v := .bool (!e)) ?_ (RL.mk (.of_pl (.bool _)))
        simp [execOp, ho, hvs, hus, eqGuard, Sem.run_bind, Go.binOp, key e he, program, Sem.run, he2]
      · cases h
    · cases h
  · rename_i l m _ _
    split at h
    · rename_i i ht
      have key : ∀ e, nilEq (isConstO z) i.td l m = some e → (∀ op, (eqGuard op t y z (a.eval y) (a.eval z)).run P w = .ok () w) ∧ (Op.equal t (a.eval y) (a.eval z)).run P w = .ok e w ∧
          Go.binOp .eql t (a.eval y) (a.eval z) = (do pure (.bool (← Op.equal t (a.eval y) (a.eval z)))) ∧ Go.binOp .neq t (a.eval y) (a.eval z) = (do pure (.bool (!(← Op.equal t (a.eval y) (a.eval z))))) := by
        intro e he
        have hund := (hΓ _ _ ht).und
        have hg : ∀ {v u : Value}, (∀ op, (eqGuard op t y z v u).run P w = .ok () w) → a.eval y = v → a.eval z = u → (Op.equalIn (9999 + 1) t v u).run P w = .ok e w →
            Go.binOp .eql t v u = (do pure (.bool (← Op.equal t v u))) → Go.binOp .neq t v u = (do pure (.bool (!(← Op.equal t v u)))) → (∀ op, (eqGuard op t y z (a.eval y) (a.eval z)).run P w = .ok () w) ∧ (Op.equal t (a.eval y) (a.eval z)).run P w = .ok e w ∧
          Go.binOp .eql t (a.eval y) (a.eval z) = (do pure (.bool (← Op.equal t (a.eval y) (a.eval z)))) ∧ Go.binOp .neq t (a.eval y) (a.eval z) = (do pure (.bool (!(← Op.equal t (a.eval y) (a.eval z))))) := by
          intro v u g1 g2 g3 g4 g5 g6
          subst g2; subst g3
          exact ⟨g1, g4, g5, g6⟩
        unfold nilEq at he
        split at he
        · have htd : i.td = .ifc := by assumption
          obtain ⟨hc, he⟩ := cond_some he
          cases he
          rw [htd] at hund
          obtain ⟨ms, hund⟩ := hund
          obtain ⟨c, rfl⟩ : ∃ c, z = .const c := by cases z <;> simp_all [isConstO]
          refine hg (v := .nilIface) (u := .nilIface) (fun op => ?_) h1.leaf.nili h2.leaf.nili ?_ rfl rfl
          · unfold eqGuard; cases op <;> simp
          · exact eq_ifc_nil 9999 hund
        · have htd : i.td = .fnc := by assumption
          cases he
          rw [htd] at hund
          obtain ⟨ps, rs, q, hund⟩ := hund
          refine hg (v := .func (.func _) #[] #[]) (u := .nilFunc) (fun op => ?_) h1.leaf.fn h2.leaf.nilf ?_ rfl rfl
          · unfold eqGuard; cases op <;> simp
          · exact eq_fn_held 9999 hund
        · have htd : i.td = .fnc := by assumption
          cases he
          rw [htd] at hund
          obtain ⟨ps, rs, q, hund⟩ := hund
          obtain ⟨vf, vc, hv1, _⟩ := h1.leaf.clo
          refine hg (fun op => ?_) hv1 h2.leaf.nilf ?_ rfl rfl
          · unfold eqGuard; cases op <;> simp
          · exact eq_fn_held 9999 hund
        · have htd : i.td = .fnc := by assumption
          cases he
          rw [htd] at hund
          obtain ⟨ps, rs, q, hund⟩ := hund
          refine hg (v := .nilFunc) (u := .nilFunc) (fun op => ?_) h1.leaf.nilf h2.leaf.nilf ?_ rfl rfl
          · unfold eqGuard; cases op <;> simp
          · exact eq_fn_nil 9999 hund
        · have htd : i.td = .ifc := by assumption
          cases he
          rw [htd] at hund
          obtain ⟨ms, hund⟩ := hund
          obtain ⟨vs, _, hv1, _⟩ := h1.leaf.ifc
          refine hg (fun op => ?_) hv1 h2.leaf.nili ?_ rfl rfl
          · unfold eqGuard; cases op <;> simp
          · exact eq_ifc_held 9999 hund
        · cases he
      split at h
      · rename_i e he hop
        have : op = .eql := by cases op <;> simp_all [isCmp]
        subst this
        cases h
        obtain ⟨g1, g2, g3, g4⟩ := key e he
        refine ok_val s hd (v := .bool e) ?_ (RL.mk (.of_pl (.bool _)))
        simp only [execOp, ho, Sem.run_bind, g1, Result.andThen_ok, g3, g2, Sem.run_pure]
      · rename_i e he hop
        have : op = .neq := by cases op <;> simp_all [isCmp]
        subst this
        cases h
        obtain ⟨g1, g2, g3, g4⟩ := key e he
        refine ok_val s hd (v := .bool (!e)) ?_ (RL.mk (.of_pl (.bool _)))
        simp only [execOp, ho, Sem.run_bind, g1, Result.andThen_ok, g4, g2, Sem.run_pure]
      · cases h
    · cases h
  · cases h
end
end Go.Proofs.YtihhgenbkiollaaGreat

/- The abstract machine, part n: composite values, rows looked at. No condition. -/
namespace Go.Proofs.YtihhgenbkiollaaGreat
open Go Go.RowKit
section
variable {P : Program} {Γ : Gam} {B : Nat} {w0 : World} {N : Nat} {T : Nat → Option AVal} {H : Nat → Option Obj} {x : Cx} {a : Act} {w : World} {me : Nat} {o : Oper}
theorem foldl_set' (off : Nat) : ∀ (us A M C : List Value) (k : Nat), A.length = off + k → M.length = us.length →
    ((us.zipIdx k).foldl (fun (cs : Array Value) (c, j) => cs.setIfInBounds (off + j) c) (A ++ M ++ C).toArray) = (A ++ us ++ C).toArray
  | [], A, M, C, k, hA, hM => by
    have : M = [] := List.eq_nil_of_length_eq_zero (by simpa using hM)
    subst this; simp
  | u :: us, A, [], C, k, hA, hM => by simp at hM
  | u :: us, A, m :: M, C, k, hA, hM => by
    simp only [List.zipIdx_cons, List.foldl_cons]
    have hs : ((A ++ m :: M ++ C).toArray.setIfInBounds (off + k) u) = ((A ++ [u]) ++ M ++ C).toArray := by
      rw [← hA]; simp
    rw [hs, foldl_set' off us (A ++ [u]) M C (k + 1) (by simp [hA]; omega) (by simpa using hM)]
    simp
theorem foldl_set (us : List Value) (off : Nat) (zs : List Value) (h : off + us.length ≤ zs.length) :
    ((us.zipIdx 0).foldl (fun (cs : Array Value) (c, j) => cs.setIfInBounds (off + j) c) zs.toArray) = (zs.take off ++ us ++ zs.drop (off + us.length)).toArray := by
  have := foldl_set' off us (zs.take off) ((zs.drop off).take us.length) (zs.drop (off + us.length)) 0 (by simp; omega) (by simp; omega)
  rw [← this]
  congr 2
  rw [List.append_assoc, ← List.drop_drop, List.take_append_drop, List.take_append_drop]
theorem buildA_ok (s : Sim B w0 N T H x a w) {place : Nat → Option (Nat × Nat)} {R : Type} {k : List Leaf → Option R} {r : R} : ∀ (parts : List (Nat × Operand)) (z : List Leaf) (zs : List Value), Rs (RL x w) zs z → buildA z place T k parts = some r →
    ∃ ls cs, k ls = some r ∧ Instr.fill place zs.toArray (parts.map fun (i, y) => (i, a.eval y)) = some (cs : List Value).toArray ∧ Rs (RL x w) cs ls
  | [], z, zs, hz, h => ⟨z, zs, h, rfl, hz⟩
  | (i, y) :: r', z, zs, hz, h => by
    unfold buildA at h
    split at h
    · rename_i off n u hpl hu
      obtain ⟨hc, h⟩ := cond_some h
      simp only [Bool.and_eq_true] at hc
      have h1 : u.ls.length = n := Nat.eq_of_beq_eq_true hc.1
      have h2 : off + n ≤ z.length := ble_le hc.2
      have hr := RA.cells (show RA x w _ _ from opnd_ok s hu)
      have hl := hr.length
      have hzl := hz.length
      obtain ⟨ls, cs, g1, g2, g3⟩ := buildA_ok s r' (fill z off u.ls) _ (Rs.fill hz hr off) h
      refine ⟨ls, cs, g1, ?_, g3⟩
      rw [← g2]
      simp only [List.map_cons, Instr.fill, hpl]
      have hsz : (a.eval y).cells.size = n := by have : (a.eval y).cells.toList.length = n := by rw [hl, h1]
                                                 simpa using this
      rw [if_neg (by simp only [hsz, ne_eq, not_true, false_or]; simp; omega)]
      congr 1
      rw [← foldl_set (a.eval y).cells.toList off zs (by simp at hl ⊢; omega)]
      rw [← Array.foldl_toList]
      congr 1
      simp
    · cases h

theorem fill_congr {p p' : Nat → Option (Nat × Nat)} (hp : ∀ i q, p i = some q → p' i = some q) : ∀ (parts : List (Nat × Value)) (cells cs : Array Value), Instr.fill p cells parts = some cs → Instr.fill p' cells parts = some cs
  | [], cells, cs, h => h
  | (i, v) :: r, cells, cs, h => by
    unfold Instr.fill at h ⊢
    cases hq : p i with
    | none => rw [hq] at h; cases h
    | some q =>
      rw [hq] at h
      rw [hp i q hq]
      dsimp only at h ⊢
      split at h
      · cases h
      · rename_i hc
        rw [if_neg hc]
        exact fill_congr hp r _ _ h
theorem places_of : ∀ (fs : List Field), (∀ f ∈ fs, (P.info? f.type).isSome) → ∃ places, fs.mapM (fun f => (P.info? f.type).map fun i => (f.offset, i.size)) = some places ∧
    ∀ (j : Nat) (f : Field), fs[j]? = some f → places[j]? = some (f.offset, P.cellsOf f.type)
  | [], _ => ⟨[], rfl, fun j f h => by simp at h⟩
  | f :: fs, h => by
    obtain ⟨pl, h1, h2⟩ := places_of fs fun g hg => h g (by simp [hg])
    obtain ⟨i, hi⟩ := Option.isSome_iff_exists.1 (h f (by simp))
    refine ⟨(f.offset, i.size) :: pl, by simp [List.mapM_cons, hi, h1], fun j g hg => ?_⟩
    cases j with
    | zero => simp at hg; subst hg; simp [Program.cellsOf, hi]
    | succ j => simpa using h2 j g (by simpa using hg)
theorem TIok.cellsOf {i : TI} {t : TypeId} (h : TIok P i t) : P.cellsOf t = i.sz := by
  obtain ⟨ti, h1, h2, _⟩ := h.info
  simp [Program.cellsOf, h1, h2]
theorem ok_build_struct (hΓ : GamOk P Γ) (s : Sim B w0 N T H x a w) (hd : ∀ d, o.dst = some d → d < N) {t : TypeId} {parts : Array (Nat × Operand)} (ho : o.op = .build t parts) {i : TI} (ht : lk t Γ = some i) {fs : List (Nat × TypeId)}
    (htd : i.td = .struct fs) {ef : Eff} (h : buildA i.zero (nthF Γ fs) T (fun ls => some (⟨some (.v ⟨true, ls⟩), [], []⟩ : Eff)) parts.toList = some ef) : OpOk P B w0 N T H x a w me 1 o ef := by
  have hT := hΓ _ _ ht
  have hu := hT.und
  rw [htd] at hu
  obtain ⟨fields, hu, hfs, hinf⟩ := hu
  obtain ⟨ti, g1, g2, g3, z, g4, g5, g6, g7, g8⟩ := hT.info
  obtain ⟨ls, cs, h1, h2, h3⟩ := buildA_ok s parts.toList i.zero z.cells.toList ((g6 w x.D).mono fun _ _ => RL.of_pl) h
  cases h1
  obtain ⟨places, p1, p2⟩ := places_of fields.toList hinf
  have hb : P.built t ((parts.map fun (i, y) => (i, a.eval y)).toList) = some cs.toArray := by
    simp only [Program.built, g1, hu, g4, p1]
    rw [Array.toList_map]
    refine fill_congr (fun j q hq => ?_) _ _ _ h2
    obtain ⟨t', ti', e1, e2, e3⟩ := nthF_ok hq
    obtain ⟨fd, f1, f2, f3⟩ := field_of hfs e1
    have := p2 j fd (by simpa using f1)
    obtain ⟨q1, q2⟩ := q
    simp only at e1 e3 f2
    simp only [List.getElem?_toArray, this, f2, f3, (hΓ _ _ e2).cellsOf, e3]
  refine ok_val s hd (v := .agg cs.toArray) ?_ ⟨cs, rfl, h3⟩
  simp only [execOp, ho, Sem.run_bind, run_build w t _ _ hb, Result.andThen_ok, Sem.run_pure]
theorem ok_build_array (hΓ : GamOk P Γ) (s : Sim B w0 N T H x a w) (hd : ∀ d, o.dst = some d → d < N) {t : TypeId} {parts : Array (Nat × Operand)} (ho : o.op = .build t parts) {i : TI} (ht : lk t Γ = some i) {n : Nat} {e : TypeId}
    (htd : i.td = .array n e) {ei : TI} (he : lk e Γ = some ei) {ef : Eff} (h : buildA i.zero (fun j => some (j * ei.sz, ei.sz)) T (fun ls => some (⟨some (.v ⟨true, ls⟩), [], []⟩ : Eff)) parts.toList = some ef) : OpOk P B w0 N T H x a w me 1 o ef := by
  have hT := hΓ _ _ ht
  have hu := hT.und
  rw [htd] at hu
  obtain ⟨ti, g1, g2, g3, z, g4, g5, g6, g7, g8⟩ := hT.info
  obtain ⟨ie, k1, k2, _⟩ := (hΓ _ _ he).info
  obtain ⟨ls, cs, h1, h2, h3⟩ := buildA_ok s parts.toList i.zero z.cells.toList ((g6 w x.D).mono fun _ _ => RL.of_pl) h
  cases h1
  have hb : P.built t ((parts.map fun (i, y) => (i, a.eval y)).toList) = some cs.toArray := by
    simp only [Program.built, g1, hu, g4, k1, k2]
    rw [Array.toList_map]
    exact h2
  refine ok_val s hd (v := .agg cs.toArray) ?_ ⟨cs, rfl, h3⟩
  simp only [execOp, ho, Sem.run_bind, run_build w t _ _ hb, Result.andThen_ok, Sem.run_pure]
end
end Go.Proofs.YtihhgenbkiollaaGreat

/- The abstract machine, part o: rows looked at. No condition. -/
namespace Go.Proofs.YtihhgenbkiollaaGreat
open Go Go.RowKit
section
variable {P : Program} {Γ : Gam} {B : Nat} {w0 : World} {N : Nat} {T : Nat → Option AVal} {H : Nat → Option Obj} {x : Cx} {a : Act} {w : World} {me : Nat} {o : Oper}
theorem RL.asList {v : Value} {l : Leaf} {k : Kd} {xs : List k.C} (h : RL x w v l) (hl : l.asList k = some xs) : PL w x.D v (.list k xs) := by
  have hc := asList_co hl
  cases hc with
  | refl => exact h.list
  | nils => rw [h.nils]; exact PL.co .nils (.nils k)
theorem PL.list_inv {D : Nat → Nat → Prop} {v : Value} {k : Kd} {xs : List k.C} (h : PL w D v (.list k xs)) : ∃ (ad : Option Addr) (cap : Nat) (cs : Nat → Nat → Value), v = .slice ad xs.length cap ∧ xs.length ≤ cap ∧
    (∀ i j, i < xs.length → j < k.sz → ∃ b q, ad = some ⟨b, q, none⟩ ∧ D b (q + i * k.sz + j) ∧ w.cell? ⟨b, q + i * k.sz + j, none⟩ = some (cs i j)) ∧
    (∀ i j, i < xs.length → j < k.sz → PL w D (cs i j) ((k.cells (xs.getD i k.dflt)).getD j .nils)) := by
  cases h with
  | list k xs ad cap hcap cs hs hr => exact ⟨ad, cap, cs, rfl, hcap, hs, hr⟩
theorem ok_indexAddr_list (hΓ : GamOk P Γ) (s : Sim B w0 N T H x a w) (hd : ∀ d, o.dst = some d → d < N) {t : TypeId} {y z : Operand} (ho : o.op = .indexAddr t y z) {i : TI} (ht : lk t Γ = some i) {e : TypeId} {k : Kd}
    (htd : i.td = .slice e k) {ei : TI} (he : lk e Γ = some ei) (hk : k.sz = ei.sz) {q : IntKind} {n : Int} (hn : opnd T z = some (.l (.int q n))) {l : Leaf} (hp : opnd T y = some (.l l)) {xs : List k.C} (hl : l.asList k = some xs)
    (hr : 0 ≤ n ∧ n < (xs.length : Int)) : OpOk P B w0 N T H x a w me 1 o ⟨some (.l (.ptr (.elt k xs n.toNat 0))), [], []⟩ := by
  have hu := (hΓ _ _ ht).und
  rw [htd] at hu
  obtain ⟨ad, cap, cs, hv, _, hs, hrr⟩ := ((opnd_ok s hp).leaf.asList hl).list_inv
  have hi : n.toNat < xs.length := by omega
  obtain ⟨b, q', had, _, _⟩ := hs n.toNat 0 hi k.sz_pos
  refine ok_val s hd (v := .pointer (some ⟨b, (q' + n.toNat * k.sz) + 0, none⟩)) ?_ (RL.mk (.inl (.inl ⟨b, q' + n.toNat * k.sz, rfl, hi, fun j hj => ?_⟩)))
  · simp [execOp, ho, hv, (opnd_ok s hn).leaf.int, Instr.indexAt, asIntOf, Sem.run_bind, run_underlying hu w, had, hr.1, hr.2, (hΓ _ _ he).size_run w, addr_add, hk]
  · obtain ⟨b', q'', had', hD, hc⟩ := hs n.toNat j hi hj
    rw [had] at had'; cases had'
    exact ⟨cs n.toNat j, hD, hc, hrr n.toNat j hi hj⟩
theorem own_row (s : Sim B w0 N T H x a w) {b : Nat} {v : Value} (hv : RL x w v (.own b)) {k : Kd} {xs : List k.C} {lent : Bool} (hb : H b = some (.arr k xs lent)) :
    (∃ ad cap, v = .slice ad xs.length cap) ∧ ∃ ob, x.ρ b = some ob ∧ x.κ b = ((x.κ b).1, (x.κ b).2) ∧ (x.κ b).1 = xs.length ∧ v = .slice (ob.map fun blk => ⟨blk, 0, none⟩) xs.length (x.κ b).2 ∧ Lies x w ob (x.κ b) (.arr k xs lent) ∧ (∀ blk, ob = some blk → B ≤ blk ∧ blk < w.heap.size) := by
  obtain ⟨ob, h1, rfl⟩ := hv.own
  obtain ⟨ob', g1, g2, g3⟩ := s.heap b _ hb
  have : ob' = ob := by rw [h1] at g1; exact (Option.some.inj g1).symm
  subst this
  have hlen := g3.1
  refine ⟨⟨_, _, by rw [hlen]⟩, ob', h1, rfl, hlen, by rw [hlen], g3, g2⟩
theorem ok_indexAddr_own (hΓ : GamOk P Γ) (s : Sim B w0 N T H x a w) (hd : ∀ d, o.dst = some d → d < N) {t : TypeId} {y z : Operand} (ho : o.op = .indexAddr t y z) {i : TI} (ht : lk t Γ = some i) {e : TypeId} {k : Kd}
    (htd : i.td = .slice e k) {ei : TI} (he : lk e Γ = some ei) (hk : k.sz = ei.sz) {q : IntKind} {n : Int} (hn : opnd T z = some (.l (.int q n))) {b : Nat} (hp : opnd T y = some (.l (.own b))) {xs : List k.C} {lent : Bool} (hb : H b = some (.arr k xs lent))
    (hr : 0 ≤ n ∧ n < (xs.length : Int)) {rd : List Nat} : OpOk P B w0 N T H x a w me 1 o ⟨some (.l (.ptr (.arr b k n.toNat 0))), [], rd⟩ := by
  have hu := (hΓ _ _ ht).und
  rw [htd] at hu
  obtain ⟨_, ob, h1, _, h2, h3, h4, h5⟩ := own_row s (opnd_ok s hp).leaf hb
  have hi : n.toNat < xs.length := by omega
  obtain ⟨g1, g2, g3⟩ := h4
  rcases g3 with ⟨_, g4⟩ | ⟨blk, cs, t', g4, _⟩
  · rw [g4] at g1; simp at g1; omega
  · subst g4
    refine ok_val s hd (v := .pointer (some ⟨blk, n.toNat * k.sz + 0, none⟩)) ?_ (RL.mk (.inl (.inl ⟨blk, h1, by rw [h2]; exact hi, rfl⟩)))
    simp [execOp, ho, h3, (opnd_ok s hn).leaf.int, Instr.indexAt, asIntOf, Sem.run_bind, run_underlying hu w, hr.1, hr.2, (hΓ _ _ he).size_run w, addr_add, hk]
theorem ok_len (hΓ : GamOk P Γ) (s : Sim B w0 N T H x a w) (hd : ∀ d, o.dst = some d → d < N) {y : Operand} {args : Array Operand} {ts : Array TypeId} (ho : o.op = .call { callee := .builtin .len, args := args, argTypes := ts }) (ha : args.toList = [y])
    {t : TypeId} (hts : ts[0]? = some t) {i : TI} (ht : lk t Γ = some i) {l : Leaf} (hp : opnd T y = some (.l l)) {ef : Eff} (h : lenOf i.td H l (fun n rd => some (⟨some (.l (.int .i64 n)), [], rd⟩ : Eff)) = some ef) :
    OpOk P B w0 N T H x a w me 1 o ef := by
  have hu := (hΓ _ _ ht).und
  have hv := (opnd_ok s hp).leaf
  obtain rfl : args = #[y] := by apply Array.ext'; simpa using ha
  have fin : ∀ (n : Nat) (v : Value), a.eval y = v → (Builtin.len_ ts 0 #[v]).run P w = .ok (goInt n) w → ∀ rd, OpOk P B w0 N T H x a w me 1 o ⟨some (.l (.int .i64 n)), [], rd⟩ := by
    intro n v h1 h2 rd
    subst h1
    refine ok_val s hd (v := goInt n) ?_ (RL.mk (.of_pl (.int _ _)))
    have h3 : (Builtin.len_ ts o.type #[a.eval y]).run P w = .ok (goInt n) w := h2
    simp [execOp, ho, resolve, Sem.run_bind, invoke, Go.builtin, h3]
  unfold lenOf at h
  split at h
  · rename_i e k htd
    rw [htd] at hu; cases h
    exact fin 0 _ hv.nils (by simp [Builtin.len_, hts, Sem.run_bind, run_underlying hu w]) _
  · rename_i e k q xs htd
    rw [htd] at hu; cases h
    obtain ⟨ad, cap, cs, h1, _⟩ := hv.list.list_inv
    exact fin _ _ h1 (by simp [Builtin.len_, hts, Sem.run_bind, run_underlying hu w]) _
  · rename_i e k b htd
    rw [htd] at hu
    split at h
    · rename_i q xs lent hb
      cases h
      obtain ⟨⟨ad, cap, h1⟩, _⟩ := own_row s hv hb
      exact fin _ _ h1 (by simp [Builtin.len_, hts, Sem.run_bind, run_underlying hu w]) _
    · cases h
  · rename_i b htd
    rw [htd] at hu; cases h
    exact fin _ _ hv.str (by simp [Builtin.len_, hts, Sem.run_bind, run_underlying hu w]) _
  · cases h
/-- a bound of a slice -/
theorem bound_run {y : Operand} {q : IntKind} {n : Int} (h : a.eval y = .int q n) {m : Nat} {c : BoundsCode} (h1 : 0 ≤ n) (h2 : n ≤ (m : Int)) : (Instr.sliceBound (a.eval y) m c).run P w = .ok n.toNat w := by
  simp [Instr.sliceBound, h, asIntOf, Sem.run_bind, h1, h2]
/-- an optional bound -/
theorem optInt {R : Type} {y : Option Operand} {dflt : Int} {q : Int → Option R} {r : R} (s : Sim B w0 N T H x a w) (h : (match y with | some y => asInt (opnd T y) fun _ n => q n | none => q dflt) = some r) :
    ∃ n, q n = some r ∧ ((y = none ∧ n = dflt) ∨ ∃ z k, y = some z ∧ a.eval z = .int k n) := by
  cases y with
  | none => exact ⟨_, h, .inl ⟨rfl, rfl⟩⟩
  | some z =>
    obtain ⟨k, n, h1, h2⟩ := asInt_some h
    exact ⟨n, h2, .inr ⟨z, k, rfl, (opnd_ok s h1).leaf.int⟩⟩
theorem bounds_run {lo hi : Option Operand} {len cap : Nat} {b : Bool} {m n : Int} (hlo : (lo = none ∧ m = 0) ∨ ∃ z k, lo = some z ∧ a.eval z = .int k m) (hhi : (hi = none ∧ n = (len : Int)) ∨ ∃ z k, hi = some z ∧ a.eval z = .int k n)
    (h0 : 0 ≤ m) (h1 : m ≤ n) (h2 : n ≤ (len : Int)) (hc : len ≤ cap) : (Instr.sliceBounds b len cap (lo.map a.eval) (hi.map a.eval) none).run P w = .ok (m.toNat, n.toNat, cap) w := by
  unfold Instr.sliceBounds
  rcases hlo with ⟨rfl, rfl⟩ | ⟨z, k, rfl, hz⟩ <;> rcases hhi with ⟨rfl, rfl⟩ | ⟨z', k', rfl, hz'⟩
  · simp [Sem.run_bind]
  · simp [Sem.run_bind, bound_run (P := P) (w := w) hz' (m := cap) (c := if b then .sliceAcap else .sliceAlen) (by omega) (by omega)]
  · have := bound_run (P := P) (w := w) hz (m := len) (c := .sliceB) h0 (by omega)
    simp [Sem.run_bind, this]
  · have := bound_run (P := P) (w := w) hz (m := n.toNat) (c := .sliceB) h0 (by omega)
    simp [Sem.run_bind, bound_run (P := P) (w := w) hz' (m := cap) (c := if b then .sliceAcap else .sliceAlen) (by omega) (by omega), this]
theorem and3 {p q r : Prop} [Decidable p] [Decidable q] [Decidable r] (h : (decide p && decide q && decide r) = true) : p ∧ q ∧ r := by simpa [and_assoc] using h
theorem ok_slice_str (hΓ : GamOk P Γ) (s : Sim B w0 N T H x a w) (hd : ∀ d, o.dst = some d → d < N) {t : TypeId} {y : Operand} {lo hi : Option Operand} (ho : o.op = .slice t y lo hi none) {i : TI} (ht : lk t Γ = some i)
    (htd : i.td = .str) {b : ByteArray} (hp : opnd T y = some (.l (.str b))) {m n : Int} (hlo : (lo = none ∧ m = 0) ∨ ∃ z k, lo = some z ∧ a.eval z = .int k m) (hhi : (hi = none ∧ n = (b.size : Int)) ∨ ∃ z k, hi = some z ∧ a.eval z = .int k n)
    (hr : 0 ≤ m ∧ m ≤ n ∧ n ≤ (b.size : Int)) : OpOk P B w0 N T H x a w me 1 o ⟨some (.l (.str (b.extract m.toNat n.toNat))), [], []⟩ := by
  have hu := (hΓ _ _ ht).und
  rw [htd] at hu
  refine ok_val s hd (v := .string (b.extract m.toNat n.toNat)) ?_ (RL.mk (.of_pl (.str _)))
  have hb := bounds_run (P := P) (w := w) (b := false) (cap := b.size) hlo hhi hr.1 hr.2.1 hr.2.2 (Nat.le_refl _)
  simp [execOp, ho, (opnd_ok s hp).leaf.str, Instr.sliceAt, Instr.slice, Sem.run_bind, run_underlying hu w, hb]
theorem ok_slice_list (hΓ : GamOk P Γ) (s : Sim B w0 N T H x a w) (hd : ∀ d, o.dst = some d → d < N) {t : TypeId} {y : Operand} {lo hi : Option Operand} (ho : o.op = .slice t y lo hi none) {i : TI} (ht : lk t Γ = some i) {e : TypeId} {k : Kd}
    (htd : i.td = .slice e k) {ei : TI} (he : lk e Γ = some ei) (hk : k.sz = ei.sz) {l : Leaf} (hp : opnd T y = some (.l l)) {xs : List k.C} (hl : l.asList k = some xs) {m n : Int} (hlo : (lo = none ∧ m = 0) ∨ ∃ z q, lo = some z ∧ a.eval z = .int q m)
    (hhi : (hi = none ∧ n = (xs.length : Int)) ∨ ∃ z q, hi = some z ∧ a.eval z = .int q n) (hr : 0 ≤ m ∧ m ≤ n ∧ n ≤ (xs.length : Int)) :
    OpOk P B w0 N T H x a w me 1 o ⟨some (.l (.list k ((xs.take n.toNat).drop m.toNat))), [], []⟩ := by
  have hu := (hΓ _ _ ht).und
  rw [htd] at hu
  obtain ⟨ad, cap, cs, hv, hcap, hs, hrr⟩ := ((opnd_ok s hp).leaf.asList hl).list_inv
  have hb := bounds_run (P := P) (w := w) (b := true) (cap := cap) hlo hhi hr.1 hr.2.1 hr.2.2 hcap
  have hlen : ((xs.take n.toNat).drop m.toNat).length = n.toNat - m.toNat := by simp; omega
  have hpl := PL.list (w := w) (D := x.D) k ((xs.take n.toNat).drop m.toNat) (if cap = m.toNat then ad else ad.map (·.add (m.toNat * k.sz))) (cap - m.toNat) (by rw [hlen]; omega) (fun i j => cs (m.toNat + i) j)
    (fun i j hi hj => by
      rw [hlen] at hi
      obtain ⟨b, q, h1, h2, h3⟩ := hs (m.toNat + i) j (by omega) hj
      have he : q + m.toNat * k.sz + i * k.sz + j = q + (m.toNat + i) * k.sz + j := by rw [Nat.add_mul]; omega
      refine ⟨b, q + m.toNat * k.sz, ?_, by rw [he]; exact h2, by rw [he]; exact h3⟩
      rw [if_neg (by omega), h1]; simp [addr_add])
    (fun i j hi hj => by
      rw [hlen] at hi
      have := hrr (m.toNat + i) j (by omega) hj
      have he : ((xs.take n.toNat).drop m.toNat).getD i k.dflt = xs.getD (m.toNat + i) k.dflt := by
        simp only [List.getD_eq_getElem?_getD, List.getElem?_drop, List.getElem?_take]
        rw [if_pos (by omega)]
      rw [he]; exact this)
  rw [hlen] at hpl
  refine ok_val s hd (v := _) ?_ (RL.mk (.of_pl hpl))
  simp [execOp, ho, hv, Instr.sliceAt, Instr.slice, Sem.run_bind, run_underlying hu w, hb, (hΓ _ _ he).size_run w, hk]
end
end Go.Proofs.YtihhgenbkiollaaGreat

/- The abstract machine, part p: function values, interface values, greatest and least. No condition. -/
namespace Go.Proofs.YtihhgenbkiollaaGreat
open Go Go.RowKit
section
variable {P : Program} {Γ : Gam} {B : Nat} {w0 : World} {N : Nat} {T : Nat → Option AVal} {H : Nat → Option Obj} {x : Cx} {a : Act} {w : World} {me : Nat} {o : Oper}
theorem RL.bare {v : Value} {l : Leaf} (h : RL x w v l) (hf : flat l = true) : RL0 x w v l := by
  rcases h with (h | ⟨_, _, _, _, rfl, _⟩) | ⟨_, _, _, rfl, _⟩
  · exact h
  · cases hf
  · cases hf
theorem arr_map (f : Operand → Value) (c : Array Operand) : c.map f = (c.toList.map f).toArray := by apply Array.ext'; simp
theorem caps_ok (s : Sim B w0 N T H x a w) : ∀ (cap : List Operand) (ps : List Loc), cap.foldr (fun y r => match opnd T y, r with | some (.v ⟨false, [.ptr p]⟩), some r => some (p :: r) | _, _ => none) (some []) = some ps →
    Rs (fun v l => RL0 x w v (.ptr l)) (cap.map a.eval) ps
  | [], ps, h => by cases h; trivial
  | y :: r, ps, h => by
    simp only [List.foldr_cons] at h
    split at h
    · rename_i p ps' h1 h2
      cases h
      exact ⟨(opnd_ok s h1).leaf.ptr, caps_ok s r ps' h2⟩
    · cases h
theorem ok_makeFunc_bare (s : Sim B w0 N T H x a w) (hd : ∀ d, o.dst = some d → d < N) {f : FuncId} {first cap : Array Operand} (ho : o.op = .makeFunc (.func f) first cap) (hf : first.toList = []) {ps : List Loc}
    (hc : cap.toList.foldr (fun y r => match opnd T y, r with | some (.v ⟨false, [.ptr p]⟩), some r => some (p :: r) | _, _ => none) (some []) = some ps) : OpOk P B w0 N T H x a w me 1 o ⟨some (.l (.clo f false [] ps)), [], []⟩ := by
  obtain rfl : first = #[] := by apply Array.ext'; simpa using hf
  refine ok_val s hd (v := .func (.func f) #[] (cap.map a.eval)) ?_ (RL.mk (.inl (.inr ⟨f, false, [], ps, rfl, [], (cap.map a.eval).toList, ?_, trivial, ?_⟩)))
  · simp [execOp, ho, Instr.makeFunc]
  · simp [arr_map]
  · rw [Array.toList_map]; exact caps_ok s _ _ hc
theorem RA.bare {v : Value} {u : AV} (h : RA x w v u) (hf : u.ls.all flat = true) : ∃ vs : List Value, Rs (RL0 x w) vs u.ls ∧ ((u.agg = true ∧ v = .agg vs.toArray) ∨ (u.agg = false ∧ vs = [v] ∧ u.ls.length = 1)) := by
  obtain ⟨g, ls⟩ := u
  cases g with
  | true =>
    obtain ⟨vs, h1, h2⟩ := h
    refine ⟨vs, Rs.of_get h2.length fun j v l hv hl => ?_, .inl ⟨rfl, h1⟩⟩
    obtain ⟨v', g1, g2⟩ := h2.get j l hl
    rw [hv] at g1; cases g1
    exact g2.bare (List.all_eq_true.1 hf l (List.mem_of_getElem? hl))
  | false =>
    obtain ⟨l, h1, h2⟩ := h
    subst h1
    exact ⟨[v], ⟨h2.bare (by simpa using hf), trivial⟩, .inr ⟨rfl, rfl, rfl⟩⟩
theorem ok_makeFunc_recv (s : Sim B w0 N T H x a w) (hd : ∀ d, o.dst = some d → d < N) {f : FuncId} {first cap : Array Operand} (ho : o.op = .makeFunc (.func f) first cap) {y : Operand} (hf : first.toList = [y]) {u : AV} (hu : opnd T y = some (.v u))
    (hfl : u.ls.all flat = true) {ps : List Loc} (hc : cap.toList.foldr (fun y r => match opnd T y, r with | some (.v ⟨false, [.ptr p]⟩), some r => some (p :: r) | _, _ => none) (some []) = some ps) :
    OpOk P B w0 N T H x a w me 1 o ⟨some (.l (.clo f u.agg u.ls ps)), [], []⟩ := by
  obtain rfl : first = #[y] := by apply Array.ext'; simpa using hf
  obtain ⟨vs, h1, h2⟩ := RA.bare (show RA x w _ _ from opnd_ok s hu) hfl
  refine ok_val s hd (v := .func (.func f) #[a.eval y] (cap.map a.eval)) ?_ (RL.mk (.inl (.inr ⟨f, u.agg, u.ls, ps, rfl, vs, (cap.map a.eval).toList, ?_, h1, ?_⟩)))
  · simp [execOp, ho, Instr.makeFunc]
  · rcases h2 with ⟨hg, hv⟩ | ⟨hg, hv, _⟩
    · simp [hg, hv, arr_map]
    · simp [hg, hv, arr_map]
  · rw [Array.toList_map]; exact caps_ok s _ _ hc
theorem RA.unheld {v : Value} {u : AV} (h : RA x w v u) (hf : u.ls.all flat1 = true) : ∃ vs : List Value, Rs (RL1 x w) vs u.ls ∧ v = (if u.agg then .agg vs.toArray else vs.headD undef) ∧ (u.agg = false → u.ls.length = 1) := by
  have key : ∀ {v : Value} {l : Leaf}, RL x w v l → flat1 l = true → RL1 x w v l := by
    intro v l h hl
    rcases h with h | ⟨_, _, _, rfl, _⟩
    · exact h
    · cases hl
  obtain ⟨g, ls⟩ := u
  cases g with
  | true =>
    obtain ⟨vs, h1, h2⟩ := h
    refine ⟨vs, Rs.of_get h2.length fun j v l hv hl => ?_, h1, fun h => by cases h⟩
    obtain ⟨v', g1, g2⟩ := h2.get j l hl
    rw [hv] at g1; cases g1
    exact key g2 (List.all_eq_true.1 hf l (List.mem_of_getElem? hl))
  | false =>
    obtain ⟨l, h1, h2⟩ := h
    subst h1
    exact ⟨[v], ⟨key h2 (by simpa using hf), trivial⟩, rfl, fun _ => rfl⟩
theorem ok_makeInterface (hΓ : GamOk P Γ) (s : Sim B w0 N T H x a w) (hd : ∀ d, o.dst = some d → d < N) {t : TypeId} {y : Operand} (ho : o.op = .makeInterface t y) {i : TI} (ht : lk t Γ = some i) (htd : i.td = .fnc ∨ ∃ fs, i.td = .struct fs)
    {u : AV} (hu : opnd T y = some (.v u)) (hf : u.ls.all flat1 = true) : OpOk P B w0 N T H x a w me 1 o ⟨some (.l (.ifc t u.agg u.ls)), [], []⟩ := by
  have hund := (hΓ _ _ ht).und
  obtain ⟨vs, h1, h2, h3⟩ := RA.unheld (show RA x w _ _ from opnd_ok s hu) hf
  refine ok_val s hd (v := .iface t (a.eval y)) ?_ (RL.mk (.inr ⟨t, u.agg, u.ls, rfl, vs, h1, by rw [h2], h3⟩))
  rcases htd with htd | ⟨fs, htd⟩ <;> rw [htd] at hund
  · obtain ⟨ps, rs, q, hund⟩ := hund
    simp [execOp, ho, Instr.makeInterface, Sem.run_bind, run_underlying hund w]
  · obtain ⟨fields, hund, _⟩ := hund
    simp [execOp, ho, Instr.makeInterface, Sem.run_bind, run_underlying hund w]
theorem ra_of_ifc {vs : List Value} {g : Bool} {ls : List Leaf} (h : Rs (RL1 x w) vs ls) (h1 : g = false → ls.length = 1) : RA x w (if g then .agg vs.toArray else vs.headD undef) ⟨g, ls⟩ :=
  ra_of_cells (h.mono fun _ _ h => .inl h) h1
theorem ok_assert_ok (hΓ : GamOk P Γ) (s : Sim B w0 N T H x a w) (hd : ∀ d, o.dst = some d → d < N) {t t' want : TypeId} {y : Operand} (ho : o.op = .typeAssert y t' want true) {i : TI} (ht : lk want Γ = some i) (htd : i.td = .fnc ∨ ∃ fs, i.td = .struct fs) {g : Bool} {ls : List Leaf}
    (hu : opnd T y = some (.l (.ifc t g ls))) (he : t = want) : OpOk P B w0 N T H x a w me 1 o ⟨some (.tup [⟨g, ls⟩, ⟨false, [.bool true]⟩]), [], []⟩ := by
  have hund := (hΓ _ _ ht).und
  obtain ⟨vs, h1, h2, h3⟩ := (opnd_ok s hu).leaf.ifc
  subst he
  refine ok_val s hd (v := .tuple #[if g then .agg vs.toArray else vs.headD undef, .bool true]) ?_ ⟨[_, _], rfl, ra_of_ifc h1 h3, ⟨_, rfl, .of_pl (.bool _)⟩, trivial⟩
  rcases htd with htd | ⟨fs, htd⟩ <;> rw [htd] at hund
  · obtain ⟨ps, rs, q, hund⟩ := hund
    simp [execOp, ho, h2, Instr.typeAssert, Sem.run_bind, run_underlying hund w]
  · obtain ⟨fields, hund, _⟩ := hund
    simp [execOp, ho, h2, Instr.typeAssert, Sem.run_bind, run_underlying hund w]
theorem ok_assert_no (hΓ : GamOk P Γ) (s : Sim B w0 N T H x a w) (hd : ∀ d, o.dst = some d → d < N) {t t' want : TypeId} {y : Operand} (ho : o.op = .typeAssert y t' want true) {i : TI} (ht : lk want Γ = some i) (htd : i.td = .fnc ∨ ∃ fs, i.td = .struct fs) {g : Bool} {ls : List Leaf}
    (hu : opnd T y = some (.l (.ifc t g ls))) (he : t ≠ want) : OpOk P B w0 N T H x a w me 1 o ⟨some (.tup [⟨i.agg, i.zero⟩, ⟨false, [.bool false]⟩]), [], []⟩ := by
  have hT := hΓ _ _ ht
  have hund := hT.und
  obtain ⟨vs, h1, h2, h3⟩ := (opnd_ok s hu).leaf.ifc
  obtain ⟨z, z1, z2, z3, z4, z5⟩ := hT.zero_run
  have hz : RA x w z ⟨i.agg, i.zero⟩ := by
    cases hg : i.agg with
    | true => exact ⟨z.cells.toList, by rw [z4 hg]; simp [Value.cells], (z3 w x.D).mono fun _ _ => RL.of_pl⟩
    | false =>
      have h4 := z3 w x.D
      rw [z5 hg] at h4
      cases hzr : i.zero with
      | nil => rw [hzr] at h4; exact h4.elim
      | cons l r =>
        rw [hzr] at h4
        cases r with
        | nil => exact ⟨l, rfl, RL.of_pl h4.1⟩
        | cons => exact h4.2.elim
  refine ok_val s hd (v := .tuple #[z, .bool false]) ?_ ⟨[_, _], rfl, hz, ⟨_, rfl, .of_pl (.bool _)⟩, trivial⟩
  rcases htd with htd | ⟨fs, htd⟩ <;> rw [htd] at hund
  · obtain ⟨ps, rs, q, hund⟩ := hund
    simp [execOp, ho, h2, Instr.typeAssert, Sem.run_bind, run_underlying hund w, he, z1]
  · obtain ⟨fields, hund, _⟩ := hund
    simp [execOp, ho, h2, Instr.typeAssert, Sem.run_bind, run_underlying hund w, he, z1]
theorem ok_assert_bare (hΓ : GamOk P Γ) (s : Sim B w0 N T H x a w) (hd : ∀ d, o.dst = some d → d < N) {t t' want : TypeId} {y : Operand} (ho : o.op = .typeAssert y t' want false) {i : TI} (ht : lk want Γ = some i) (htd : i.td = .fnc ∨ ∃ fs, i.td = .struct fs) {g : Bool} {ls : List Leaf}
    (hu : opnd T y = some (.l (.ifc t g ls))) (he : t = want) : OpOk P B w0 N T H x a w me 1 o ⟨some (.v ⟨g, ls⟩), [], []⟩ := by
  have hund := (hΓ _ _ ht).und
  obtain ⟨vs, h1, h2, h3⟩ := (opnd_ok s hu).leaf.ifc
  subst he
  refine ok_val s hd (v := if g then .agg vs.toArray else vs.headD undef) ?_ (ra_of_ifc h1 h3)
  rcases htd with htd | ⟨fs, htd⟩ <;> rw [htd] at hund
  · obtain ⟨ps, rs, q, hund⟩ := hund
    simp [execOp, ho, h2, Instr.typeAssert, Sem.run_bind, run_underlying hund w]
  · obtain ⟨fields, hund, _⟩ := hund
    simp [execOp, ho, h2, Instr.typeAssert, Sem.run_bind, run_underlying hund w]
end
end Go.Proofs.YtihhgenbkiollaaGreat

/- The abstract machine, part q: rows that are lent, made, grown. No condition. -/
namespace Go.Proofs.YtihhgenbkiollaaGreat
open Go Go.RowKit
section
variable {P : Program} {Γ : Gam} {B : Nat} {w0 : World} {N : Nat} {T : Nat → Option AVal} {H : Nat → Option Obj} {x : Cx} {a : Act} {w : World} {me : Nat} {o : Oper}
theorem updT_none (T : Nat → Option AVal) (v : Option AVal) : updT T none v = T := by funext t; simp [updT]
theorem lk_one {α : Type} {b c : Nat} {y q : α} (h : lk c [(b, y)] = some q) : c = b ∧ q = y := by
  simp only [lk] at h
  cases he : Nat.beq b c with
  | true => rw [he] at h; simp only [cond_true, Option.some.injEq] at h; exact ⟨(Nat.eq_of_beq_eq_true he).symm, h.symm⟩
  | false => rw [he] at h; simp at h
theorem lk_self {α : Type} (b : Nat) (y : α) (r : List (Nat × α)) : lk b ((b, y) :: r) = some y := by simp [lk]
theorem lk_ne {α : Type} {b c : Nat} (y : α) (r : List (Nat × α)) (h : b ≠ c) : lk c ((b, y) :: r) = lk c r := by
  simp only [lk]
  have : Nat.beq b c = false := by
    cases he : Nat.beq b c with
    | true => exact absurd (Nat.eq_of_beq_eq_true he) h
    | false => rfl
  rw [this]; rfl
/-- a row that is lent from now on -/
theorem Sim.lend1 (s : Sim B w0 N T H x a w) {b : Nat} {k : Kd} {xs : List k.C} {lt : Bool} (hb : H b = some (.arr k xs lt)) :
    ∃ D1, Evo x w { x with D := D1 } w ∧ Sim B w0 N T (updH H [(b, some (.arr k xs true))]) { x with D := D1 } a w ∧ ∀ v, RL x w v (.own b) → PL w D1 v (.list k xs) := by
  obtain ⟨ob, h1, h2, h3⟩ := s.heap b _ hb
  let D1 : Nat → Nat → Prop := fun c q => x.D c q ∨ (ob = some c ∧ q < xs.length * k.sz)
  have evo : Evo x w { x with D := D1 } w := ⟨fun _ _ h => h, fun _ _ _ => rfl, fun _ _ h => .inl h, fun _ _ _ => rfl, Nat.le_refl _, fun c q _ h => h.imp id fun h => ⟨b, by rw [← h.1]; exact h1⟩, fun c _ _ h => ⟨c, h⟩⟩
  have h3' := h3
  obtain ⟨l1, l2, l3⟩ := h3
  have lies : Lies { x with D := D1 } w ob (x.κ b) (.arr k xs true) := by
    refine ⟨l1, l2, ?_⟩
    rcases l3 with l3 | ⟨blk, cs, t, g1, g2, g3, g4, g5, g6⟩
    · exact .inl l3
    · refine .inr ⟨blk, cs, t, g1, g2, g3, fun i j hi hj => ?_, (fun h => nomatch h), fun _ q => ?_⟩
      · obtain ⟨c, hc, hp⟩ := g4 i j hi hj
        exact ⟨c, hc, hp.mono (fun _ _ h => .inl h) fun _ _ _ => rfl⟩
      · subst g1
        constructor
        · rintro (h | ⟨_, h⟩)
          · cases lt with
            | true => exact (g6 rfl q).1 h
            | false => exact absurd h (g5 rfl q)
          · exact h
        · intro h; exact .inr ⟨rfl, h⟩
  have p := Post.upd (d := none) (v := undef) (av := none) (me := 0) (n := 0) (l := [(b, some (.arr k xs true))]) s (fun c => ob = some c) evo (fun _ _ => rfl) (Below.refl _ _)
    (fun c q hq => by
      rcases hq with hq | ⟨hq, _⟩
      · exact s.dlt c q hq
      · exact (h2 c hq).2)
    (fun c hc ht => ⟨rfl, fun q => ⟨fun h => by rcases h with h | ⟨h, _⟩; exact h; exact absurd h ht, fun h => .inl h⟩⟩)
    (fun c q hc => by
      obtain ⟨rfl, hq⟩ := lk_one hc
      cases hq
      exact ⟨ob, h1, fun blk hblk => ⟨(h2 blk hblk).1, (h2 blk hblk).2, .inl hblk⟩, lies⟩)
    (fun c q blk hl hc hρ ht => by
      subst ht
      have := s.inj c b q _ blk hc hb hρ h1
      subst this
      rw [lk_self] at hl; cases hl)
    (fun c c' q q' blk hc hc' _ _ => by rw [(lk_one hc).1, (lk_one hc').1]) (fun _ h => by cases h) (fun _ h => by cases h)
  refine ⟨D1, evo, ?_, fun v hv => ?_⟩
  · have := p.sim; rw [updT_none] at this; exact this
  · obtain ⟨ob', e1, rfl⟩ := hv.own
    have : ob' = ob := by rw [h1] at e1; exact (Option.some.inj e1).symm
    subst this
    rw [l1]
    rcases l3 with ⟨l3, l4⟩ | ⟨blk, cs, t, g1, g2, g3, g4, g5, g6⟩
    · have hx : xs = [] := List.eq_nil_of_length_eq_zero (by rw [← l1, l4])
      subst hx
      exact PL.list k [] _ _ (Nat.zero_le _) (fun _ _ => undef) (fun i j hi => absurd hi (by simp)) (fun i j hi => absurd hi (by simp))
    · subst g1
      refine PL.list k xs _ _ (by rw [← l1]; exact l2) (fun i j => cs.getD (i * k.sz + j) undef) (fun i j hi hj => ?_) (fun i j hi hj => ?_)
      · obtain ⟨c, hc, _⟩ := g4 i j hi hj
        refine ⟨blk, 0, rfl, .inr ⟨rfl, ?_⟩, ?_⟩
        · have := Nat.mul_le_mul_right k.sz (show i + 1 ≤ xs.length by omega)
          rw [Nat.add_mul] at this; omega
        · have hc' : cs.getD (i * k.sz + j) undef = c := by rw [Array.getD_eq_getD_getElem?, hc]; rfl
          simp only [World.cell?, g2, Nat.zero_add, hc']
          simpa using hc
      · obtain ⟨c, hc, hp⟩ := g4 i j hi hj
        have hc' : cs.getD (i * k.sz + j) undef = c := by rw [Array.getD_eq_getD_getElem?, hc]; rfl
        rw [hc']
        exact hp.mono (fun _ _ h => .inl h) fun _ _ _ => rfl
theorem updH_cons (b : Nat) (q : Option Obj) (l : List (Nat × Option Obj)) : updH H ((b, q) :: l) = updH (updH H l) [(b, q)] := by
  funext c
  simp only [updH, lk]
  cases Nat.beq b c <;> rfl
theorem Sim.lend (s : Sim B w0 N T H x a w) : ∀ (bs : List Nat) (l : List (Nat × Option Obj)), lends H bs = some l →
    ∃ D1, Evo x w { x with D := D1 } w ∧ Sim B w0 N T (updH H l) { x with D := D1 } a w ∧ (∀ b ∈ bs, ∀ k (xs : List k.C) lt, H b = some (.arr k xs lt) → ∀ v, RL x w v (.own b) → PL w D1 v (.list k xs)) ∧
      ∀ c, (∃ k, ∃ xs : List k.C, ∃ lt, H c = some (.arr k xs lt) ∧ ∃ lt', updH H l c = some (.arr k xs lt')) ∨ updH H l c = H c
  | [], l, h => by
    cases h
    exact ⟨x.D, Evo.refl x w, s, fun b hb => by simp at hb, fun c => .inr rfl⟩
  | b :: r, l, h => by
    simp only [lends] at h
    split at h
    · rename_i y ys h1 h2
      cases h
      obtain ⟨D1, e1, s1, p1, u1⟩ := Sim.lend s r ys h2
      simp only [lendOne] at h1
      split at h1
      · rename_i k xs lt hb
        cases h1
        have hb1 : ∃ lt', updH H ys b = some (.arr k xs lt') := by
          rcases u1 b with ⟨k', xs', lt', g1, lt'', g2⟩ | g
          · rw [hb] at g1
            simp only [Option.some.injEq, Obj.arr.injEq] at g1
            obtain ⟨rfl, g3, g4⟩ := g1
            have g3 := eq_of_heq g3
            subst g3
            exact ⟨lt'', g2⟩
          · exact ⟨lt, g.trans hb⟩
        obtain ⟨lt', hb1⟩ := hb1
        obtain ⟨D2, e2, s2, p2⟩ := Sim.lend1 s1 hb1
        refine ⟨D2, e1.trans e2, by rw [updH_cons]; exact s2, fun c hc k' xs' lt2 hk v hv => ?_, fun c => ?_⟩
        · rcases List.mem_cons.1 hc with rfl | hc
          · rw [hb] at hk
            simp only [Option.some.injEq, Obj.arr.injEq] at hk
            obtain ⟨rfl, g3, g4⟩ := hk
            have g3 := eq_of_heq g3
            subst g3
            exact p2 v (hv.evo e1)
          · exact (p1 c hc k' xs' lt2 hk v hv).mono e2.D e2.cell
        · by_cases hcb : b = c
          · subst hcb
            exact .inl ⟨k, xs, lt, hb, true, by rw [updH_cons]; simp [updH, lk_self]⟩
          · have : updH H ((b, some (.arr k xs true)) :: ys) c = updH H ys c := by
              simp only [updH]; rw [lk_ne _ _ hcb]
            rw [this]; exact u1 c
      · cases h1
    · cases h
theorem RL.fixed {v : Value} {l l' : Leaf} (hv : RL x w v l) (hf : fixL H l = some l') {D1 : Nat → Nat → Prop} (hD : ∀ b q, x.D b q → D1 b q)
    (hp : ∀ b, l = .own b → ∀ k (xs : List k.C) lt, H b = some (.arr k xs lt) → ∀ v, RL x w v (.own b) → PL w D1 v (.list k xs)) : PL w D1 v l' := by
  have plain : ∀ {l : Leaf}, RL x w v l → flat l = true → (∀ p, l ≠ .ptr p) → (∀ b, l ≠ .own b) → (∀ b, l ≠ .map b) → (∀ b, l ≠ .chan b) → PL w D1 v l := by
    intro l h h1 h2 h3 h4 h5
    have h := h.bare h1
    refine PL.mono (w := w) (D := x.D) hD (fun _ _ _ => rfl) ?_
    cases l <;> first | exact h | exact absurd rfl (h2 _) | exact absurd rfl (h3 _) | exact absurd rfl (h4 _) | exact absurd rfl (h5 _) | cases h1
  cases l <;> simp only [fixL, reduceCtorEq, Option.some.injEq] at hf
  case own b =>
    split at hf
    · rename_i k xs lt hb
      cases hf
      exact hp b rfl k xs lt hb v hv
    · cases hf
  all_goals subst hf; exact plain hv rfl (by simp) (by simp) (by simp) (by simp)
theorem Rs.fixed {D1 : Nat → Nat → Prop} (hD : ∀ b q, x.D b q → D1 b q) : ∀ {vs : List Value} {ls ls' : List Leaf}, Rs (RL x w) vs ls → fixLs H ls = some ls' →
    (∀ b ∈ ownsL ls, ∀ k (xs : List k.C) lt, H b = some (.arr k xs lt) → ∀ v, RL x w v (.own b) → PL w D1 v (.list k xs)) → Rs (PL w D1) vs ls'
  | [], [], ls', _, hf, _ => by cases hf; trivial
  | v :: vs, l :: ls, ls', h, hf, hp => by
    simp only [fixLs] at hf
    split at hf
    · rename_i l1 r1 h1 h2
      cases hf
      refine ⟨RL.fixed h.1 h1 hD fun b hb => ?_, Rs.fixed hD h.2 h2 fun b hb => hp b ?_⟩
      · subst hb; exact hp b (by simp [ownsL])
      · cases l <;> simp [ownsL, hb]
    · cases hf
  | [], _ :: _, _, h, _, _ => h.elim
  | _ :: _, [], _, h, _, _ => h.elim
end
end Go.Proofs.YtihhgenbkiollaaGreat

/- The abstract machine, part r: new rows. No condition. -/
namespace Go.Proofs.YtihhgenbkiollaaGreat
open Go Go.RowKit
section
variable {P : Program} {Γ : Gam} {B : Nat} {w0 : World} {N : Nat} {T : Nat → Option AVal} {H : Nat → Option Obj} {x : Cx} {a : Act} {w : World} {me : Nat} {o : Oper}
theorem decs_ok {k : Kd} {D : Nat → Nat → Prop} : ∀ (n : Nat) {ls : List Leaf} {xs : List k.C}, decs k n ls = some xs → xs.length = n ∧ ∀ {vs : List Value}, Rs (PL w D) vs ls →
    ∀ i j, i < n → j < k.sz → ∃ c, vs[i * k.sz + j]? = some c ∧ PL w D c ((k.cells (xs.getD i k.dflt)).getD j .nils)
  | 0, ls, xs, h => by cases h; exact ⟨rfl, fun _ i j hi => absurd hi (Nat.not_lt_zero _)⟩
  | n + 1, ls, xs, h => by
    simp only [decs] at h
    split at h
    · rename_i y ys h1 h2
      cases h
      obtain ⟨g1, g2⟩ := decs_ok n h2
      refine ⟨by simp [g1], fun {vs} hvs i j hi hj => ?_⟩
      cases i with
      | zero =>
        have hc := Kd.dec_cos h1
        have hr := (hvs.take k.sz).cos hc
        obtain ⟨c, c1, c2⟩ := hr.get j ((k.cells y).getD j .nils) (by
          have : j < (k.cells y).length := by rw [Kd.cells_length]; exact hj
          rw [List.getD_eq_getElem?_getD, List.getElem?_eq_getElem this]; rfl)
        refine ⟨c, ?_, by simpa using c2⟩
        rw [List.getElem?_take, if_pos hj] at c1
        simpa using c1
      | succ i =>
        obtain ⟨c, c1, c2⟩ := g2 (hvs.drop k.sz) i j (by omega) hj
        refine ⟨c, ?_, by simpa using c2⟩
        rw [List.getElem?_drop] at c1
        rw [← c1]; congr 1; rw [Nat.add_mul]; omega
    · cases h
/-- a new row of the state's own -/
theorem Post.newArr (s : Sim B w0 N T H x a w) {d : Option Tmp} (hf : x.ρ me = none) {k : Kd} {xs : List k.C} {vs : List Value} {cap : Nat} (t : TypeId)
    (hr : ∀ i j, i < xs.length → j < k.sz → ∃ c, vs[i * k.sz + j]? = some c ∧ PL w x.D c ((k.cells (xs.getD i k.dflt)).getD j .nils)) (hl : vs.length = cap * k.sz) (hc : xs.length ≤ cap) (hd : ∀ d', d = some d' → d' < N)
    {w1 : World} (hw : w1.heap = w.heap.push (.cells vs.toArray t (0, 0))) (hos : w1.os = w.os) (htp : w1.tape = w.tape) (hout : w1.output = w.output) :
    ∃ x', Post B w0 N (updT T d (some (.l (.own me)))) (updH H [(me, some (.arr k xs false))]) x w me 1 x' (a.put d (.slice (some ⟨w.heap.size, 0, none⟩) xs.length cap)) w1 :=
  Post.new (o := .arr k xs false) (av := .l (.own me)) (κ := (xs.length, cap)) s hf vs.toArray t
    (fun x' w' e hD hh => ⟨rfl, hc, .inr ⟨w.heap.size, vs.toArray, t, rfl, hh, by simpa using hl, fun i j hi hj => by
      obtain ⟨c, c1, c2⟩ := hr i j hi hj
      exact ⟨c, by simpa using c1, c2.mono e.D e.cell⟩, fun _ => no_new s hD, fun h => nomatch h⟩⟩)
    (fun x' w' hρ hκ => RL.mk (.inl (.inl ⟨some w.heap.size, hρ, by rw [hκ]; rfl⟩))) hd hw hos htp hout
/-- a state that lends first -/
theorem Post.after {l : List (Nat × Option Obj)} {D1 : Nat → Nat → Prop} {T' : Nat → Option AVal} {q : Nat × Option Obj} {x' : Cx} {a' : Act} {w' : World} {n : Nat} (e : Evo x w { x with D := D1 } w)
    (p : Post B w0 N T' (updH (updH H l) [q]) { x with D := D1 } w me n x' a' w') : Post B w0 N T' (updH H (q :: l)) x w me n x' a' w' where
  evo := e.trans p.evo
  old := p.old
  sim := by obtain ⟨b, q⟩ := q; rw [updH_cons]; exact p.sim
end
end Go.Proofs.YtihhgenbkiollaaGreat

/- The abstract machine, part s: rows built, made, stored into. No condition. -/
namespace Go.Proofs.YtihhgenbkiollaaGreat
open Go Go.RowKit
section
variable {P : Program} {Γ : Gam} {B : Nat} {w0 : World} {N : Nat} {T : Nat → Option AVal} {H : Nat → Option Obj} {x : Cx} {a : Act} {w : World} {me : Nat} {o : Oper}
theorem repl_get {R : Value → Leaf → Prop} {zs : List Value} {z : List Leaf} (h : Rs R zs z) : ∀ n, Rs R ((List.replicate n zs).flatten) (repl n z)
  | 0 => trivial
  | n + 1 => by
    rw [List.replicate_succ, List.flatten_cons]
    exact h.append (repl_get h n)
theorem range_zero (z : Array Value) (n : Nat) (hz : z.size ≠ 0) : ((Array.range (n * z.size)).map (z[· % z.size]!)) = ((List.replicate n z.toList).flatten).toArray := by
  apply Array.ext'
  simp only [Array.toList_map, Array.toList_range]
  induction n with
  | zero => simp
  | succ n ih =>
    rw [Nat.succ_mul, Nat.add_comm, List.range_add, List.map_append, List.replicate_succ, List.flatten_cons]
    congr 1
    · apply List.ext_getElem (by simp)
      intro j h1 h2
      simp at h1
      simp [Nat.mod_eq_of_lt h1, h1]
    · rw [← ih, List.map_map]
      apply List.map_congr_left
      intro j _
      simp
theorem ok_buildSlice (hΓ : GamOk P Γ) (s : Sim B w0 N T H x a w) (hd : ∀ d, o.dst = some d → d < N) (hf : x.ρ me = none) {t : TypeId} {n : Nat} {parts : Array (Nat × Operand)} (ho : o.op = .buildSlice t n parts) {i : TI} (ht : lk t Γ = some i) {e : TypeId} {k : Kd}
    (htd : i.td = .slice e k) {ei : TI} (he : lk e Γ = some ei) (hk : k.sz = ei.sz) (hn : n * ei.sz ≤ 2 ^ 24) {ef : Eff}
    (h : buildA (repl n ei.zero) (fun j => some (j * ei.sz, ei.sz)) T (fun ls => need (fixLs H ls) fun ls' => need (lends H (ownsL ls)) fun lent => need (decs k n ls') fun xs =>
          some (⟨some (.l (.own me)), (me, some (.arr k xs false)) :: lent, ownsL ls⟩ : Eff)) parts.toList = some ef) : OpOk P B w0 N T H x a w me 1 o ef := by
  have hu := (hΓ _ _ ht).und
  rw [htd] at hu
  have hE := hΓ _ _ he
  obtain ⟨z, z1, z2, z3, _⟩ := hE.zero_run
  have hzr : Rs (RL x w) ((List.replicate n z.cells.toList).flatten) (repl n ei.zero) := repl_get ((z3 w x.D).mono fun _ _ => RL.of_pl) n
  obtain ⟨ls, cs, h1, h2, h3⟩ := buildA_ok s parts.toList _ _ hzr h
  obtain ⟨ls', f1, h1⟩ := need_some h1
  obtain ⟨lent, f2, h1⟩ := need_some h1
  obtain ⟨xs, f3, h1⟩ := need_some h1
  cases h1
  obtain ⟨D1, e1, s1, p1, _⟩ := s.lend _ _ f2
  have hfix := Rs.fixed (D1 := D1) e1.D h3 f1 p1
  obtain ⟨g1, g2⟩ := decs_ok (D := D1) n f3
  have hcs : cs.length = n * k.sz := by
    have h4 := hfix.length
    have h5 : (decs k n ls').isSome := by rw [f3]; rfl
    have h6 := h3.length
    have h7 := z3 w x.D
    have : ∀ (parts : List (Nat × Value)) (c d : Array Value), Instr.fill (fun j => some (j * ei.sz, ei.sz)) c parts = some d → d.size = c.size := by
      intro parts
      induction parts with
      | nil => intro c d h; cases h; rfl
      | cons y r ih =>
        intro c d h
        obtain ⟨j, v⟩ := y
        simp only [Instr.fill] at h
        split at h
        · cases h
        · rw [ih _ _ h]
          have : ∀ (l : List (Value × Nat)) (c : Array Value), (l.foldl (fun cs (y : Value × Nat) => cs.setIfInBounds (j * ei.sz + y.2) y.1) c).size = c.size := by
            intro l
            induction l with
            | nil => intro c; rfl
            | cons y l ih => intro c; simp only [List.foldl_cons]; rw [ih]; simp
          rw [← Array.foldl_toList]
          exact this _ _
    have := this _ _ _ h2
    simp only [List.size_toArray] at this
    rw [this, hk]
    simp [z2]
  have hz0 : z.cells.size ≠ 0 := by rw [z2]; exact hE.pos
  have p := Post.newArr (d := o.dst) (me := me) (k := k) (xs := xs) (vs := cs) (cap := n) s1 hf e (fun i j hi hj => g2 hfix i j (by omega) hj) hcs (by omega) hd (w1 := w.alloc (.cells cs.toArray e)) rfl rfl rfl rfl
  obtain ⟨x', p⟩ := p
  refine does_value (v := .slice (some ⟨w.heap.size, 0, none⟩) xs.length n) (w' := w.alloc (.cells cs.toArray e)) ?_ ⟨x', Post.after e1 p⟩
  have hbig : ¬ (n * ei.sz > 2 ^ 24) := by omega
  simp only [execOp, ho, Instr.buildSlice, Sem.run_bind, run_underlying hu w, Result.andThen_ok, hE.size_run w, Sem.run_ite, hbig, if_false]
  rw [Array.toList_map]
  by_cases h0 : n * ei.sz = 0
  · have hn0 : n = 0 := by rcases Nat.mul_eq_zero.1 h0 with h | h; exact h; exact absurd h hE.pos
    subst hn0
    have hx : xs = [] := List.eq_nil_of_length_eq_zero g1
    subst hx
    simp only [List.replicate_zero, List.flatten_nil] at h2
    have hr0 : ∀ (g : Nat → Value), (Array.range 0).map g = #[] := fun g => by apply Array.ext'; simp
    simp [hr0, h2, newRow_run]
  · have hr := range_zero z.cells n hz0
    rw [z2] at hr
    simp only [h0, if_false, Sem.run_bind, z1, Result.andThen_ok, Sem.run_pure, z2, hr, h2]
    simp [newRow_run, g1]

theorem ok_makeSlice (hΓ : GamOk P Γ) (s : Sim B w0 N T H x a w) (hd : ∀ d, o.dst = some d → d < N) (hf : x.ρ me = none) {t : TypeId} {y y' : Operand} (ho : o.op = .makeSlice t y y') {i : TI} (ht : lk t Γ = some i) {e : TypeId} {k : Kd}
    (htd : i.td = .slice e k) {ei : TI} (he : lk e Γ = some ei) (hk : k.sz = ei.sz) (hb : ei.bytes < 1024) {q q' : IntKind} {n : Int} (h1 : opnd T y = some (.l (.int q n))) (h2 : opnd T y' = some (.l (.int q' n))) (hn : 0 ≤ n ∧ n < 4294967296)
    {z : k.C} (hz : k.dec ei.zero = some z) : OpOk P B w0 N T H x a w me 1 o ⟨some (.l (.own me)), [(me, some (.arr k (List.replicate n.toNat z) false))], []⟩ := by
  have hu := (hΓ _ _ ht).und
  rw [htd] at hu
  have hE := hΓ _ _ he
  obtain ⟨zv, z1, z2, z3, _⟩ := hE.zero_run
  obtain ⟨ti, t1, t2, t3⟩ := hE.info_run
  have hz0 : zv.cells.size ≠ 0 := by rw [z2]; exact hE.pos
  have hrow := range_zero zv.cells n.toNat hz0
  rw [z2] at hrow
  have hcell : Rs (PL w x.D) zv.cells.toList (k.cells z) := (z3 w x.D).cos (Kd.dec_cos hz)
  have hlen : ((List.replicate n.toNat zv.cells.toList).flatten).length = n.toNat * k.sz := by simp [z2, hk]
  have hget : ∀ i j, i < n.toNat → j < k.sz → ((List.replicate n.toNat zv.cells.toList).flatten)[i * k.sz + j]? = zv.cells.toList[j]? := by
    intro i j hi hj
    have hzl : zv.cells.toList.length = k.sz := by simp [z2, hk]
    clear hrow hlen
    generalize n.toNat = m at hi ⊢
    induction m generalizing i with
    | zero => omega
    | succ m ih =>
      rw [List.replicate_succ, List.flatten_cons]
      cases i with
      | zero => rw [Nat.zero_mul, Nat.zero_add, List.getElem?_append_left (by rw [hzl]; exact hj)]
      | succ i =>
        rw [List.getElem?_append_right (by rw [hzl, Nat.add_mul]; omega), hzl]
        rw [show (i + 1) * k.sz + j - k.sz = i * k.sz + j by rw [Nat.add_mul]; omega]
        exact ih i (by omega)
  have p := Post.newArr (d := o.dst) (me := me) (k := k) (xs := List.replicate n.toNat z) (vs := (List.replicate n.toNat zv.cells.toList).flatten) (cap := n.toNat) s hf e (fun i j hi hj => by
    simp only [List.length_replicate] at hi
    obtain ⟨c, c1, c2⟩ := hcell.get j ((k.cells z).getD j .nils) (by
      have : j < (k.cells z).length := by rw [Kd.cells_length]; exact hj
      rw [List.getD_eq_getElem?_getD, List.getElem?_eq_getElem this]; rfl)
    refine ⟨c, by rw [hget i j hi hj]; exact c1, ?_⟩
    have : (List.replicate n.toNat z).getD i k.dflt = z := by simp [List.getD_eq_getElem?_getD, List.getElem?_replicate, hi]
    rw [this]; exact c2) hlen (by simp) hd (w1 := w.alloc (.cells ((List.replicate n.toNat zv.cells.toList).flatten).toArray e)) rfl rfl rfl rfl
  obtain ⟨x', p⟩ := p
  rw [List.length_replicate] at p
  refine does_value (v := .slice (some ⟨w.heap.size, 0, none⟩) n.toNat n.toNat) (w' := w.alloc (.cells ((List.replicate n.toNat zv.cells.toList).flatten).toArray e)) ?_ ⟨x', p⟩
  have hwrap : IntKind.i64.wrap n = n := by simp [IntKind.wrap, IntKind.bits, IntKind.signed]; omega
  have hmul : ti.bytes * n ≤ 1024 * 4294967296 := by
    have h3 : (ti.bytes : Int) ≤ 1024 := by omega
    exact Int.mul_le_mul h3 (by omega) (by omega) (by omega)
  have hroom : ¬ (n.toNat * ti.bytes > roomBytes) := by
    unfold roomBytes
    have h4 : n.toNat * ti.bytes ≤ 4294967296 * 1024 := Nat.mul_le_mul (by omega) (by omega)
    omega
  simp only [execOp, ho, (opnd_ok s h1).leaf.int, (opnd_ok s h2).leaf.int, Instr.makeSlice, Sem.run_bind, run_underlying hu w, Result.andThen_ok, Go.asInt, asIntOf, Sem.run_pure, t1, hwrap, Sem.run_ite]
  have hnot : ¬ ((decide (n < 0) || decide ((ti.bytes : Int) * n > 2 ^ 48)) || decide (n < 0) || decide (n > n)) = true := by
    simp; omega
  rw [if_neg hnot]
  simp only [askRoom, hroom, if_false, Sem.run_pure, Result.andThen_ok, Sem.run_bind, hE.size_run w, Sem.run_ite]
  by_cases h0 : n.toNat * ei.sz = 0
  · have hn0 : n.toNat = 0 := by rcases Nat.mul_eq_zero.1 h0 with h | h; exact h; exact absurd h hE.pos
    have hr0 : ∀ (g : Nat → Value), (Array.range 0).map g = #[] := fun g => by apply Array.ext'; simp
    simp [hn0, hr0, newRow_run]
  · simp only [h0, if_false, Sem.run_bind, z1, Result.andThen_ok, Sem.run_pure, z2, hrow]
    simp [newRow_run]
theorem get_splice {α : Type} (cs us : List α) (p m : Nat) (h : p + us.length ≤ cs.length) : (cs.take p ++ us ++ cs.drop (p + us.length))[m]? = if p ≤ m ∧ m < p + us.length then us[m - p]? else cs[m]? := by
  have hp : (cs.take p).length = p := by simp; omega
  by_cases h1 : m < p
  · rw [List.append_assoc, List.getElem?_append_left (by omega), List.getElem?_take, if_pos h1, if_neg (by omega)]
  · by_cases h2 : m < p + us.length
    · rw [List.append_assoc, List.getElem?_append_right (by omega), hp, List.getElem?_append_left (by omega), if_pos ⟨by omega, h2⟩]
    · rw [List.getElem?_append_right (by simp; omega), List.getElem?_drop, if_neg (by omega)]
      congr 1; simp; omega
/-- a row's element stored into -/
theorem ok_store_arr (hΓ : GamOk P Γ) (s : Sim B w0 N T H x a w) (hd : ∀ d, o.dst = some d → d < N) {t : TypeId} {y z : Operand} (ho : o.op = .store t y z) {i : TI} (ht : lk t Γ = some i) {b j off : Nat} {k : Kd} (hp : opnd T y = some (.l (.ptr (.arr b k j off))))
    {u : AV} (hu : opnd T z = some (.v u)) (hl : u.ls.length = i.sz) {xs : List k.C} (hb : H b = some (.arr k xs false)) (hle : off + i.sz ≤ k.sz) (hown : (ownsL u.ls).isEmpty = true) {ls : List Leaf} (hfix : fixLs H u.ls = some ls)
    {yv : k.C} (hdec : k.dec (fill (elemAt xs j) off ls) = some yv) {rd : List Nat} : OpOk P B w0 N T H x a w me 1 o ⟨none, [(b, some (.arr k (xs.set j yv) false))], rd⟩ := by
  obtain ⟨blk, hρ, hj, hv⟩ := (opnd_ok s hp).leaf.ptr
  have hr := RA.cells (show RA x w _ _ from opnd_ok s hu)
  obtain ⟨ob, g1, g2, g3, g4, g5⟩ := s.heap b _ hb
  have hob : ob = some blk := by rw [hρ] at g1; exact (Option.some.inj g1).symm
  rw [g3] at hj
  rcases g5 with ⟨g5, _⟩ | ⟨blk', cs, t', g5, g6, g7, g8, g9, _⟩
  · rw [hob] at g5; cases g5
  rw [hob] at g5; cases g5
  have hone : ∀ v ∈ (a.eval z).cells.toList, v.oneCell' = true := by
    intro v hv
    obtain ⟨j, hj, rfl⟩ := List.mem_iff_getElem.1 hv
    have hl2 := hr.length
    obtain ⟨v', h1, h2⟩ := hr.get j (u.ls[j]'(by omega)) (by simp)
    rw [List.getElem?_eq_getElem hj] at h1; cases h1; exact h2.one
  have hnoown : ownsL u.ls = [] := by simpa using hown
  have hpl : Rs (PL w x.D) (a.eval z).cells.toList ls := Rs.fixed (fun _ _ h => h) hr hfix (by rw [hnoown]; intro b hb; simp at hb)
  have hcl : (a.eval z).cells.toList.length = i.sz := by rw [hr.length, hl]
  have hroom : (j + 1) * k.sz ≤ (x.κ b).2 * k.sz := Nat.mul_le_mul_right _ (by omega)
  have hjs : j * k.sz + k.sz ≤ cs.size := by rw [g7]; rw [Nat.add_mul] at hroom; omega
  have hrun := run_storeCells_at (P := P) blk (j * k.sz + off) t' (a.eval z).cells.toList 0 cs w g6 (by rw [hcl]; omega) hone
  -- the element's cells, as they were
  have helem : Rs (PL w x.D) ((cs.toList.drop (j * k.sz)).take k.sz) (elemAt xs j) := by
    refine Rs.of_get (by simp [elemAt, Kd.cells_length]; omega) fun q v l hv' hl' => ?_
    have hq : q < k.sz := by
      rcases Nat.lt_or_ge q k.sz with h | h
      · exact h
      · rw [List.getElem?_take, if_neg (by omega)] at hv'; cases hv'
    obtain ⟨c, c1, c2⟩ := g8 j q hj hq
    rw [List.getElem?_take, if_pos hq, List.getElem?_drop] at hv'
    have c1' : cs.toList[j * k.sz + q]? = some c := by simpa using c1
    rw [c1'] at hv'; cases hv'
    have : (k.cells (xs.getD j k.dflt)).getD q .nils = l := by
      rw [List.getD_eq_getElem?_getD]
      show ((elemAt xs j)[q]?).getD .nils = l
      rw [hl']; rfl
    rw [← this]; exact c2
  have hnew := (Rs.fill helem hpl off).cos (Kd.dec_cos hdec)
  have hsl := hcl
  refine does_skip (w' := w.setRow blk (cs.toList.take (j * k.sz + off) ++ (a.eval z).cells.toList ++ cs.toList.drop (j * k.sz + off + (a.eval z).cells.toList.length)).toArray) ?_ ⟨x, ?_⟩
  · have hsz : (a.eval z).cells.size = i.sz := by simpa using hcl
    simp only [execOp, ho, Sem.run_bind, Instr.storeAt, hv, Instr.sureAddr, Sem.run_pure, Result.andThen_ok, storeVar, (hΓ t i ht).size_run w, hsz, ne_eq, not_true, if_false]
    simp only [Nat.add_zero] at hrun
    simp [hrun]
  · refine Post.set (o2 := .arr k (xs.set j yv) false) s hb hρ g6 (fun q => g9 rfl q) (fun w' e hh => ⟨by rw [g3]; simp, g4, .inr ⟨blk, _, t', rfl, hh, ?_, fun i' j' hi' hj' => ?_, fun _ => g9 rfl, fun h => nomatch h⟩⟩) hd undef
    · simp only [List.size_toArray, List.length_append, List.length_take, List.length_drop, Array.length_toList]
      simp only [Array.length_toList] at hcl
      omega
    · simp only [List.length_set] at hi'
      by_cases hij : i' = j
      · subst hij
        have hgd : (xs.set i' yv).getD i' k.dflt = yv := by simp [List.getD_eq_getElem?_getD, hi']
        rw [hgd]
        obtain ⟨c, c1, c2⟩ := hnew.get j' ((k.cells yv).getD j' .nils) (by
          have : j' < (k.cells yv).length := by rw [Kd.cells_length]; exact hj'
          rw [List.getD_eq_getElem?_getD, List.getElem?_eq_getElem this]; rfl)
        refine ⟨c, ?_, c2.mono e.D e.cell⟩
        rw [← c1]
        simp only [List.getElem?_toArray]
        have hzl : ((cs.toList.drop (i' * k.sz)).take k.sz).length = k.sz := by simp; omega
        rw [get_splice _ _ _ _ (by simp at hcl ⊢; omega), get_splice _ _ _ _ (by rw [hzl]; omega)]
        by_cases hin : off ≤ j' ∧ j' < off + (a.eval z).cells.toList.length
        · rw [if_pos (by omega), if_pos hin]; congr 1; omega
        · rw [if_neg (by omega), if_neg hin, List.getElem?_take, if_pos hj', List.getElem?_drop]
      · obtain ⟨c, c1, c2⟩ := g8 i' j' hi' hj'
        have hgd : (xs.set j yv).getD i' k.dflt = xs.getD i' k.dflt := by simp [List.getD_eq_getElem?_getD, List.getElem?_set, show ¬ j = i' by omega]
        rw [hgd]
        refine ⟨c, ?_, c2.mono e.D e.cell⟩
        simp only [List.getElem?_toArray]
        rw [get_splice _ _ _ _ (by simp at hcl ⊢; omega), if_neg ?_]
        · simpa using c1
        · rcases Nat.lt_or_gt_of_ne hij with h | h
          · have := Nat.mul_le_mul_right k.sz (show i' + 1 ≤ j by omega)
            rw [Nat.add_mul] at this; omega
          · have := Nat.mul_le_mul_right k.sz (show j + 1 ≤ i' by omega)
            rw [Nat.add_mul] at this; omega
end
end Go.Proofs.YtihhgenbkiollaaGreat

/- The abstract machine, part t: append. No condition. -/
namespace Go.Proofs.YtihhgenbkiollaaGreat
open Go Go.RowKit
section
variable {P : Program} {Γ : Gam} {B : Nat} {w0 : World} {N : Nat} {T : Nat → Option AVal} {H : Nat → Option Obj} {x : Cx} {a : Act} {w : World} {me : Nat} {o : Oper}
/-- the cells of a row of n elements -/
def RowsAt (w : World) (D : Nat → Nat → Prop) (k : Kd) (xs : List k.C) (vs : List Value) : Prop :=
  ∀ i j, i < xs.length → j < k.sz → ∃ c, vs[i * k.sz + j]? = some c ∧ PL w D c ((k.cells (xs.getD i k.dflt)).getD j .nils)
theorem PL.rows {D : Nat → Nat → Prop} {v : Value} {k : Kd} {xs : List k.C} (h : PL w D v (.list k xs)) : ∃ (ad : Option Addr) (cap : Nat) (vs : List Value), v = .slice ad xs.length cap ∧ vs.length = xs.length * k.sz ∧
    (∀ w', w'.heap = w.heap → (Builtin.firstCells k.sz xs.length v).run P w' = .ok vs.toArray w') ∧ RowsAt w D k xs vs ∧ ∀ u ∈ vs, u.oneCell' = true := by
  obtain ⟨ad, cap, cs, rfl, hcap, hs, hr⟩ := h.list_inv
  have hlt : ∀ m, m < xs.length * k.sz → m / k.sz < xs.length ∧ m % k.sz < k.sz ∧ m / k.sz * k.sz + m % k.sz = m := by
    intro m hm
    refine ⟨Nat.div_lt_of_lt_mul (by rw [Nat.mul_comm]; exact hm), Nat.mod_lt _ k.sz_pos, ?_⟩
    have := Nat.div_add_mod m k.sz
    rw [Nat.mul_comm] at this; exact this
  have hrow : RowsAt w D k xs ((List.range (xs.length * k.sz)).map fun m => cs (m / k.sz) (m % k.sz)) := by
    intro i j hi hj
    have hm : i * k.sz + j < xs.length * k.sz := by
      have := Nat.mul_le_mul_right k.sz (show i + 1 ≤ xs.length by omega)
      rw [Nat.add_mul] at this; omega
    have e1 : (i * k.sz + j) / k.sz = i := by
      rw [Nat.mul_comm, Nat.mul_add_div k.sz_pos, Nat.div_eq_of_lt hj]; rfl
    have e2 : (i * k.sz + j) % k.sz = j := by rw [Nat.mul_comm, Nat.mul_add_mod, Nat.mod_eq_of_lt hj]
    exact ⟨cs i j, by simp [hm, e1, e2], hr i j hi hj⟩
  refine ⟨ad, cap, _, rfl, by simp, ?_, hrow, ?_⟩
  · intro w' hw'
    have hcell : ∀ p, w'.cell? p = w.cell? p := fun p => by simp [World.cell?, hw']
    cases ad with
    | none =>
      have h0 : xs.length * k.sz = 0 := by
        rcases Nat.eq_zero_or_pos xs.length with h | h
        · rw [h, Nat.zero_mul]
        · obtain ⟨b, q, h1, _⟩ := hs 0 0 h k.sz_pos; cases h1
      simp [Builtin.firstCells, h0]
    | some ad =>
      simp only [Builtin.firstCells]
      have := run_loadCells_list (P := P) w' ad ((List.range (xs.length * k.sz)).map fun m => cs (m / k.sz) (m % k.sz)) (fun m v hv => by
        by_cases hm : m < xs.length * k.sz
        · simp [hm] at hv
          obtain ⟨h1, h2, h3⟩ := hlt m hm
          obtain ⟨b, q, g1, _, g3⟩ := hs _ _ h1 h2
          cases g1
          rw [hcell, addr_add, ← hv, ← g3]; congr 2; omega
        · simp [hm] at hv)
      simpa using this
  · intro u hu
    obtain ⟨m, hm, rfl⟩ := List.mem_map.1 hu
    obtain ⟨h1, h2, h3⟩ := hlt m (by simpa using hm)
    exact (hr _ _ h1 h2).one
/-- the elements of what is appended -/
theorem asElems_ok (s : Sim B w0 N T H x a w) {l : Leaf} {v : Value} (hv : RL x w v l) {k : Kd} {R : Type} {c : List k.C → List Nat → Option R} {r : R} (h : asElems H k l c = some r) :
    ∃ ys rd, c ys rd = some r ∧ ∃ (ad : Option Addr) (cap : Nat) (vs : List Value), v = .slice ad ys.length cap ∧ vs.length = ys.length * k.sz ∧ (∀ w', w'.heap = w.heap → (Builtin.firstCells k.sz ys.length v).run P w' = .ok vs.toArray w') ∧ RowsAt w x.D k ys vs ∧ ∀ u ∈ vs, u.oneCell' = true := by
  unfold asElems at h
  split at h
  · rename_i b
    split at h
    · rename_i q xs lt hb
      split at h
      · rename_i ys hcast
        obtain ⟨rfl, hxy⟩ := Kd.cast_eq hcast
        have hxy : xs = ys := hxy
        subst hxy
        obtain ⟨_, ob, h1, _, h2, h3, ⟨h4, h5, h6⟩, h7⟩ := own_row s hv hb
        refine ⟨_, _, h, ?_⟩
        rcases h6 with ⟨rfl, h8⟩ | ⟨blk, cs, t, rfl, h9, h10, h11, _⟩
        · have hx : xs = [] := List.eq_nil_of_length_eq_zero (by rw [← h4, h8])
          subst hx
          refine ⟨none, (x.κ b).2, [], h3, by simp, ?_, fun i j hi => absurd hi (by simp), by simp⟩
          intro w' _; rw [h3]; simp [Builtin.firstCells]
        · have hle : xs.length * q.sz ≤ cs.size := by rw [h10]; exact Nat.mul_le_mul_right _ (by omega)
          refine ⟨some ⟨blk, 0, none⟩, (x.κ b).2, cs.toList.take (xs.length * q.sz), h3, by simp; omega, ?_, fun i j hi hj => ?_, ?_⟩
          · intro w' hw'
            rw [h3]
            simp only [Builtin.firstCells, Option.map_some]
            have := run_loadCells_list (P := P) w' ⟨blk, 0, none⟩ (cs.toList.take (xs.length * q.sz)) (fun m v hv => by
              by_cases hm : m < xs.length * q.sz
              · rw [List.getElem?_take, if_pos hm] at hv
                rw [addr_add]; simp only [World.cell?, hw', h9, Nat.zero_add]; simpa using hv
              · rw [List.getElem?_take, if_neg hm] at hv; cases hv)
            have hl : (cs.toList.take (xs.length * q.sz)).length = xs.length * q.sz := by simp; omega
            rw [hl] at this; exact this
          · obtain ⟨c, c1, c2⟩ := h11 i j hi hj
            have hm : i * q.sz + j < xs.length * q.sz := by
              have := Nat.mul_le_mul_right q.sz (show i + 1 ≤ xs.length by omega)
              rw [Nat.add_mul] at this; omega
            exact ⟨c, by rw [List.getElem?_take, if_pos hm]; simpa using c1, c2⟩
          · intro u hu
            obtain ⟨m, hm, rfl⟩ := List.mem_iff_getElem.1 hu
            simp only [List.length_take] at hm
            have hm' : m < xs.length * q.sz := by omega
            have h1 : m / q.sz < xs.length := Nat.div_lt_of_lt_mul (by rw [Nat.mul_comm]; exact hm')
            obtain ⟨c, c1, c2⟩ := h11 (m / q.sz) (m % q.sz) h1 (Nat.mod_lt _ q.sz_pos)
            have e : m / q.sz * q.sz + m % q.sz = m := by have := Nat.div_add_mod m q.sz; rw [Nat.mul_comm] at this; exact this
            rw [e] at c1
            have : (cs.toList.take (xs.length * q.sz))[m] = c := by
              have : cs.toList[m]? = some c := by simpa using c1
              simp only [List.getElem_take]
              rw [List.getElem?_eq_getElem (by simp at hm ⊢; omega)] at this
              exact Option.some.inj this
            rw [this]; exact c2.one
      · cases h
    · cases h
  · split at h
    · rename_i xs hl
      obtain ⟨ad, cap, vs, g1, g2, g3, g4, g5⟩ := PL.rows (P := P) (hv.asList hl)
      exact ⟨xs, [], h, ad, cap, vs, g1, g2, g3, g4, g5⟩
    · cases h
theorem growBy_le (n : Nat) : ∀ (r c : Nat), c < n → Builtin.growBy n r c ≤ 2 * n + 192
  | 0, c, h => by simp [Builtin.growBy]; omega
  | r + 1, c, h => by
    unfold Builtin.growBy
    rw [if_neg (by omega)]
    by_cases h2 : c + (c + 768) / 4 < n
    · exact growBy_le n r _ h2
    · cases r with
      | zero => simp [Builtin.growBy]; omega
      | succ r => unfold Builtin.growBy; rw [if_pos (by omega)]; omega
theorem nextcap_le {need c : Nat} (h : c < need) : Builtin.nextslicecap need c ≤ 2 * need + 192 := by
  unfold Builtin.nextslicecap
  split
  · omega
  · split
    · omega
    · exact growBy_le _ _ _ h
/-- how append runs -/
theorem append_in (hΓ : GamOk P Γ) {t t' : TypeId} {ts : Array TypeId} {i i' : TI} (ht : lk t Γ = some i) (ht' : lk t' Γ = some i') {e e' : TypeId} {k k' : Kd} (htd : i.td = .slice e k) (htd' : i'.td = .slice e' k') {ei : TI} (he : lk e Γ = some ei) (hk : k.sz = ei.sz)
    (h0 : ts[0]? = some t) (h1 : ts[1]? = some t') {ty : TypeId} {base : Option Addr} {sLen sCap n : Nat} {ad : Option Addr} {cap : Nat} {news : List Value} (hnew : (Builtin.firstCells k.sz n (.slice ad n cap)).run P w = .ok news.toArray w)
    (hle : sLen + n ≤ sCap) : (Builtin.append_ ts ty #[.slice base sLen sCap, .slice ad n cap]).run P w = ((match base with | some b => storeCells (b.add (sLen * k.sz)) news | none => pure ()).run P w).andThen fun _ w' => .ok (.slice base (sLen + n) sCap) w' := by
  have hu := (hΓ _ _ ht).und
  rw [htd] at hu
  have hu' := (hΓ _ _ ht').und
  rw [htd'] at hu'
  have hE := hΓ _ _ he
  simp only [Builtin.append_, h0, h1]
  simp [Sem.run_bind, run_underlying hu w, hE.size_run w, run_underlying hu' w, Builtin.lenOf, hle, ← hk, hnew]
  cases base <;> simp
theorem append_grow (hΓ : GamOk P Γ) {t t' : TypeId} {ts : Array TypeId} {i i' : TI} (ht : lk t Γ = some i) (ht' : lk t' Γ = some i') {e e' : TypeId} {k k' : Kd} (htd : i.td = .slice e k) (htd' : i'.td = .slice e' k') {ei : TI} (he : lk e Γ = some ei) (hk : k.sz = ei.sz)
    (hb : ei.bytes < 1024) (h0 : ts[0]? = some t) (h1 : ts[1]? = some t') {ty : TypeId} {base : Option Addr} {sLen sCap n : Nat} {ad : Option Addr} {cap : Nat} {news olds : List Value}
    (hnew : ∀ w', w'.heap = w.heap → (Builtin.firstCells k.sz n (.slice ad n cap)).run P w' = .ok news.toArray w')
    (hold : ∀ w', w'.heap = w.heap → (Builtin.firstCells k.sz sLen (.slice base sLen sCap)).run P w' = .ok olds.toArray w') (hn : sLen + n < 4294967296) (hle : ¬ sLen + n ≤ sCap) :
    ∃ (c : Nat) (rest : List Value), sLen + n ≤ c ∧ rest.length = (c - (sLen + n)) * k.sz ∧ (Builtin.append_ ts ty #[.slice base sLen sCap, .slice ad n cap]).run P w =
      .ok (.slice (some ⟨w.heap.size, 0, none⟩) (sLen + n) c) (w.drew.alloc (.cells (olds ++ news ++ rest).toArray e)) := by
  have hu := (hΓ _ _ ht).und
  rw [htd] at hu
  have hu' := (hΓ _ _ ht').und
  rw [htd'] at hu'
  have hE := hΓ _ _ he
  obtain ⟨z, z1, z2, z3, _⟩ := hE.zero_run
  obtain ⟨ti, t1, t2, t3⟩ := hE.info_run
  have hnext := nextcap_le (need := sLen + n) (c := sCap) (by omega)
  have hno : ¬ (Builtin.nextslicecap (sLen + n) sCap * ti.bytes > 2 ^ 48) := by
    have h4 : Builtin.nextslicecap (sLen + n) sCap * ti.bytes ≤ 8589935000 * 1024 := Nat.mul_le_mul (by omega) (by omega)
    omega
  have hmax : ¬ (((sLen + n : Nat) : Int) > IntKind.i64.max ∧ ti.bytes = 0) := by
    have : IntKind.i64.max = 9223372036854775807 := by decide
    rw [this]; omega
  refine ⟨(Question.appendCap (sLen + n) sCap e).cut (w.tape w.drawn (.appendCap (sLen + n) sCap e)), (Builtin.zeroCells z.cells ((Question.appendCap (sLen + n) sCap e).cut (w.tape w.drawn (.appendCap (sLen + n) sCap e)) - (sLen + n))).toList, ?_, ?_, ?_⟩
  · simp [Question.cut]
  · simp [Builtin.zeroCells, z2, hk]
  · have hask : ∀ (m : Nat) (w : World), (askRoom m).run P w = .ok () w := by
      intro m w; unfold askRoom; split <;> rfl
    have hch : (choose (.appendCap (sLen + n) sCap e)).run P w = .ok ((Question.appendCap (sLen + n) sCap e).cut (w.tape w.drawn (.appendCap (sLen + n) sCap e))) w.drew := rfl
    simp only [Builtin.append_, h0, h1]
    have hno' : ¬ (2 ^ 48 < Builtin.nextslicecap (sLen + n) sCap * ti.bytes) := hno
    have hmax' : ¬ (9223372036854775807 < (sLen : Int) + n ∧ ti.bytes = 0) := by omega
    have hfo : (Question.appendCap (sLen + n) sCap e).forced = false := rfl
    have hle' : ¬ sLen + n ≤ sCap := hle
    have hn1 := hnew w.drew rfl
    have ho1 := hold w.drew rfl
    simp [Sem.run_bind, run_underlying hu w, hE.size_run w, run_underlying hu' w, Builtin.lenOf, hle', t1, hno', hmax', hfo, hask, ← hk, hn1, ho1, z1, newRow_run]
    congr 2
    apply Array.ext'
    simp
end
end Go.Proofs.YtihhgenbkiollaaGreat

/- The abstract machine, part u: what append does. No condition. -/
namespace Go.Proofs.YtihhgenbkiollaaGreat
open Go Go.RowKit
section
variable {P : Program} {Γ : Gam} {B : Nat} {w0 : World} {N : Nat} {T : Nat → Option AVal} {H : Nat → Option Obj} {x : Cx} {a : Act} {w : World} {me : Nat} {o : Oper}
/-- fewer objects -/
theorem Sim.sub {H' : Nat → Option Obj} (s : Sim B w0 N T H x a w) (h : ∀ b q, H' b = some q → H b = some q) : Sim B w0 N T H' x a w where
  below := s.below
  size := s.size
  slots := s.slots
  defers := s.defers
  tmps := s.tmps
  heap := fun b q hb => s.heap b q (h b q hb)
  inj := fun b b' q q' blk hb hb' => s.inj b b' q q' blk (h b q hb) (h b' q' hb')
  dlt := s.dlt
theorem RowsAt.append {D : Nat → Nat → Prop} {k : Kd} {xs ys : List k.C} {us vs : List Value} (h : RowsAt w D k xs us) (h' : RowsAt w D k ys vs) (hl : us.length = xs.length * k.sz) : RowsAt w D k (xs ++ ys) (us ++ vs) := by
  intro i j hi hj
  by_cases hx : i < xs.length
  · obtain ⟨c, c1, c2⟩ := h i j hx hj
    have hm : i * k.sz + j < us.length := by
      have := Nat.mul_le_mul_right k.sz (show i + 1 ≤ xs.length by omega)
      rw [Nat.add_mul] at this; omega
    refine ⟨c, by rw [List.getElem?_append_left hm]; exact c1, ?_⟩
    have : (xs ++ ys).getD i k.dflt = xs.getD i k.dflt := by simp [List.getD_eq_getElem?_getD, List.getElem?_append, hx]
    rw [this]; exact c2
  · simp only [List.length_append] at hi
    obtain ⟨c, c1, c2⟩ := h' (i - xs.length) j (by omega) hj
    have he : i * k.sz + j = us.length + ((i - xs.length) * k.sz + j) := by
      have : i * k.sz = xs.length * k.sz + (i - xs.length) * k.sz := by rw [← Nat.add_mul]; congr 1; omega
      omega
    refine ⟨c, by rw [he, List.getElem?_append_right (by omega), Nat.add_sub_cancel_left]; exact c1, ?_⟩
    have : (xs ++ ys).getD i k.dflt = ys.getD (i - xs.length) k.dflt := by simp [List.getD_eq_getElem?_getD, List.getElem?_append, hx]
    rw [this]; exact c2
theorem RowsAt.left {D : Nat → Nat → Prop} {k : Kd} {xs : List k.C} {us : List Value} (h : RowsAt w D k xs us) (vs : List Value) : RowsAt w D k xs (us ++ vs) := by
  intro i j hi hj
  obtain ⟨c, c1, c2⟩ := h i j hi hj
  have hm : i * k.sz + j < us.length := by
    rcases Nat.lt_or_ge (i * k.sz + j) us.length with h | h
    · exact h
    · rw [List.getElem?_eq_none h] at c1; cases c1
  exact ⟨c, by rw [List.getElem?_append_left hm]; exact c1, c2⟩
/-- a grown row, laid anew -/
theorem ok_append_new (hΓ : GamOk P Γ) (s : Sim B w0 N T H x a w) (hd : ∀ d, o.dst = some d → d < N) (hf : x.ρ me = none) {e : TypeId} {k : Kd} {xs ys : List k.C} {olds news rest : List Value} {c : Nat} {l : List (Nat × Option Obj)} (lt : Bool)
    (hl : ∀ b q, updH H ((me, some (.arr k (xs ++ ys) lt)) :: l) b = some q → updH H [(me, some (.arr k (xs ++ ys) lt))] b = some q) (h1 : RowsAt w x.D k xs olds) (h2 : RowsAt w x.D k ys news) (hol : olds.length = xs.length * k.sz) (hnl : news.length = ys.length * k.sz)
    (hc : xs.length + ys.length ≤ c) (hrl : rest.length = (c - (xs.length + ys.length)) * k.sz) {rd : List Nat}
    (hrun : (execOp a.eval o).run P w = .ok (.value (.slice (some ⟨w.heap.size, 0, none⟩) (xs.length + ys.length) c)) (w.drew.alloc (.cells (olds ++ news ++ rest).toArray e))) :
    OpOk P B w0 N T H x a w me 1 o ⟨some (.l (.own me)), (me, some (.arr k (xs ++ ys) lt)) :: l, rd⟩ := by
  have hrow : RowsAt w x.D k (xs ++ ys) (olds ++ news ++ rest) := ((h1.append h2 hol).left rest)
  have hlen : (olds ++ news ++ rest).length = c * k.sz := by
    simp only [List.length_append, hol, hnl, hrl]
    rw [← Nat.add_mul, ← Nat.add_mul]; congr 1; omega
  obtain ⟨x', p⟩ := Post.newArr (d := o.dst) (me := me) (k := k) (xs := xs ++ ys) (vs := olds ++ news ++ rest) (cap := c) s hf e hrow hlen (by simp; exact hc) hd (w1 := w.drew.alloc (.cells (olds ++ news ++ rest).toArray e)) rfl rfl rfl rfl
  rw [List.length_append] at p
  refine does_value hrun ?_
  cases lt with
  | false => exact ⟨x', p.evo, p.old, p.sim.sub hl⟩
  | true =>
    have hb : updH H [(me, some (.arr k (xs ++ ys) false))] me = some (.arr k (xs ++ ys) false) := by simp [updH, lk_self]
    obtain ⟨D1, e1, s1, _⟩ := p.sim.lend1 hb
    refine ⟨{ x' with D := D1 }, p.evo.trans e1, p.old, s1.sub fun b q hq => ?_⟩
    have := hl b q hq
    by_cases hbm : me = b
    · subst hbm
      simp only [updH, lk_self] at this ⊢
      exact this
    · have e2 : ∀ (q0 : Option Obj) (H0 : Nat → Option Obj), updH H0 [(me, q0)] b = H0 b := fun q0 H0 => by
        simp only [updH]; rw [lk_ne _ _ hbm]; rfl
      rw [e2] at this
      rw [e2, e2]; exact this
/-- a grown row, in place -/
theorem ok_append_in (s : Sim B w0 N T H x a w) (hd : ∀ d, o.dst = some d → d < N) (hf : x.ρ me = none) {b : Nat} {k : Kd} {xs ys : List k.C} {news : List Value} {lt : Bool} (hb : H b = some (.arr k xs lt)) {blk : Nat} (hρ : x.ρ b = some (some blk))
    (hcap : xs.length + ys.length ≤ (x.κ b).2) (h2 : RowsAt w x.D k ys news) (hnl : news.length = ys.length * k.sz) (hone : ∀ u ∈ news, u.oneCell' = true) {rd : List Nat}
    (hrun : (execOp a.eval o).run P w = ((storeCells ⟨blk, xs.length * k.sz, none⟩ news).run P w).andThen fun _ w' => .ok (.value (.slice (some ⟨blk, 0, none⟩) (xs.length + ys.length) (x.κ b).2)) w') :
    OpOk P B w0 N T H x a w me 1 o ⟨some (.l (.own me)), [(me, some (.arr k (xs ++ ys) lt)), (b, none)], rd⟩ := by
  obtain ⟨ob, g1, g2, g3, g4, g5⟩ := s.heap b _ hb
  have hob : ob = some blk := by rw [hρ] at g1; exact (Option.some.inj g1).symm
  rcases g5 with ⟨g5, _⟩ | ⟨blk', cs, t', g5, g6, g7, g8, g9, g10⟩
  · rw [hob] at g5; cases g5
  rw [hob] at g5; cases g5
  have hblk := g2 blk hob
  have hroom : (xs.length + ys.length) * k.sz ≤ cs.size := by rw [g7]; exact Nat.mul_le_mul_right _ hcap
  rw [Nat.add_mul] at hroom
  have hst := run_storeCells_at (P := P) blk (xs.length * k.sz) t' news 0 cs w g6 (by rw [hnl]; omega) hone
  simp only [Nat.add_zero] at hst
  let new : Array Value := (cs.toList.take (xs.length * k.sz) ++ news ++ cs.toList.drop (xs.length * k.sz + news.length)).toArray
  have hst' : (storeCells ⟨blk, xs.length * k.sz, none⟩ news).run P w = .ok () (w.setRow blk new) := hst
  have hsame : ∀ c, c ≠ blk → (w.setRow blk new).heap[c]? = w.heap[c]? := fun c hc => setRow_other w blk c new hc
  have hnew : (w.setRow blk new).heap[blk]? = some (.cells new t' (0, 0)) := setRow_heap w blk cs new t' (0, 0) g6
  have hsz : (w.setRow blk new).heap.size = w.heap.size := by simp [World.setRow]
  have hold : ∀ q, q < xs.length * k.sz → new[q]? = cs[q]? := by
    intro q hq
    show ((cs.toList.take (xs.length * k.sz) ++ news ++ cs.toList.drop (xs.length * k.sz + news.length)).toArray)[q]? = _
    rw [List.getElem?_toArray, get_splice _ _ _ _ (by rw [hnl]; simp; omega), if_neg (by omega)]; simp
  have hDb : ∀ q, x.D blk q → q < xs.length * k.sz := by
    intro q hq
    cases lt with
    | false => exact absurd hq (g9 rfl q)
    | true => exact (g10 rfl q).1 hq
  let D1 : Nat → Nat → Prop := fun c q => x.D c q ∨ (lt = true ∧ c = blk ∧ q < (xs.length + ys.length) * k.sz)
  let x' : Cx := ⟨fun c => if c = me then some (some blk) else x.ρ c, fun c => if c = me then (xs.length + ys.length, (x.κ b).2) else x.κ c, D1⟩
  have hme : x'.ρ me = some (some blk) := by show (if me = me then _ else _) = _; rw [if_pos rfl]
  have hκ : x'.κ me = (xs.length + ys.length, (x.κ b).2) := by show (if me = me then _ else _) = _; rw [if_pos rfl]
  have hcell : ∀ c q, x.D c q → (w.setRow blk new).cell? ⟨c, q, none⟩ = w.cell? ⟨c, q, none⟩ := by
    intro c q hq
    by_cases hc : c = blk
    · subst hc
      simp only [World.cell?, hnew, g6]
      simpa using hold q (hDb q hq)
    · exact World.cell?_of_block (w := w) (hsame c hc)
  have evo : Evo x w x' (w.setRow blk new) := by
    refine ⟨fun c q hc => ?_, fun c q hc => ?_, fun _ _ h => .inl h, hcell, by rw [hsz]; exact Nat.le_refl _, fun c q _ h => h.imp id fun h => ⟨b, by rw [h.2.1]; exact hρ⟩, fun c q hq hc => ?_⟩
    · show (if c = me then _ else _) = _
      rw [if_neg (by intro h; rw [h, hf] at hc; cases hc)]; exact hc
    · show (if c = me then _ else _) = _
      rw [if_neg (by intro h; rw [h, hf] at hc; cases hc)]
    · have hc : (if c = me then some (some blk) else x.ρ c) = some (some q) := hc
      by_cases h : c = me
      · rw [if_pos h] at hc; simp only [Option.some.injEq] at hc; exact ⟨b, by rw [← hc]; exact hρ⟩
      · rw [if_neg h] at hc; exact ⟨c, hc⟩
  have hbm : me ≠ b := by intro h; rw [h, hρ] at hf; cases hf
  have hrows : RowsAt (w.setRow blk new) D1 k (xs ++ ys) new.toList := by
    have e1 : RowsAt w x.D k xs (cs.toList.take (xs.length * k.sz)) := by
      intro i j hi hj
      obtain ⟨c, c1, c2⟩ := g8 i j hi hj
      have hm : i * k.sz + j < xs.length * k.sz := by
        have := Nat.mul_le_mul_right k.sz (show i + 1 ≤ xs.length by omega)
        rw [Nat.add_mul] at this; omega
      exact ⟨c, by rw [List.getElem?_take, if_pos hm]; simpa using c1, c2⟩
    have e2 := (e1.append h2 (by simp; omega)).left (cs.toList.drop (xs.length * k.sz + news.length))
    intro i j hi hj
    obtain ⟨c, c1, c2⟩ := e2 i j hi hj
    exact ⟨c, c1, c2.mono (fun _ _ h => .inl h) hcell⟩
  have hlk : ∀ (c : Nat) (q : Obj), lk c [(me, some (Obj.arr k (xs ++ ys) lt)), (b, none)] = some (some q) → c = me ∧ q = Obj.arr k (xs ++ ys) lt := by
    intro c q hc
    by_cases h1 : me = c
    · subst h1; rw [lk_self] at hc; cases hc; exact ⟨rfl, rfl⟩
    · rw [lk_ne _ _ h1] at hc
      have := (lk_one hc).2
      cases this
  refine does_value (v := .slice (some ⟨blk, 0, none⟩) (xs.length + ys.length) (x.κ b).2) (w' := w.setRow blk new) (by rw [hrun, hst']; rfl) ⟨x', ?_⟩
  refine Post.upd s (fun c => c = blk) evo (fun c hc => ?_) ⟨rfl, rfl, rfl, by rw [hsz]; exact Nat.le_refl _, fun c hc => hsame c (by omega)⟩ (fun c q hq => ?_) (fun c _ hc => ⟨hsame c hc, fun q => ⟨fun h => by rcases h with h | ⟨_, h, _⟩; exact h; exact absurd h hc, fun h => .inl h⟩⟩)
    (fun c q hc => ?_) (fun c q c' hl hc hρc hcb => ?_) (fun c c' q q' _ hc hc' _ _ => by rw [(hlk c q hc).1, (hlk c' q' hc').1]) hd (fun u hu => ?_)
  · show (if c = me then _ else _) = _
    rw [if_neg (by omega)]
  · rw [hsz]
    rcases hq with hq | ⟨_, rfl, _⟩
    · exact s.dlt c q hq
    · exact hblk.2
  · obtain ⟨rfl, rfl⟩ := hlk c q hc
    refine ⟨some blk, hme, fun c hc => by cases hc; exact ⟨hblk.1, by rw [hsz]; exact hblk.2, .inl rfl⟩, ?_⟩
    rw [hκ]
    refine ⟨by simp, hcap, .inr ⟨blk, new, t', rfl, hnew, ?_, fun i j hi hj => ?_, fun hl q hq => ?_, fun hl q => ?_⟩⟩
    · show (cs.toList.take (xs.length * k.sz) ++ news ++ cs.toList.drop (xs.length * k.sz + news.length)).toArray.size = _
      rw [← g7]; simp [hnl]; omega
    · obtain ⟨c, c1, c2⟩ := hrows i j hi hj
      exact ⟨c, by simpa using c1, c2⟩
    · rcases hq with hq | ⟨h, _⟩
      · exact g9 hl q hq
      · rw [hl] at h; cases h
    · constructor
      · rintro (hq | ⟨_, _, hq⟩)
        · have := hDb q hq; simp [Nat.add_mul]; omega
        · simpa using hq
      · intro hq; exact .inr ⟨hl, rfl, by simpa using hq⟩
  · subst hcb
    have := s.inj c b q _ c' hc hb hρc hρ
    subst this
    rw [lk_ne _ _ hbm, lk_self] at hl; cases hl
  · cases hu
    exact RL.mk (.inl (.inl ⟨some blk, hme, by rw [hκ]; rfl⟩))
end
end Go.Proofs.YtihhgenbkiollaaGreat

/- The abstract machine, part v: append, greatest and least, maps. No condition. -/
namespace Go.Proofs.YtihhgenbkiollaaGreat
open Go Go.RowKit
section
variable {P : Program} {Γ : Gam} {B : Nat} {w0 : World} {N : Nat} {T : Nat → Option AVal} {H : Nat → Option Obj} {x : Cx} {a : Act} {w : World} {me : Nat} {o : Oper}
theorem append_exec {y z : Operand} {args : Array Operand} {ts : Array TypeId} (ho : o.op = .call { callee := .builtin .append, args := args, argTypes := ts }) (ha : args.toList = [y, z]) {w' : World} :
    (execOp a.eval o).run P w' = ((Builtin.append_ ts o.type #[a.eval y, a.eval z]).run P w').andThen fun v w'' => .ok (.value v) w'' := by
  obtain rfl : args = #[y, z] := by apply Array.ext'; simpa using ha
  simp [execOp, ho, resolve, Sem.run_bind, invoke, Go.builtin]
theorem updH_kill {b : Nat} {q : Option Obj} (hbm : me ≠ b) : ∀ c r, updH H [(me, q), (b, none)] c = some r → updH H [(me, q)] c = some r := by
  intro c r h
  by_cases h1 : me = c
  · subst h1; simpa [updH, lk_self] using h
  · simp only [updH] at h ⊢
    rw [lk_ne _ _ h1] at h ⊢
    by_cases h2 : b = c
    · subst h2; rw [lk_self] at h; cases h
    · rw [lk_ne _ _ h2] at h; exact h
/-- a row without a block, renamed -/
theorem ok_none (s : Sim B w0 N T H x a w) (hd : ∀ d, o.dst = some d → d < N) (hf : x.ρ me = none) {b : Nat} {k : Kd} {lt : Bool} (hb : H b = some (.arr k [] lt)) (hκ : x.κ b = (0, 0)) {rd : List Nat}
    (hrun : (execOp a.eval o).run P w = .ok (.value (.slice none 0 0)) w) :
    OpOk P B w0 N T H x a w me 1 o ⟨some (.l (.own me)), [(me, some (.arr k ([] ++ []) lt)), (b, none)], rd⟩ := by
  let x' : Cx := ⟨fun c => if c = me then some none else x.ρ c, fun c => if c = me then (0, 0) else x.κ c, x.D⟩
  have hme : x'.ρ me = some none := by show (if me = me then _ else _) = _; rw [if_pos rfl]
  have hκ' : x'.κ me = (0, 0) := by show (if me = me then _ else _) = _; rw [if_pos rfl]
  have evo : Evo x w x' w := by
    refine ⟨fun c q hc => ?_, fun c q hc => ?_, fun _ _ h => h, fun _ _ _ => rfl, Nat.le_refl _, fun _ _ _ h => .inl h, fun c q hq hc => ?_⟩
    · show (if c = me then _ else _) = _
      rw [if_neg (by intro h; rw [h, hf] at hc; cases hc)]; exact hc
    · show (if c = me then _ else _) = _
      rw [if_neg (by intro h; rw [h, hf] at hc; cases hc)]
    · have hc : (if c = me then some none else x.ρ c) = some (some q) := hc
      by_cases h : c = me
      · rw [if_pos h] at hc; cases hc
      · rw [if_neg h] at hc; exact ⟨c, hc⟩
  have hlk : ∀ (c : Nat) (q : Obj), lk c [(me, some (Obj.arr k ([] ++ []) lt)), (b, none)] = some (some q) → c = me ∧ q = Obj.arr k ([] ++ []) lt := by
    intro c q hc
    by_cases h1 : me = c
    · subst h1; rw [lk_self] at hc; cases hc; exact ⟨rfl, rfl⟩
    · rw [lk_ne _ _ h1] at hc
      have := (lk_one hc).2
      cases this
  refine does_value hrun ⟨x', Post.upd s (fun _ => False) evo (fun c hc => ?_) ⟨rfl, rfl, rfl, Nat.le_refl _, fun _ _ => rfl⟩ (fun c q hq => s.dlt c q hq) (fun _ _ _ => ⟨rfl, fun _ => Iff.rfl⟩) (fun c q hq => ?_) (fun _ _ _ _ _ _ h => h)
    (fun c c' q q' _ hc hc' _ _ => by rw [(hlk c q hc).1, (hlk c' q' hc').1]) hd (fun u hu => ?_)⟩
  · show (if c = me then _ else _) = _
    rw [if_neg (by omega)]
  · obtain ⟨rfl, rfl⟩ := hlk c q hq
    refine ⟨none, hme, fun c hc => (by cases hc), ?_⟩
    rw [hκ']
    exact ⟨rfl, Nat.le_refl _, .inl ⟨rfl, rfl⟩⟩
  · cases hu
    exact RL.mk (.inl (.inl ⟨none, hme, by rw [hκ']; rfl⟩))
theorem ok_append (hΓ : GamOk P Γ) (s : Sim B w0 N T H x a w) (hd : ∀ d, o.dst = some d → d < N) (hf : x.ρ me = none) {y z : Operand} {args : Array Operand} {ts : Array TypeId} (ho : o.op = .call { callee := .builtin .append, args := args, argTypes := ts })
    (ha : args.toList = [y, z]) {t t' : TypeId} {tr : List TypeId} (hts : ts.toList = t :: t' :: tr) {i i' : TI} (ht : lk t Γ = some i) (ht' : lk t' Γ = some i') {e e' : TypeId} {k k' : Kd} (htd : i.td = .slice e k) (htd' : i'.td = .slice e' k') {ei : TI} (he : lk e Γ = some ei)
    (hk : k.sz = ei.sz) (hb : ei.bytes < 1024) {l l2 : Leaf} (hy : opnd T y = some (.l l)) (hz : opnd T z = some (.l l2)) {ef : Eff}
    (h : asElems H k l2 (fun ys rd => match l with
            | .nils => cond (decide (ys.length < 4294967296)) (cond (ys.isEmpty) (some ⟨some (.l .nils), [], rd⟩) (some (⟨some (.l (.own me)), [(me, some (.arr k ys false))], rd⟩ : Eff))) none
            | .own b => (match H b with
              | some (.arr q xs lent) => (match Kd.cast q k xs with
                | some xs => cond (decide (xs.length + ys.length < 4294967296) && !(sameOwn b l2)) (some ⟨some (.l (.own me)), [(me, some (.arr k (xs ++ ys) lent)), (b, none)], b :: rd⟩) none
                | none => none)
              | _ => none)
            | _ => none) = some ef) : OpOk P B w0 N T H x a w me 1 o ef := by
  have h0 : ts[0]? = some t := by rw [← Array.getElem?_toList, hts]; rfl
  have h1 : ts[1]? = some t' := by rw [← Array.getElem?_toList, hts]; rfl
  have hvy := (opnd_ok s hy).leaf
  obtain ⟨ys, rd, h2, ad, cap, news, hv2, hnl, hnew, hrow, hone⟩ := asElems_ok (P := P) s (opnd_ok s hz).leaf h
  clear h
  have h := h2
  clear h2
  have hexec := fun w' => append_exec (P := P) (a := a) ho ha (w' := w')
  split at h
  · -- a nil row
    obtain ⟨hlt, h⟩ := cond_some h
    have hlt := of_decide_eq_true hlt
    have hvn := hvy.nils
    cases hys : ys with
    | nil =>
      subst hys
      cases h
      refine ok_val s hd (v := .slice none 0 0) ?_ (RL.mk (.of_pl .nils))
      have hr := append_in (P := P) (w := w) hΓ ht ht' htd htd' he hk h0 h1 (ty := o.type) (base := none) (sLen := 0) (sCap := 0) (n := 0) (ad := ad) (cap := cap) (news := news) (by have := hnew w rfl; rw [hv2] at this; exact this) (Nat.le_refl _)
      have hv2' : a.eval z = .slice ad 0 cap := hv2
      rw [hexec, hvn, hv2', hr]; rfl
    | cons q r =>
      have hne : ys.isEmpty = false := by rw [hys]; rfl
      rw [hne] at h
      cases h
      have hpos : ¬ 0 + ys.length ≤ 0 := by rw [hys]; simp
      obtain ⟨c, rest, c1, c2, c3⟩ := append_grow (P := P) (w := w) hΓ ht ht' htd htd' he hk hb h0 h1 (ty := o.type) (base := none) (sLen := 0) (sCap := 0) (n := ys.length) (ad := ad) (cap := cap) (news := news) (olds := [])
        (fun w' hw' => by have := hnew w' hw'; rw [hv2] at this; exact this) (fun w' _ => by simp [Builtin.firstCells]) (by omega) hpos
      have := ok_append_new (P := P) (o := o) (me := me) hΓ s hd hf (e := e) (k := k) (xs := []) (ys := ys) (olds := []) (news := news) (rest := rest) (c := c) (l := []) false (fun _ _ h => h) (fun i j hi => absurd hi (by simp)) hrow (by simp) hnl (by simpa using c1) (by simpa using c2) (rd := rd)
        (by rw [hexec, hvn, hv2, c3]; rfl)
      exact this
  · rename_i b
    split at h
    · rename_i q xs lent hbb
      split at h
      · rename_i xs' hcast
        obtain ⟨rfl, hxy⟩ := Kd.cast_eq hcast
        have hxy : xs = xs' := hxy
        subst hxy
        obtain ⟨hc, h⟩ := cond_some h
        simp only [Bool.and_eq_true, decide_eq_true_eq] at hc
        cases h
        obtain ⟨_, ob, g1, _, g2, g3, ⟨g4, g5, g6⟩, g7⟩ := own_row s hvy hbb
        obtain ⟨xs2, rd2, q1, ad1, cap1, olds, q2, q3, q4, q5, _⟩ := asElems_ok (P := P) (R := List q.C) (c := fun ys _ => some ys) (r := xs) s hvy (k := q) (by simp [asElems, hbb, hcast])
        cases q1
        rw [g3] at q2 q4
        cases q2
        have hbm : me ≠ b := by intro h; rw [h, g1] at hf; cases hf
        by_cases hle : xs.length + ys.length ≤ (x.κ b).2
        · have hr := append_in (P := P) (w := w) hΓ ht ht' htd htd' he hk h0 h1 (ty := o.type) (base := ob.map fun blk => ⟨blk, 0, none⟩) (sLen := xs.length) (sCap := (x.κ b).2) (n := ys.length) (ad := ad) (cap := cap) (news := news) (by have := hnew w rfl; rw [hv2] at this; exact this) hle
          cases ob with
          | some blk =>
            refine ok_append_in s hd hf hbb g1 hle hrow hnl hone ?_
            rw [hexec, g3, hv2, hr]
            simp only [Option.map_some, addr_add, Nat.zero_add]
            cases (storeCells ⟨blk, xs.length * q.sz, none⟩ news).run P w <;> rfl
          | none =>
            -- no row, nothing appended
            have hκ : x.κ b = (0, 0) := by
              rcases g6 with ⟨_, g6⟩ | ⟨_, _, _, g6, _⟩
              · exact g6
              · cases g6
            have h0 : xs.length = 0 ∧ ys.length = 0 := by rw [hκ] at hle; simp only [] at hle; omega
            obtain rfl : xs = [] := List.eq_nil_of_length_eq_zero h0.1
            obtain rfl : ys = [] := List.eq_nil_of_length_eq_zero h0.2
            refine ok_none s hd hf hbb hκ ?_
            rw [hexec, g3, hv2, hr, hκ]; rfl
        · obtain ⟨c, rest, c1, c2, c3⟩ := append_grow (P := P) (w := w) hΓ ht ht' htd htd' he hk hb h0 h1 (ty := o.type) (base := ob.map fun blk => ⟨blk, 0, none⟩) (sLen := xs.length) (sCap := (x.κ b).2) (n := ys.length) (ad := ad) (cap := cap) (news := news) (olds := olds)
            (fun w' hw' => by have := hnew w' hw'; rw [hv2] at this; exact this) q4 hc.1 hle
          exact ok_append_new (P := P) (o := o) (me := me) hΓ s hd hf (e := e) (l := [(b, none)]) lent (updH_kill hbm) q5 hrow q3 hnl c1 c2 (by rw [hexec, g3, hv2, c3]; rfl)
      · cases h
    · cases h
  · cases h
end
end Go.Proofs.YtihhgenbkiollaaGreat
