import PyProof.Rows.All
import Wide.All
import OpenK.AllK
import Wide.FinOn
import KE.KDictKeyed
import KE.KeyNested
import KE.SortData
import KE.DataEq
import KE.DataMinMax
import KE.DataAny
import HandS.ForMost
import HandS.ForExc
import HandS.Wide
import HandS.TupAny
import HandS.TupMul
import HandS.TupLe
import HandS.Deep
import HandS.IsInst
import HandS.Conv
import HandS.Strs
import HandS.Style
import HandS.Defaults
import HandS.Lambda
import HandS.Star
import HandS.SortKw
import KE.DataIsa
import HandS.SetFor
import KE.SortLaws
import KE.GoesEnum
import KE.GoesMore
import PyProof.SetRoads
import KE.KTupSum
import KE.DataFind
import KE.KIndexOf
import KE.KDictWalk
import KE.KDictList
import HandS.TupSets
import HandS.TupLen
import HandS.HeadHook1
import HandS.HeadHook2
import HandS.HeadHook4
import HandS.HeadEnd
import PySem.Challenge.RW_gatherers_k76_whole_drawn_guests
import Lean
import KE.KStateDown
import HandS.Ends
import HandS.More
import HandS.Words
import HandS.WordsExc
import HandS.Head0
import HandS.Head1
import HandS.Head2
set_option Elab.async false
set_option linter.all false
set_option maxRecDepth 100000
/-! G0: draws, values, how values lie in the abstract heap, what an expression is worth. -/
namespace G
open PySem PySem.Spec PyProof.Rows L2

abbrev D := PyData

/-- a run with draws: a draw of k gives any number below k -/
inductive T (α : Type) where
  | ret (a : α)
  | fail
  | draw (k : Nat) (f : Nat → T α)

namespace T
def bind {α β : Type} : T α → (α → T β) → T β
  | .ret a, f => f a
  | .fail, _ => .fail
  | .draw k g, f => .draw k fun d => (g d).bind f
/-- whatever is drawn, the run ends well and K holds of its end -/
def wp {α : Type} : T α → (α → Prop) → Prop
  | .ret a, K => K a
  | .fail, _ => False
  | .draw k g, K => ∀ d, d < k → (g d).wp K
theorem wp_bind {α β : Type} : ∀ (t : T α) (f : α → T β) (K : β → Prop), (t.bind f).wp K ↔ t.wp fun a => (f a).wp K
  | .ret _, _, _ => Iff.rfl
  | .fail, _, _ => Iff.rfl
  | .draw k g, f, K => ⟨fun h d hd => (wp_bind (g d) f K).mp (h d hd), fun h d hd => (wp_bind (g d) f K).mpr (h d hd)⟩
theorem wp_mono {α : Type} : ∀ {t : T α} {K K' : α → Prop}, t.wp K → (∀ a, K a → K' a) → t.wp K'
  | .ret _, _, _, h, i => i _ h
  | .fail, _, _, h, _ => h
  | .draw k g, _, _, h, i => fun d hd => wp_mono (h d hd) i
def map {α β : Type} (f : α → β) (t : T α) : T β := t.bind fun a => .ret (f a)
/-- of an option -/
def ofO {α : Type} : Option α → T α
  | some a => .ret a
  | none => .fail
/-- if b then t, else nothing good -/
def must {α : Type} (b : Bool) (t : T α) : T α := match b with
  | true => t
  | false => .fail
theorem wp_must {α : Type} {b : Bool} {t : T α} {K : α → Prop} (h : (must b t).wp K) : b = true ∧ t.wp K := by
  cases b with
  | true => exact ⟨rfl, h⟩
  | false => exact h.elim
theorem wp_ofO {α : Type} {o : Option α} {K : α → Prop} (h : (ofO o).wp K) : ∃ a, o = some a ∧ K a := by
  cases o with
  | none => exact h.elim
  | some a => exact ⟨a, rfl, h⟩
end T

/-! ### values -/
inductive W where
  | d (x : D)
  /-- the row of the draws -/
  | row
  /-- a dict that is walked, and so may not be changed -/
  | lk (kvs : List (D × D))

mutual
/-- no list and no dict lies within -/
def imm : D → Bool
  | .none | .bool _ | .int _ | .str _ => true
  | .tuple xs => immAll xs
  | .list _ | .dict _ => false
def immAll : List D → Bool
  | [] => true
  | x :: xs => imm x && immAll xs
end
def W.imm : W → Bool
  | .d x => G.imm x
  | .row => true
  | .lk _ => false

/-! ### how values lie in the heap -/
/-- the entries of a dict: hash, key, value -/
def EsR (kvs : List (Int × V × V)) (es : List DictEntry) : Prop := Paired (fun (p : Int × V × V) (e : DictEntry) => e.hash = p.1 ∧ RelV p.2.1 e.key ∧ RelV p.2.2 e.val) kvs es
/-- a dict, by its entries -/
def DX (a : Addr) (kvs : List (Int × V × V)) : HO := .ext fun h => ∃ es ep, h.DictRaw a es ep ∧ EsR kvs es.toList ∧ kvs.length ≤ sizeLine ∧ (a == sysModules) = false

/-- what hash() gives of a key -/
def keyN : D → NestedKey
  | .none => .none
  | .bool b => .num (if b = true then 1 else 0)
  | .int i => .num i
  | .str x => .text x
  | .tuple xs => .tup (go xs)
  | .list _ => .none
  | .dict _ => .none
where go : List D → List NestedKey
  | [] => []
  | x :: xs => keyN x :: go xs

/-- the entries with their hashes -/
def hs (w : World) (ps : List (NestedKey × V × V)) : List (Int × V × V) := ps.map fun p => (p.1.hash w, p.2.1, p.2.2)
mutual
/-- at v stands the datum d; F: the objects in it that may be changed -/
inductive Rp (w : World) (K : PySem.W.Frag) (H : Hp) : V → D → List Addr → Prop
  | non : Rp w K H .non .none []
  | bl (b : Bool) : Rp w K H (.bl b) (.bool b) []
  | int (i : Int) : Rp w K H (.int i) (.int i) []
  | str (x : Str) : Rp w K H (.str x) (.str x) []
  | lst {a : Addr} {xs : List V} {ds : List D} {F : List Addr} : H a = some (.lst xs) → RpA w K H xs ds F → Rp w K H (.ref a) (.list ds) (a :: F)
  | tup {a : Addr} {xs : List V} {ds : List D} {F : List Addr} : SqT K H a xs → RpA w K H xs ds F → Rp w K H (.ref a) (.tuple ds) F
  | dct {a : Addr} {ps : List (NestedKey × V × V)} {kvs : List (D × D)} {F : List Addr} : H a = some (DX a (hs w ps)) → RpD w K H ps kvs F → (ps.map (·.1)).Nodup → Rp w K H (.ref a) (.dict kvs) (a :: F)
inductive RpA (w : World) (K : PySem.W.Frag) (H : Hp) : List V → List D → List Addr → Prop
  | nil : RpA w K H [] [] []
  | cons {v : V} {vs : List V} {d : D} {ds : List D} {F F' : List Addr} : Rp w K H v d F → RpA w K H vs ds F' → RpA w K H (v :: vs) (d :: ds) (F ++ F')
/-- entries of a dict -/
inductive RpD (w : World) (K : PySem.W.Frag) (H : Hp) : List (NestedKey × V × V) → List (D × D) → List Addr → Prop
  | nil : RpD w K H [] [] []
  | cons {n : NestedKey} {u v : V} {k d : D} {ps : List (NestedKey × V × V)} {kvs : List (D × D)} {F F' : List Addr} : n = keyN k → Rp w K H u k [] → Rp w K H v d F → RpD w K H ps kvs F' → RpD w K H ((n, u, v) :: ps) ((k, d) :: kvs) (F ++ F')
end

end G

set_option Elab.async false
set_option linter.all false
set_option maxRecDepth 100000
/-! G1: the order of heaps, what stays, the contexts. -/
namespace G
open PySem PySem.Spec PyProof.Rows L2

structure Dyn where
  P : Program
  w : World
  K : PySem.W.Frag
  mg : Str → Option Value
  base : Heap

/-- what a value may not touch: the row of the draws (over the script xs at scr), hidden things -/
structure Rw where
  row : Option Addr
  scr : Addr
  xs : List Int
  hid : Addr → Prop
  /-- the dict that is walked -/
  lk : Option Addr
def Away (R : Rw) (F : List Addr) : Prop := ∀ a ∈ F, R.row ≠ some a ∧ ¬ R.hid a
theorem Away.nil {R : Rw} : Away R [] := fun _ h => nomatch h
theorem Away.cons {R : Rw} {a : Addr} {F : List Addr} (h : R.row ≠ some a ∧ ¬ R.hid a) (aw : Away R F) : Away R (a :: F) := fun b hb => by
  rcases List.mem_cons.mp hb with rfl | hb
  · exact h
  · exact aw b hb
theorem Away.app {R : Rw} {F F' : List Addr} (a : Away R F) (b : Away R F') : Away R (F ++ F') := fun r z => (List.mem_append.mp z).elim (a r) (b r)
theorem Away.left {R : Rw} {F F' : List Addr} (a : Away R (F ++ F')) : Away R F := fun r z => a r (List.mem_append_left _ z)
theorem Away.right {R : Rw} {F F' : List Addr} (a : Away R (F ++ F')) : Away R F' := fun r z => a r (List.mem_append_right _ z)

/-- the row of the draws stands at r -/
def RowOk (R : Rw) (K : PySem.W.Frag) (H : Hp) (r : Addr) : Prop :=
  ∃ (a b c : Int), H r = some (.lst [.ref R.scr, .int a, .int b, .int c]) ∧ SqL K H R.scr (R.xs.map V.int) ∧ ((∀ G, SqL K G R.scr (R.xs.map V.int)) ∨ R.scr ≠ r) ∧ R.xs.length ≤ 63 ∧ 0 ≤ a ∧ 0 ≤ b ∧ b < 4294967296
structure RowI (R : Rw) (K : PySem.W.Frag) (H : Hp) : Prop where
  row : ∀ r, R.row = some r → RowOk R K H r
  hid : ∀ a, R.hid a → ∃ o, H a = some o

/-- H' is H grown (the row may have turned) -/
structure Le (R : Rw) (K : PySem.W.Frag) (H H' : Hp) : Prop where
  keep : ∀ a o, R.row ≠ some a → H a = some o → H' a = some o
  there : ∀ a o, H a = some o → ∃ o', H' a = some o'
  rowR : (∀ r, R.row = some r → RowOk R K H r) → ∀ r, R.row = some r → RowOk R K H' r
theorem Le.row {R : Rw} {K : PySem.W.Frag} {H H' : Hp} (l : Le R K H H') (ri : RowI R K H) : RowI R K H' := ⟨l.rowR ri.row, fun a h => let ⟨o, e⟩ := ri.hid a h; l.there a o e⟩
/-- more is hidden -/
def Rw.hide (R : Rw) (p : Addr → Prop) : Rw := ⟨R.row, R.scr, R.xs, fun a => R.hid a ∨ p a, R.lk⟩
theorem Le.hide {R : Rw} {K : PySem.W.Frag} {H H' : Hp} {p : Addr → Prop} (l : Le R K H H') : Le (R.hide p) K H H' := ⟨l.keep, l.there, l.rowR⟩
theorem Le.unhide {R : Rw} {K : PySem.W.Frag} {H H' : Hp} {p : Addr → Prop} (l : Le (R.hide p) K H H') : Le R K H H' := ⟨l.keep, l.there, l.rowR⟩
theorem DX_ne_frz {a b : Addr} {ps : List (Int × V × V)} {o : Obj} {u : HO} : DX a ps ≠ .frz o u := by intro h; cases h
theorem DX_ne_lst {a : Addr} {ps : List (Int × V × V)} {xs : List V} : DX a ps ≠ .lst xs := by intro h; cases h
theorem DX_ne_tup {a : Addr} {ps : List (Int × V × V)} {xs : List V} : DX a ps ≠ .tup xs := by intro h; cases h
theorem Le.refl {R : Rw} {K : PySem.W.Frag} {H : Hp} : Le R K H H := ⟨fun _ _ _ h => h, fun _ o h => ⟨o, h⟩, fun h => h⟩
theorem Le.trans {R : Rw} {K : PySem.W.Frag} {H H1 H2 : Hp} (a : Le R K H H1) (b : Le R K H1 H2) : Le R K H H2 := by
  exact ⟨fun x o hr h => b.keep x o hr (a.keep x o hr h), fun x o h => let ⟨o', h'⟩ := a.there x o h; b.there x o' h', fun h => b.rowR (a.rowR h)⟩
section
variable {R : Rw} {K : PySem.W.Frag} {H H' : Hp} {a : Addr} {w : World}
theorem lst_le (l : Le R K H H') (hr : R.row ≠ some a) {xs : List V} (h : H a = some (.lst xs)) : H' a = some (.lst xs) := l.keep a _ hr h
theorem rd_tup_le (l : Le R K H H') (hr : R.row ≠ some a) {xs : List V} (h : Rd H a (.tup xs)) : Rd H' a (.tup xs) := by
  rcases h with h | ⟨o, h⟩
  · exact .inl (l.keep a _ hr h)
  · exact .inr ⟨o, l.keep a _ hr h⟩
theorem rd_dx_le (l : Le R K H H') (hr : R.row ≠ some a) {ps : List (Int × V × V)} (h : H a = some (DX a ps)) : H' a = some (DX a ps) := l.keep a _ hr h
theorem row_not_tup (ri : RowI R K H) {xs : List V} (h : Rd H a (.tup xs)) : R.row ≠ some a := by
  intro e
  obtain ⟨i, j, k, hr, _⟩ := ri.row a e
  rcases h with h | ⟨o, h⟩ <;> rw [hr] at h <;> cases h
theorem sqT_le (l : Le R K H H') (ri : RowI R K H) {xs : List V} (h : SqT K H a xs) : SqT K H' a xs := by
  rcases h with h | h
  · exact .inl (rd_tup_le l (row_not_tup ri h) h)
  · exact .inr h
theorem not_row {F : List Addr} (aw : Away R (a :: F)) : R.row ≠ some a := (aw a List.mem_cons_self).1
theorem Away.tail {F : List Addr} (aw : Away R (a :: F)) : Away R F := fun r z => aw r (List.mem_cons_of_mem _ z)
mutual
theorem Rp.le (l : Le R K H H') (ri : RowI R K H) : ∀ {v : V} {d : D} {F : List Addr}, Rp w K H v d F → Away R F → Rp w K H' v d F
  | _, _, _, .non, _ => .non
  | _, _, _, .bl b, _ => .bl b
  | _, _, _, .int i, _ => .int i
  | _, _, _, .str x, _ => .str x
  | _, _, _, .lst h r, aw => .lst (lst_le l (not_row aw) h) (RpA.le l ri r aw.tail)
  | _, _, _, .tup h r, aw => .tup (sqT_le l ri h) (RpA.le l ri r aw)
  | _, _, _, .dct h r e, aw => .dct (rd_dx_le l (not_row aw) h) (RpD.le l ri r aw.tail) e
theorem RpA.le (l : Le R K H H') (ri : RowI R K H) : ∀ {vs : List V} {ds : List D} {F : List Addr}, RpA w K H vs ds F → Away R F → RpA w K H' vs ds F
  | _, _, _, .nil, _ => .nil
  | _, _, _, .cons h r, aw => .cons (Rp.le l ri h aw.left) (RpA.le l ri r aw.right)
theorem RpD.le (l : Le R K H H') (ri : RowI R K H) : ∀ {ps : List (NestedKey × V × V)} {kvs : List (D × D)} {F : List Addr}, RpD w K H ps kvs F → Away R F → RpD w K H' ps kvs F
  | _, _, _, .nil, _ => .nil
  | _, _, _, .cons e k h r, aw => .cons e (Rp.le l ri k Away.nil) (Rp.le l ri h aw.left) (RpD.le l ri r aw.right)
end
theorem tup_ne {p : Addr} (hp : (∃ xs, H p = some (.lst xs)) ∨ ∃ ps, H p = some (DX p ps)) {xs : List V} (h : Rd H a (.tup xs)) : a ≠ p := by
  intro e
  subst e
  rcases hp with ⟨ys, hp⟩ | ⟨ps, hp⟩ <;> rcases h with h | ⟨o, h⟩ <;> rw [hp] at h <;> cases h
theorem sqT_mut {p : Addr} {o : HO} (hp : (∃ xs, H p = some (.lst xs)) ∨ ∃ ps, H p = some (DX p ps)) {xs : List V} (h : SqT K H a xs) : SqT K (upd H p o) a xs := by
  rcases h with h | h
  · have ne := tup_ne hp h
    refine .inl ?_
    rcases h with h | ⟨ob, h⟩
    · exact .inl (by rw [upd_ne ne]; exact h)
    · exact .inr ⟨ob, by rw [upd_ne ne]; exact h⟩
  · exact .inr h
mutual
theorem Rp.mut {p : Addr} {o : HO} (hp : (∃ xs, H p = some (.lst xs)) ∨ ∃ ps, H p = some (DX p ps)) : ∀ {v : V} {d : D} {F : List Addr}, Rp w K H v d F → p ∉ F → Rp w K (upd H p o) v d F
  | _, _, _, .non, _ => .non
  | _, _, _, .bl b, _ => .bl b
  | _, _, _, .int i, _ => .int i
  | _, _, _, .str x, _ => .str x
  | _, _, _, .lst h r, nf => .lst (by rw [upd_ne (fun e => nf (by rw [e]; exact List.mem_cons_self))]; exact h) (RpA.mut hp r fun z => nf (List.mem_cons_of_mem _ z))
  | _, _, _, .tup h r, nf => .tup (sqT_mut hp h) (RpA.mut hp r nf)
  | _, _, _, .dct (a := a) h r e, nf => .dct (by
      have ne : a ≠ p := fun e => nf (by rw [e]; exact List.mem_cons_self)
      rw [upd_ne ne]; exact h) (RpD.mut hp r fun z => nf (List.mem_cons_of_mem _ z)) e
theorem RpA.mut {p : Addr} {o : HO} (hp : (∃ xs, H p = some (.lst xs)) ∨ ∃ ps, H p = some (DX p ps)) : ∀ {vs : List V} {ds : List D} {F : List Addr}, RpA w K H vs ds F → p ∉ F → RpA w K (upd H p o) vs ds F
  | _, _, _, .nil, _ => .nil
  | _, _, _, .cons h r, nf => .cons (Rp.mut hp h fun z => nf (List.mem_append_left _ z)) (RpA.mut hp r fun z => nf (List.mem_append_right _ z))
theorem RpD.mut {p : Addr} {o : HO} (hp : (∃ xs, H p = some (.lst xs)) ∨ ∃ ps, H p = some (DX p ps)) : ∀ {ps : List (NestedKey × V × V)} {kvs : List (D × D)} {F : List Addr}, RpD w K H ps kvs F → p ∉ F → RpD w K (upd H p o) ps kvs F
  | _, _, _, .nil, _ => .nil
  | _, _, _, .cons e k h r, nf => .cons e (Rp.mut hp k fun z => nomatch z) (Rp.mut hp h fun z => nf (List.mem_append_left _ z)) (RpD.mut hp r fun z => nf (List.mem_append_right _ z))
end
mutual
theorem Rp.imm : ∀ {v : V} {d : D} {F : List Addr}, Rp w K H v d F → imm d = true → F = []
  | _, _, _, .non, _ => rfl
  | _, _, _, .bl b, _ => rfl
  | _, _, _, .int i, _ => rfl
  | _, _, _, .str x, _ => rfl
  | _, _, _, .lst h r, e => by simp [G.imm] at e
  | _, _, _, .tup h r, e => RpA.imm r (by simpa [G.imm] using e)
  | _, _, _, .dct h r _, e => by simp [G.imm] at e
theorem RpA.imm : ∀ {vs : List V} {ds : List D} {F : List Addr}, RpA w K H vs ds F → immAll ds = true → F = []
  | _, _, _, .nil, _ => rfl
  | _, d :: ds, _, .cons h r, e => by
    have e' : G.imm d = true ∧ immAll ds = true := by simpa [immAll] using e
    rw [Rp.imm h e'.1, RpA.imm r e'.2]
    rfl
end
mutual
/-- all of it is tracked -/
theorem Rp.tracked : ∀ {v : V} {d : D} {F : List Addr}, Rp w K H v d F → ∀ a ∈ F, ∃ o, H a = some o
  | _, _, _, .non => fun a h => nomatch h
  | _, _, _, .bl b => fun a h => nomatch h
  | _, _, _, .int i => fun a h => nomatch h
  | _, _, _, .str x => fun a h => nomatch h
  | _, _, _, .lst (xs := xs) h r => fun b hb => (List.mem_cons.mp hb).elim (fun e => ⟨.lst xs, by rw [e]; exact h⟩) (RpA.tracked r b)
  | _, _, _, .tup h r => RpA.tracked r
  | _, _, _, .dct (a := a) h r _ => fun b hb => (List.mem_cons.mp hb).elim (fun e => by
      rw [e]
      exact ⟨_, h⟩) (RpD.tracked r b)
theorem RpA.tracked : ∀ {vs : List V} {ds : List D} {F : List Addr}, RpA w K H vs ds F → ∀ a ∈ F, ∃ o, H a = some o
  | _, _, _, .nil => fun a h => nomatch h
  | _, _, _, .cons h r => fun b hb => (List.mem_append.mp hb).elim (Rp.tracked h b) (RpA.tracked r b)
theorem RpD.tracked : ∀ {ps : List (NestedKey × V × V)} {kvs : List (D × D)} {F : List Addr}, RpD w K H ps kvs F → ∀ a ∈ F, ∃ o, H a = some o
  | _, _, _, .nil => fun a h => nomatch h
  | _, _, _, .cons _ _ h r => fun b hb => (List.mem_append.mp hb).elim (Rp.tracked h b) (RpD.tracked r b)
end
theorem RpA.length : ∀ {vs : List V} {ds : List D} {F : List Addr}, RpA w K H vs ds F → vs.length = ds.length
  | _, _, _, .nil => rfl
  | _, _, _, .cons _ r => by rw [List.length_cons, List.length_cons, RpA.length r]
theorem RpA.get : ∀ {vs : List V} {ds : List D} {F : List Addr} {i : Nat} {d : D}, RpA w K H vs ds F → ds[i]? = some d → ∃ v F', vs[i]? = some v ∧ Rp w K H v d F' ∧ ∀ a ∈ F', a ∈ F
  | _, _, _, i, _, .nil, h => by simp at h
  | _, _, _, 0, _, .cons h r, e => by
    have e := Option.some.inj (show some _ = some _ from e)
    subst e
    exact ⟨_, _, rfl, h, fun a ha => List.mem_append_left _ ha⟩
  | _, d :: ds, _, i + 1, _, .cons h r, e => by
    obtain ⟨v, F', h1, h2, h3⟩ := RpA.get r (show ds[i]? = some _ from e)
    exact ⟨v, F', h1, h2, fun a ha => List.mem_append_right _ (h3 a ha)⟩
theorem RpA.getV : ∀ {vs : List V} {ds : List D} {F : List Addr} {i : Nat} {v : V}, RpA w K H vs ds F → vs[i]? = some v → ∃ d F', ds[i]? = some d ∧ Rp w K H v d F' ∧ ∀ a ∈ F', a ∈ F
  | _, _, _, i, _, .nil, h => by simp at h
  | _, _, _, 0, _, .cons h r, e => by
    have e := Option.some.inj (show some _ = some _ from e)
    subst e
    exact ⟨_, _, rfl, h, fun a ha => List.mem_append_left _ ha⟩
  | v :: vs, _, _, i + 1, _, .cons h r, e => by
    obtain ⟨v, F', h1, h2, h3⟩ := RpA.getV r (show vs[i]? = some _ from e)
    exact ⟨v, F', h1, h2, fun a ha => List.mem_append_right _ (h3 a ha)⟩
theorem RpA.app : ∀ {vs ws : List V} {ds es : List D} {F F' : List Addr}, RpA w K H vs ds F → RpA w K H ws es F' → RpA w K H (vs ++ ws) (ds ++ es) (F ++ F')
  | _, _, _, _, _, _, .nil, s => s
  | _, _, _, _, _, _, .cons (F := F1) (F' := F2) h r, s => by
    rw [List.append_assoc]
    exact .cons h (RpA.app r s)
/-! data of no dict, for the library's rules -/
mutual
theorem Rp.dp : ∀ {v : V} {d : D} {F : List Addr}, Rp w K H v d F → d.plain = true → Dp K H v d
  | _, _, _, .non, _ => .non
  | _, _, _, .bl b, _ => .bl b
  | _, _, _, .int i, _ => .int i
  | _, _, _, .str x, _ => .str x
  | _, _, _, .lst h r, e => .lst (SqL.of h) (RpA.dp r (by simpa [PyData.plain] using e))
  | _, _, _, .tup h r, e => .tup h (RpA.dp r (by simpa [PyData.plain] using e))
  | _, _, _, .dct h r _, e => by simp [PyData.plain] at e
theorem RpA.dp : ∀ {vs : List V} {ds : List D} {F : List Addr}, RpA w K H vs ds F → PyData.plainAll ds = true → DpAll K H vs ds
  | _, _, _, .nil, _ => .nil
  | _, d :: ds, _, .cons h r, e => by
    have e' : PyData.plain d = true ∧ PyData.plainAll ds = true := by simpa [PyData.plainAll] using e
    exact .cons (Rp.dp h e'.1) (RpA.dp r e'.2)
end
theorem Le.new {p : Addr} {o : HO} (h : H p = none) : Le R K H (upd H p o) := by
  refine ⟨fun a u _ e => ?_, fun a u e => ⟨u, ?_⟩, fun ri r e => ?_⟩
  · rw [upd_ne (ne_of_none e h)]; exact e
  · rw [upd_ne (ne_of_none e h)]; exact e
  · obtain ⟨a, b, c, h1, h2, h3⟩ := ri r e
    refine ⟨a, b, c, by rw [upd_ne (ne_of_none h1 h)]; exact h1, ?_, h3⟩
    rcases h2 with h2 | h2
    · rcases h2 with h2 | ⟨ob, h2⟩
      · exact .inl (.inl (by rw [upd_ne (ne_of_none h2 h)]; exact h2))
      · exact .inl (.inr ⟨ob, by rw [upd_ne (ne_of_none h2 h)]; exact h2⟩)
    · exact .inr h2
theorem Le.fresh {p : Addr} (l : Le R K H H') (h : H' p = none) : H p = none := by
  cases e : H p with
  | none => rfl
  | some o =>
    obtain ⟨o', h1⟩ := l.there p o e
    rw [h] at h1; cases h1
theorem Le.freshR {p : Addr} (l : Le R K H H') (_ : RowI R K H) (h : H' p = none) : H p = none := l.fresh h
end

def RpW (Y : Dyn) (R : Rw) (H : Hp) : V → W → List Addr → Prop
  | v, .d x, F => Rp Y.w Y.K H v x F
  | v, .row, F => F = [] ∧ ∃ r, R.row = some r ∧ v = .ref r
  | v, .lk kvs, F => ∃ d o ps, R.lk = some d ∧ v = .ref d ∧ H d = some (.frz o (DX d (hs Y.w ps))) ∧ RpD Y.w Y.K H ps kvs F ∧ (ps.map (·.1)).Nodup
section
variable {Y : Dyn} {R : Rw} {H H' : Hp} {v : V} {x : W} {F : List Addr}
theorem row_not_frz (ri : RowI R Y.K H) {a : Addr} {o : Obj} {u : HO} (h : H a = some (.frz o u)) : R.row ≠ some a := by
  intro e
  obtain ⟨i, j, k, hr, _⟩ := ri.row a e
  rw [hr] at h; cases h
theorem RpW.le (l : Le R Y.K H H') (ri : RowI R Y.K H) (r : RpW Y R H v x F) (aw : Away R F) : RpW Y R H' v x F := by
  cases x with
  | d d => exact Rp.le l ri r aw
  | row => exact r
  | lk kvs =>
    obtain ⟨d, o, ps, h1, h2, h3, h4, h5⟩ := r
    exact ⟨d, o, ps, h1, h2, l.keep d _ (row_not_frz ri h3) h3, RpD.le l ri h4 aw, h5⟩
theorem RpW.imm (r : RpW Y R H v x F) (h : x.imm = true) : F = [] := by
  cases x with
  | d d => exact Rp.imm r h
  | row => exact r.1
  | lk kvs => cases h
theorem RpW.tracked (r : RpW Y R H v x F) : ∀ a ∈ F, ∃ o, H a = some o := by
  cases x with
  | d d => exact Rp.tracked r
  | row => rw [r.1]; intro a h; cases h
  | lk kvs =>
    obtain ⟨d, o, ps, h1, h2, h3, h4, h5⟩ := r
    exact RpD.tracked h4
end

/-- all made since H, each once -/
def Uniq (H : Hp) (F : List Addr) : Prop := F.Nodup ∧ ∀ a ∈ F, H a = none
theorem Uniq.nil {H : Hp} : Uniq H [] := ⟨List.nodup_nil, fun _ h => nomatch h⟩

/-! ### the frame's values -/
structure Slot where
  /-- 0: its own objects; 1: made in this call, others may hold them; 2: from outside -/
  fl : Nat
  w : W
abbrev En := List (Option Slot)
structure RelW (Y : Dyn) (R : Rw) (H : Hp) (en : En) (σ : L2.St) : Prop where
  ri : RowI R Y.K H
  len : en.length = σ.length
  at_ : ∀ (i : Nat) (s : Slot), en[i]? = some (some s) → ∃ v F, σ[i]? = some (some v) ∧ RpW Y R H v s.w F ∧ Away R F
theorem RelW.le {Y : Dyn} {R : Rw} {H H' : Hp} {en : En} {σ : L2.St} (r : RelW Y R H en σ) (l : Le R Y.K H H') : RelW Y R H' en σ :=
  ⟨l.row r.ri, r.len, fun i s e => let ⟨v, F, h1, h2, h3⟩ := r.at_ i s e; ⟨v, F, h1, h2.le l r.ri h3, h3⟩⟩

/-! ### the static side -/
/-- a def that is known: its name, its parameters, its level, what it is worth -/
structure FE where
  name : Str
  ps : List Str
  lv : Nat
  phi : List W → T W
/-- where one stands: the names by slot, the scope, the names that may be assigned, the level, the defs, the constants, the built-ins -/
structure Sc where
  N : List Str
  sc : Scope
  own : List Str
  lv : Nat
  tab : List FE
  cons : List (Str × D)
  blt : List Str
structure Sx (c : Sc) (Y : Dyn) (X : Cx) : Prop where
  prog : X.prog = Y.P
  w : X.w = Y.w
  K : X.K = Y.K
  mg : X.mg = Y.mg
  base : X.base = Y.base
  N : X.N = c.N
  sc : X.env.scope = c.sc
  calm : X.calm = true
  room : Room c.lv X.A
  nd : c.N.Nodup
  fn : ∀ x ∈ c.own, X.fn x = true ∨ X.env.scope.names.lookup x = some .local

def RpWs (Y : Dyn) (R : Rw) (H : Hp) : List V → List W → List Addr → Prop
  | [], [], F => F = []
  | v :: vs, x :: xs, F => ∃ F1 F2, F = F1 ++ F2 ∧ RpW Y R H v x F1 ∧ RpWs Y R H vs xs F2
  | _, _, _ => False
/-- what is wanted of a value that has come -/
def Kv (Y : Dyn) (R : Rw) (H : Hp) (uq : Bool) (Q : VK) (x : W) : Prop :=
  ∀ v H' F, Le R Y.K H H' → RpW Y R H' v x F → Away R F → (uq = true → Uniq H F) → Q v H'
/-- a def's promise -/
def spOf (Y : Dyn) (n : Nat) (phi : List W → T W) : Sp := fun vs H Q _ => vs.length = n ∧ ∃ (R : Rw) (xs : List W) (F : List Addr),
  RowI R Y.K H ∧ RpWs Y R H vs xs F ∧ Away R F ∧ (phi xs).wp (Kv Y R H true Q)
structure FnIs (Y : Dyn) (e : FE) : Prop where
  is : ∃ f fd, Y.mg e.name = some (.ref f) ∧ PySem.W.keepIn Y.K (.ref f) = true ∧ Binds Y.K fd e.ps [] ∧ FnOk Y.P Y.w Y.K Y.mg Y.base CX0 e.lv f fd e.ps (spOf Y e.ps.length e.phi)
structure DynOk (c : Sc) (Y : Dyn) : Prop where
  tab : ∀ e ∈ c.tab, FnIs Y e
  cons : ∀ p ∈ c.cons, ∃ u v, Y.mg p.1 = some u ∧ RelV v u ∧ ∀ H, Rp Y.w Y.K H v p.2 []
  blt : ∀ b ∈ c.blt, Y.mg b = none

/-- the expression e is worth m; uq: what it gives is its own, or nothing that changes -/
def SE (c : Sc) (e : Expr) (m : En → T W) (uq : Bool) : Prop :=
  ∀ (Y : Dyn) (X : Cx), Sx c Y X → DynOk c Y → ∃ t : TE, PE X e t ∧ ∀ R en σ H Q, RelW Y R H en σ → (m en).wp (Kv Y R H uq Q) → t σ H Q
/-- a test -/
def ST (c : Sc) (e : Expr) (m : En → T Bool) : Prop :=
  ∀ (Y : Dyn) (X : Cx), Sx c Y X → DynOk c Y → ∃ t : TT, PT X e t ∧ ∀ R en σ H (Q : Bool → Hp → Prop), RelW Y R H en σ → (m en).wp (fun b => ∀ H', Le R Y.K H H' → Q b H') → t σ H Q
/-- arguments, from the left -/
def Kvs (Y : Dyn) (R : Rw) (H : Hp) (uq : Bool) (Q : List V → Hp → Prop) (xs : List W) : Prop :=
  ∀ vs H' F, Le R Y.K H H' → RpWs Y R H' vs xs F → Away R F → (uq = true → Uniq H F) → Q vs H'
def SA (c : Sc) (es : List Expr) (m : En → T (List W)) (uq : Bool) : Prop :=
  ∀ (Y : Dyn) (X : Cx), Sx c Y X → DynOk c Y → ∃ t : TA, PA X es t ∧ ∀ R en σ H Q, RelW Y R H en σ → (m en).wp (Kvs Y R H uq Q) → t σ H Q
end G

set_option Elab.async false
set_option linter.all false
set_option maxRecDepth 100000
/-! G2: what expressions are worth, one rule a construct. -/
namespace G
open PySem PySem.Spec PyProof.Rows L2

section
variable {Y : Dyn} {R : Rw} {H H1 H' : Hp} {uq : Bool} {Q : VK} {x y : W} {v : V} {F : List Addr} {c : Sc} {e e1 e2 e3 : Expr} {pos : Pos}

theorem Uniq.back (l : Le R Y.K H H1) (ri : RowI R Y.K H) (u : Uniq H1 F) : Uniq H F := ⟨u.1, fun a ha => l.freshR ri (u.2 a ha)⟩
theorem Kv.back (l : Le R Y.K H H1) (ri : RowI R Y.K H) (k : Kv Y R H uq Q x) : Kv Y R H1 uq Q x :=
  fun v H' F l' r aw u => k v H' F (l.trans l') r aw fun h => (u h).back l ri
theorem Kv.here (k : Kv Y R H uq Q x) (r : RpW Y R H v x []) : Q v H := k v H [] Le.refl r Away.nil fun _ => Uniq.nil
theorem Kv.weak (k : Kv Y R H false Q x) : Kv Y R H uq Q x := fun v H' F l r aw u => k v H' F l r aw fun h => nomatch h
/-- a new object -/
theorem RowI.away (ri : RowI R Y.K H) {p : Addr} (h : H p = none) : R.row ≠ some p ∧ ¬ R.hid p := by
  refine ⟨fun e => ?_, fun e => ?_⟩
  · obtain ⟨a, b, c, h1, _⟩ := ri.row p e
    rw [h] at h1; cases h1
  · obtain ⟨o, h1⟩ := ri.hid p e
    rw [h] at h1; cases h1
theorem Kv.lst {p : Addr} {vs : List V} {ds : List D} (ri : RowI R Y.K H) (k : Kv Y R H uq Q (.d (.list ds))) (hp : H p = none) (r : RpA Y.w Y.K H vs ds F) (aw : Away R F) (u : uq = true → Uniq H F) (hF : F = [] ∨ True) (im : uq = true → F = []) : Q (.ref p) (upd H p (.lst vs)) := by
  have l : Le R Y.K H (upd H p (.lst vs)) := Le.new hp
  refine k _ _ (p :: F) l (.lst upd_same (RpA.le l ri r aw)) (Away.cons (ri.away hp) aw) fun h => ?_
  · rw [im h]
    exact ⟨by simp, fun a ha => by rw [List.mem_singleton.mp ha]; exact hp⟩

/-! ### names, constants -/
def mVar (i : Nat) : En → T W := fun en => match en[i]? with
  | some (some s) => .ret s.w
  | _ => .fail
theorem se_var {i : Nat} {nm : Str} (hi : c.N[i]? = some nm) (hv : Vis c.sc nm) (hd : (nm == ("__debug__" : Str)) = false) (hcd : (nm == ("__classdict__" : Str)) = false) : SE c (.Name nm pos) (mVar i) false := by
  intro Y X sx dy
  refine ⟨_, pe_var (by rw [sx.N]; exact hi) (by rw [sx.sc]; exact hv) hd hcd, fun R en σ H Q rel h => ?_⟩
  unfold mVar at h
  split at h
  · rename_i s hs
    obtain ⟨v, F, h1, h2, h3⟩ := rel.at_ i s hs
    exact ⟨v, h1, h v H F Le.refl h2 h3 fun z => nomatch z⟩
  · exact h.elim
def mC (d : D) : En → T W := fun _ => .ret (.d d)
theorem se_int {i : Int} {j} : SE c (.Constant (.int i) j pos) (mC (.int i)) true := fun Y X sx dy => ⟨_, pe_int, fun R en σ H Q rel h => Kv.here h (.int i)⟩
theorem se_bl {b : Bool} {j} : SE c (.Constant (.bool b) j pos) (mC (.bool b)) true := fun Y X sx dy => ⟨_, pe_bl, fun R en σ H Q rel h => Kv.here h (.bl b)⟩
theorem se_non {j} : SE c (.Constant .none j pos) (mC .none) true := fun Y X sx dy => ⟨_, pe_non, fun R en σ H Q rel h => Kv.here h .non⟩
theorem se_str {s : Str} {j} : SE c (.Constant (.str s) j pos) (mC (.str s)) true := fun Y X sx dy => ⟨_, pe_str, fun R en σ H Q rel h => Kv.here h (.str s)⟩
theorem se_glob {nm : Str} {d : D} (hm : (nm, d) ∈ c.cons) (hg : c.sc.names.lookup nm = some .globalImplicit) (hd : (nm == ("__debug__" : Str)) = false) : SE c (.Name nm pos) (mC d) true := by
  intro Y X sx dy
  obtain ⟨u, v, h1, h2, h3⟩ := dy.cons _ hm
  refine ⟨_, pe_glob (v := v) (u := u) (show X.env.scope.names.lookup nm = _ by rw [sx.sc]; exact hg) (by rw [sx.mg]; exact h1) h2 hd, fun R en σ H Q rel h => Kv.here h (h3 H)⟩

/-- the value must hold nothing that changes -/
def mImm (m : En → T W) : En → T W := fun en => (m en).bind fun x => T.must x.imm (.ret x)
theorem SE.own {m : En → T W} (h : SE c e m uq) : SE c e (mImm m) true := by
  intro Y X sx dy
  obtain ⟨t, p, s⟩ := h Y X sx dy
  refine ⟨t, p, fun R en σ H Q rel k => s R en σ H Q rel ?_⟩
  refine T.wp_mono ((T.wp_bind _ _ _).mp k) fun x hx => ?_
  obtain ⟨hi, hx⟩ := T.wp_must hx
  intro v H' F l r aw u
  have e := r.imm hi
  subst e
  exact hx v H' [] l r aw fun _ => Uniq.nil
theorem SE.weak {m : En → T W} (h : SE c e m true) : SE c e m uq := by
  intro Y X sx dy
  obtain ⟨t, p, s⟩ := h Y X sx dy
  refine ⟨t, p, fun R en σ H Q rel k => s R en σ H Q rel (T.wp_mono k fun x kx => ?_)⟩
  exact fun v H' F l r aw u => kx v H' F l r aw fun _ => u rfl

/-! ### two-place operations on values -/
def OpOk (c : Sc) (f : Value → Value → Sem Value) (op : W → W → T W) (uq : Bool) : Prop :=
  ∀ (Y : Dyn) (X : Cx), Sx c Y X → ∃ r : R2, OpR X f r ∧ ∀ R H v u x y F F' Q, RowI R Y.K H → RpW Y R H v x F → Away R F → RpW Y R H u y F' → Away R F' → (op x y).wp (Kv Y R H uq Q) → r v u H Q
def m2 (op : W → W → T W) (ma mb : En → T W) : En → T W := fun en => (ma en).bind fun x => (mb en).bind fun y => op x y
theorem se_two {op : W → W → T W} {f : Value → Value → Sem Value} {ma mb : En → T W} {u1 u2 : Bool} (ha : SE c e1 ma u1) (hb : SE c e2 mb u2) (ho : OpOk c f op uq)
    (hr : ∀ X, ∀ r ta tb, OpR X f r → PE X e1 ta → PE X e2 tb → PE X e (tOp r ta tb)) : SE c e (m2 op ma mb) uq := by
  intro Y X sx dy
  obtain ⟨ta, pa, sa⟩ := ha Y X sx dy
  obtain ⟨tb, pb, sb⟩ := hb Y X sx dy
  obtain ⟨r, pr, sr⟩ := ho Y X sx
  refine ⟨_, hr X r ta tb pr pa pb, fun R en σ H Q rel k => sa R en σ H _ rel ?_⟩
  refine T.wp_mono ((T.wp_bind _ _ _).mp k) fun x kx => ?_
  intro v H1 F l1 r1 aw1 _
  refine sb R en σ H1 _ (rel.le l1) ?_
  refine T.wp_mono ((T.wp_bind _ _ _).mp kx) fun y ky => ?_
  intro u H2 F' l2 r2 aw2 _
  exact sr R H2 v u x y F F' Q (l2.row (l1.row rel.ri)) (r1.le l2 (l1.row rel.ri) aw1) aw1 r2 aw2 (T.wp_mono ky fun z kz => kz.back (l1.trans l2) rel.ri)
theorem se_bin {o : Operator} {op : W → W → T W} {ma mb : En → T W} {u1 u2 : Bool} (ha : SE c e1 ma u1) (hb : SE c e2 mb u2) (ho : OpOk c (binaryOp o) op uq) : SE c (.BinOp e1 o e2 pos) (m2 op ma mb) uq :=
  se_two ha hb ho fun X r ta tb hr pa pb => pe_op hr pa pb
theorem se_cmp {o : CmpOp} {op : W → W → T W} {ma mb : En → T W} {u1 u2 : Bool} (ha : SE c e1 ma u1) (hb : SE c e2 mb u2) (ho : OpOk c (compareOp o) op uq) (hm : behindInMarks o e2 = false) : SE c (.Compare e1 [o] [e2] pos) (m2 op ma mb) uq :=
  se_two ha hb ho fun X r ta tb hr pa pb => pe_cmpR hr pa pb hm

/-- how large a list or text may get -/
def lim : Nat := 100000
theorem lim_size {n : Nat} (h : n ≤ lim) : n ≤ sizeLine := Nat.le_trans h (by decide)
theorem lim_size' {n : Nat} (h : n ≤ lim) : n < sizeLine := Nat.lt_of_le_of_lt h (by decide)

theorem OpR.or {X : Cx} {f : Value → Value → Sem Value} {r r' : R2} (h : OpR X f r) (h' : OpR X f r') : OpR X f (fun x y H Q => r x y H Q ∨ r' x y H Q) := by
  intro pins s σ H x y v u Q I rx ry q
  rcases q with q | q
  · exact h pins s σ H x y v u Q I rx ry q
  · exact h' pins s σ H x y v u Q I rx ry q

def oAdd : W → W → T W
  | .d (.int a), .d (.int b) => .ret (.d (.int (a + b)))
  | .d (.list xs), .d (.list ys) => T.must (immAll xs && immAll ys && Nat.ble (xs.length + ys.length) lim) (.ret (.d (.list (xs ++ ys))))
  | .d (.tuple xs), .d (.tuple ys) => T.must (immAll xs && immAll ys && Nat.ble (xs.length + ys.length) lim) (.ret (.d (.tuple (xs ++ ys))))
  | _, _ => .fail
def oSub : W → W → T W
  | .d (.int a), .d (.int b) => .ret (.d (.int (a - b)))
  | _, _ => .fail
/-- a number below 2 ^ 4000 -/
def fitsB (a : Int) : Bool := decide (a.natAbs < 2 ^ 4000)
def oMul : W → W → T W
  | .d (.int a), .d (.int b) => T.must (fitsB a && fitsB b) (.ret (.d (.int (a * b))))
  | .d (.list xs), .d (.int k) => T.must (immAll xs && Nat.ble (xs.length * k.toNat) lim && decide (-1000 ≤ k) && decide (k ≤ 1000)) (.ret (.d (.list (List.replicate k.toNat xs).flatten)))
  | .d (.tuple xs), .d (.int k) => T.must (immAll xs && Nat.ble xs.length 1000 && decide (k ≤ 1000) && decide (2 ≤ k) && !xs.isEmpty) (.ret (.d (.tuple (List.replicate k.toNat xs).flatten)))
  | _, _ => .fail
def oFdiv : W → W → T W
  | .d (.int a), .d (.int b) => T.must (decide (0 < b) && fitsB b) (.ret (.d (.int (a / b))))
  | _, _ => .fail
def oMod : W → W → T W
  | .d (.int a), .d (.int b) => T.must (decide (0 < b)) (.ret (.d (.int (a % b))))
  | _, _ => .fail
theorem RpA.imm0 {w : World} {K : PySem.W.Frag} {vs : List V} {ds : List D} (r : RpA w K H vs ds F) (h : immAll ds = true) : RpA w K H vs ds [] := by
  have e := r.imm h
  subst e
  exact r
theorem RpA.rep {w : World} {K : PySem.W.Frag} {vs : List V} {ds : List D} (r : RpA w K H vs ds []) : ∀ n : Nat, RpA w K H (List.replicate n vs).flatten (List.replicate n ds).flatten []
  | 0 => .nil
  | n + 1 => by
    rw [List.replicate_succ, List.replicate_succ, List.flatten_cons, List.flatten_cons]
    exact r.app (RpA.rep r n)
theorem newL {p : Addr} {vs : List V} {ds : List D} (ri : RowI R Y.K H) (k : Kv Y R H uq Q (.d (.list ds))) (hp : H p = none) (r : RpA Y.w Y.K H vs ds []) : Q (.ref p) (upd H p (.lst vs)) :=
  Kv.lst ri k hp r Away.nil (fun _ => Uniq.nil) (.inr trivial) fun _ => rfl
theorem newT {p : Addr} {vs : List V} {ds : List D} (ri : RowI R Y.K H) (k : Kv Y R H uq Q (.d (.tuple ds))) (hp : H p = none) (r : RpA Y.w Y.K H vs ds F) (aw : Away R F) (u : uq = true → Uniq H F) : Q (.ref p) (upd H p (.tup vs)) :=
  k _ _ F (Le.new hp) (.tup (SqT.of upd_same) (RpA.le (Le.new hp) ri r aw)) aw u
theorem bleD {a b : Nat} (h : Nat.ble a b = true) : a ≤ b := Nat.le_of_ble_eq_true h
theorem ok_add : OpOk c (binaryOp .Add) oAdd true := by
  intro Y X sx
  refine ⟨_, OpR.or op_add (OpR.or op_cat L2.op_catA), fun R H v u x y F F' Q ri rx ax ry ay k => ?_⟩
  unfold oAdd at k
  split at k
  · cases rx; cases ry
    exact .inl ⟨_, _, rfl, rfl, Kv.here k (.int _)⟩
  · obtain ⟨hb, k⟩ := T.wp_must k
    simp only [Bool.and_eq_true] at hb
    obtain ⟨⟨h1, h2⟩, h3⟩ := hb
    cases rx with
    | lst ha ra =>
      cases ry with
      | lst hb rb =>
        refine .inr (.inl ⟨_, _, _, _, rfl, rfl, ha, hb, ?_, fun p hp => newL ri k hp ((ra.imm0 h1).app (rb.imm0 h2))⟩)
        rw [ra.length, rb.length]
        exact lim_size (bleD h3)
  · obtain ⟨hb, k⟩ := T.wp_must k
    simp only [Bool.and_eq_true] at hb
    obtain ⟨⟨h1, h2⟩, h3⟩ := hb
    cases rx with
    | tup ha ra =>
      cases ry with
      | tup hb rb =>
        rw [sx.K]
        refine .inr (.inr ⟨_, _, _, _, rfl, rfl, ha, hb, ?_, fun e => ?_, fun _ e => ?_, fun _ _ p hp => newT ri k hp ((ra.imm0 h1).app (rb.imm0 h2)) Away.nil fun _ => Uniq.nil⟩)
        · rw [ra.length, rb.length]
          exact lim_size (bleD h3)
        · subst e
          cases ra
          exact Kv.here k (.tup hb (rb.imm0 h2))
        · subst e
          cases rb
          refine Kv.here k ?_
          rw [List.append_nil]
          exact .tup ha (ra.imm0 h1)
  · exact k.elim
theorem ok_sub : OpOk c (binaryOp .Sub) oSub true := by
  intro Y X sx
  refine ⟨_, op_sub, fun R H v u x y F F' Q ri rx ax ry ay k => ?_⟩
  unfold oSub at k
  split at k
  · cases rx; cases ry
    exact ⟨_, _, rfl, rfl, Kv.here k (.int _)⟩
  · exact k.elim
theorem ok_mod : OpOk c (binaryOp .Mod) oMod true := by
  intro Y X sx
  refine ⟨_, op_mod, fun R H v u x y F F' Q ri rx ax ry ay k => ?_⟩
  unfold oMod at k
  split at k
  · obtain ⟨hb, k⟩ := T.wp_must k
    cases rx; cases ry
    exact ⟨_, _, rfl, rfl, of_decide_eq_true hb, Kv.here k (.int _)⟩
  · exact k.elim
theorem fits_log {a : Int} (h : fitsB a = true) : a.natAbs < 2 ^ 4000 := of_decide_eq_true h
theorem ok_mul : OpOk c (binaryOp .Mult) oMul true := by
  intro Y X sx
  refine ⟨_, OpR.or op_mulW (OpR.or op_rep op_repT), fun R H v u x y F F' Q ri rx ax ry ay k => ?_⟩
  unfold oMul at k
  split at k
  · obtain ⟨hb, k⟩ := T.wp_must k
    simp only [Bool.and_eq_true] at hb
    cases rx; cases ry
    exact .inl ⟨_, _, rfl, rfl, wide_mul (fits_log hb.1) (fits_log hb.2) (by decide) (by decide) (by decide), Kv.here k (.int _)⟩
  · obtain ⟨hb, k⟩ := T.wp_must k
    simp only [Bool.and_eq_true, decide_eq_true_eq] at hb
    obtain ⟨⟨⟨h1, h2⟩, h3⟩, h4⟩ := hb
    cases rx with
    | lst ha ra =>
      cases ry
      refine .inr (.inl ⟨_, _, _, rfl, rfl, ha, by omega, by omega, ?_, fun p hp => newL ri k hp ((ra.imm0 h1).rep _)⟩)
      rw [ra.length]
      exact lim_size (bleD h2)
  · obtain ⟨hb, k⟩ := T.wp_must k
    simp only [Bool.and_eq_true, decide_eq_true_eq] at hb
    obtain ⟨⟨⟨⟨h1, h2⟩, h3⟩, h4⟩, h5⟩ := hb
    cases rx with
    | tup ha ra =>
      cases ry
      rw [sx.K]
      refine .inr (.inr ⟨_, _, _, rfl, rfl, ha, ?_, h4, h3, ?_, fun p hp => newT ri k hp ((ra.imm0 h1).rep _) Away.nil fun _ => Uniq.nil⟩)
      · intro e
        subst e
        cases ra
        simp at h5
      · rw [ra.length]
        exact bleD h2
  · exact k.elim
theorem ok_fdiv : OpOk c (binaryOp .FloorDiv) oFdiv true := by
  intro Y X sx
  refine ⟨_, op_fdivW, fun R H v u x y F F' Q ri rx ax ry ay k => ?_⟩
  unfold oFdiv at k
  split at k
  · obtain ⟨hb, k⟩ := T.wp_must k
    simp only [Bool.and_eq_true, decide_eq_true_eq] at hb
    cases rx; cases ry
    exact ⟨_, _, rfl, rfl, wide_div hb.1 (fits_log hb.2) (by decide) (by decide), Kv.here k (.int _)⟩
  · exact k.elim

/-! ### comparisons -/
mutual
/-- no dict in it, at most n deep -/
def flat : Nat → D → Bool
  | _, .none | _, .bool _ | _, .int _ | _, .str _ => true
  | n, .list xs | n, .tuple xs => match n with
    | 0 => false
    | n + 1 => flatAll n xs
  | _, .dict _ => false
def flatAll : Nat → List D → Bool
  | _, [] => true
  | n, x :: xs => flat n x && flatAll n xs
end
mutual
theorem flat_plain : ∀ (n : Nat) (d : D), flat n d = true → d.plain = true ∧ d.depth ≤ n
  | n, .none, _ => ⟨rfl, by simp [PyData.depth]⟩
  | n, .bool _, _ => ⟨rfl, by simp [PyData.depth]⟩
  | n, .int _, _ => ⟨rfl, by simp [PyData.depth]⟩
  | n, .str _, _ => ⟨rfl, by simp [PyData.depth]⟩
  | 0, .list xs, h => by simp [flat] at h
  | n + 1, .list xs, h => by
    have := flat_plains n xs (by simpa [flat] using h)
    exact ⟨by simpa [PyData.plain] using this.1, by simp only [PyData.depth]; omega⟩
  | 0, .tuple xs, h => by simp [flat] at h
  | n + 1, .tuple xs, h => by
    have := flat_plains n xs (by simpa [flat] using h)
    exact ⟨by simpa [PyData.plain] using this.1, by simp only [PyData.depth]; omega⟩
  | n, .dict _, h => by simp [flat] at h
theorem flat_plains : ∀ (n : Nat) (ds : List D), flatAll n ds = true → PyData.plainAll ds = true ∧ PyData.depthAll ds ≤ n
  | n, [], _ => ⟨by simp [PyData.plainAll], by simp [PyData.depthAll]⟩
  | n, d :: ds, h => by
    have h' : flat n d = true ∧ flatAll n ds = true := by simpa [flatAll] using h
    have h1 := flat_plain n d h'.1
    have h2 := flat_plains n ds h'.2
    refine ⟨by simp [PyData.plainAll, h1.1, h2.1], ?_⟩
    simp only [PyData.depthAll]
    omega
end
def eqW (neg : Bool) : W → W → T W
  | .d x, .d y => T.must (flat 20 x && flat 20 y) (.ret (.d (.bool (xor neg (PyData.eqv x y)))))
  | _, _ => .fail
/-- by data: the two values read as d, e -/
def rDD (K : PySem.W.Frag) (p : D → D → Bool) (f : D → D → Bool) : R2 := fun x y H Q => ∃ d e, Dp K H x d ∧ Dp K H y e ∧ flat 20 d = true ∧ flat 20 e = true ∧ p d e = true ∧ Q (.bl (f d e)) H
theorem opr_dd {X : Cx} {p f : D → D → Bool} {op : CmpOp} (h : ∀ (s : Shared) (a b : Value) (da db : D) (as bs : List Addr) (Q : Value → Shared → Prop) (E : Value → Shared → Prop), Reads s.heap a da as → Reads s.heap b db bs → da.plain = true → db.plain = true → da.depth ≤ 20 → db.depth ≤ 20 → p da db = true → Q (.bool (f da db)) s → wpAny (model X.prog X.w) X.A (compareOp op a b) Q E s) :
    OpR X (compareOp op) (rDD X.K p f) := by
  intro pins s σ H x y v u Q I rx ry ⟨d, e, hd, he, fd, fe, hp, q⟩
  obtain ⟨as, r1⟩ := Dp.reads I d x v hd rx
  obtain ⟨bs, r2⟩ := Dp.reads I e y u he ry
  have p1 := flat_plain 20 d fd
  have p2 := flat_plain 20 e fe
  exact h s v u d e as bs _ _ r1 r2 p1.1 p2.1 p1.2 p2.2 hp ⟨.bl _, H, I, rfl, q⟩
end
end G

set_option Elab.async false
set_option linter.all false
set_option maxRecDepth 100000
set_option exponentiation.threshold 5000
/-! G3: comparisons, tests, places, displays, calls. -/
namespace G
open PySem PySem.Spec PyProof.Rows L2
section
variable {Y : Dyn} {R : Rw} {H H1 H' : Hp} {uq : Bool} {Q : VK} {x y : W} {v : V} {F : List Addr} {c : Sc} {e e1 e2 e3 : Expr} {pos : Pos}
theorem sx_units {X : Cx} (sx : Sx c Y X) : X.A.units + 64 < cLine := sx.room.units
theorem dd_of {K : PySem.W.Frag} {p f : D → D → Bool} {d d' : D} {u : V} {F F' : List Addr} {w : World} (rx : Rp w K H v d F) (ry : Rp w K H u d' F') (h1 : flat 20 d = true) (h2 : flat 20 d' = true) (h3 : p d d' = true) (q : Q (.bl (f d d')) H) : rDD K p f v u H Q :=
  ⟨d, d', rx.dp (flat_plain 20 d h1).1, ry.dp (flat_plain 20 d' h2).1, h1, h2, h3, q⟩
def oDD (p f : D → D → Bool) : W → W → T W
  | .d x, .d y => T.must (flat 20 x && flat 20 y && p x y) (.ret (.d (.bool (f x y))))
  | _, _ => .fail
theorem ok_dd {o : CmpOp} {p f : D → D → Bool} (h : ∀ (Y : Dyn) (X : Cx), Sx c Y X → OpR X (compareOp o) (rDD X.K p f)) : OpOk c (compareOp o) (oDD p f) true := by
  intro Y X sx
  refine ⟨_, h Y X sx, fun R H v u x y F F' Q ri rx ax ry ay k => ?_⟩
  unfold oDD at k
  split at k
  · obtain ⟨hb, k⟩ := T.wp_must k
    simp only [Bool.and_eq_true] at hb
    rw [sx.K]
    exact dd_of rx ry hb.1.1 hb.1.2 hb.2 (Kv.here k (.bl _))
  · exact k.elim
def pAny : D → D → Bool := fun _ _ => true
def fNe : D → D → Bool := fun x y => !PyData.eqv x y
theorem ok_eq : OpOk c (compareOp .Eq) (oDD pAny PyData.eqv) true := ok_dd fun Y X sx => opr_dd fun s a b da db as bs Q E r1 r2 p1 p2 d1 d2 _ h => SeqAt.eq_plain r1 r2 p1 p2 (by have := sx_units sx; omega) h
theorem ok_ne : OpOk c (compareOp .NotEq) (oDD pAny fNe) true := ok_dd fun Y X sx => opr_dd fun s a b da db as bs Q E r1 r2 p1 p2 d1 d2 _ h => SeqAt.ne_plain r1 r2 p1 p2 (by have := sx_units sx; omega) h
/-- x < y of data, numbers first -/
def ltD : D → D → Bool
  | .int a, .int b => decide (a < b)
  | x, y => PySem.W.dataLt x y
theorem ltD_eq (x y : D) : ltD x y = PySem.W.dataLt x y := by
  unfold ltD
  split
  · rw [PySem.W.dataLt_int]
  · rfl
def isNon : D → Bool
  | .none => true
  | _ => false
theorem isNon_ne {d : D} (h : isNon d = false) : d ≠ .none := by intro e; subst e; cases h
def pLt : D → D → Bool := fun x y => PySem.W.alike x y && !isNon x
def fGt : D → D → Bool := fun x y => ltD y x
def fLe : D → D → Bool := fun x y => !ltD y x
def fGe : D → D → Bool := fun x y => !ltD x y
theorem pLt_of {x y : D} (h : pLt x y = true) : PySem.W.alike x y = true ∧ x ≠ .none := by
  unfold pLt at h
  simp only [Bool.and_eq_true, Bool.not_eq_true'] at h
  exact ⟨h.1, isNon_ne h.2⟩
theorem ok_lt : OpOk c (compareOp .Lt) (oDD pLt ltD) true := ok_dd fun Y X sx => opr_dd fun s a b da db as bs Q E r1 r2 p1 p2 d1 d2 p h => by
  have := pLt_of p
  exact PySem.W.lt_data r1 r2 this.1 this.2 (by have := sx_units sx; omega) (by rw [← ltD_eq]; exact h)
theorem ok_gt : OpOk c (compareOp .Gt) (oDD pLt fGt) true := ok_dd fun Y X sx => opr_dd fun s a b da db as bs Q E r1 r2 p1 p2 d1 d2 p h => by
  have := pLt_of p
  exact PySem.W.gt_data r1 r2 this.1 this.2 (by have := sx_units sx; omega) (by rw [← ltD_eq]; exact h)
theorem ok_le : OpOk c (compareOp .LtE) (oDD pLt fLe) true := ok_dd fun Y X sx => opr_dd fun s a b da db as bs Q E r1 r2 p1 p2 d1 d2 p h => by
  have := pLt_of p
  exact PySem.W.le_data r1 r2 this.1 this.2 (by have := sx_units sx; omega) (by rw [← ltD_eq]; exact h)
theorem ok_ge : OpOk c (compareOp .GtE) (oDD pLt fGe) true := ok_dd fun Y X sx => opr_dd fun s a b da db as bs Q E r1 r2 p1 p2 d1 d2 p h => by
  have := pLt_of p
  exact PySem.W.ge_data r1 r2 this.1 this.2 (by have := sx_units sx; omega) (by rw [← ltD_eq]; exact h)

/-! ### in -/
def hasD (xs : List D) (d : D) : Bool := xs.any fun z => PyData.eqv z d
def oIn (neg : Bool) : W → W → T W
  | .d x, .d (.list ys) => T.must (flat 20 x && flatAll 20 ys) (.ret (.d (.bool (xor neg (hasD ys x)))))
  | .d x, .d (.tuple ys) => T.must (flat 20 x && flatAll 20 ys) (.ret (.d (.bool (xor neg (hasD ys x)))))
  | _, _ => .fail
def rInP (K : PySem.W.Frag) (neg : Bool) : R2 := fun x y H Q => ∃ d ys, Dp K H x d ∧ (Dp K H y (.list ys) ∨ Dp K H y (.tuple ys)) ∧ flat 20 d = true ∧ flatAll 20 ys = true ∧ Q (.bl (xor neg (hasD ys d))) H
theorem opr_in {X : Cx} (hu : X.A.units + 64 < cLine) : OpR X (compareOp .In) (rInP X.K false) := by
  intro pins s σ H x y v u Q I rx ry ⟨d, ys, hd, he, fd, fe, q⟩
  obtain ⟨as, r1⟩ := Dp.reads I d x v hd rx
  have p1 := flat_plain 20 d fd
  have p2 := flat_plains 20 ys fe
  rcases he with he | he
  · obtain ⟨bs, r2⟩ := Dp.reads I _ y u he ry
    exact SeqAt.in_list_data r2 r1 p2.1 p1.1 (by omega) ⟨.bl _, H, I, rfl, by rw [Bool.false_xor] at q; exact q⟩
  · obtain ⟨bs, r2⟩ := Dp.reads I _ y u he ry
    exact SeqAt.in_tuple_data r2 r1 p2.1 p1.1 (by omega) ⟨.bl _, H, I, rfl, by rw [Bool.false_xor] at q; exact q⟩
theorem opr_notIn {X : Cx} (hu : X.A.units + 64 < cLine) : OpR X (compareOp .NotIn) (rInP X.K true) := by
  intro pins s σ H x y v u Q I rx ry ⟨d, ys, hd, he, fd, fe, q⟩
  obtain ⟨as, r1⟩ := Dp.reads I d x v hd rx
  have p1 := flat_plain 20 d fd
  have p2 := flat_plains 20 ys fe
  rcases he with he | he
  · obtain ⟨bs, r2⟩ := Dp.reads I _ y u he ry
    exact SeqAt.notIn_list_data r2 r1 p2.1 p1.1 (by omega) ⟨.bl _, H, I, rfl, by simpa [hasD] using q⟩
  · obtain ⟨bs, r2⟩ := Dp.reads I _ y u he ry
    exact SeqAt.notIn_tuple_data r2 r1 p2.1 p1.1 (by omega) ⟨.bl _, H, I, rfl, by simpa [hasD] using q⟩
theorem in_give {neg : Bool} {K : PySem.W.Frag} {R : Rw} {H : Hp} {v u : V} {x y : W} {F F' : List Addr} (e : Y.K = K) (rx : RpW Y R H v x F) (ry : RpW Y R H u y F') (k : (oIn neg x y).wp (Kv Y R H true Q)) : rInP K neg v u H Q := by
  subst e
  unfold oIn at k
  split at k
  · obtain ⟨hb, k⟩ := T.wp_must k
    simp only [Bool.and_eq_true] at hb
    exact ⟨_, _, Rp.dp rx (flat_plain 20 _ hb.1).1, .inl (Rp.dp ry (by simpa [PyData.plain] using (flat_plains 20 _ hb.2).1)), hb.1, hb.2, Kv.here k (.bl _)⟩
  · obtain ⟨hb, k⟩ := T.wp_must k
    simp only [Bool.and_eq_true] at hb
    exact ⟨_, _, Rp.dp rx (flat_plain 20 _ hb.1).1, .inr (Rp.dp ry (by simpa [PyData.plain] using (flat_plains 20 _ hb.2).1)), hb.1, hb.2, Kv.here k (.bl _)⟩
  · exact k.elim
theorem ok_in : OpOk c (compareOp .In) (oIn false) true := fun Y X sx => ⟨_, opr_in (sx_units sx), fun R H v u x y F F' Q ri rx ax ry ay k => in_give sx.K.symm rx ry k⟩
theorem ok_notIn : OpOk c (compareOp .NotIn) (oIn true) true := fun Y X sx => ⟨_, opr_notIn (sx_units sx), fun R H v u x y F F' Q ri rx ax ry ay k => in_give sx.K.symm rx ry k⟩

/-! ### one-place things -/
def m1 (op : W → T W) (m : En → T W) : En → T W := fun en => (m en).bind op
theorem se_one {op : W → T W} {m : En → T W} {u1 : Bool} (h : SE c e1 m u1)
    (hr : ∀ (Y : Dyn) (X : Cx), Sx c Y X → DynOk c Y → ∀ te, PE X e1 te → ∃ (r : V → Hp → VK → Prop), PE X e (fun σ H Q => te σ H fun x H1 => r x H1 Q) ∧
      ∀ R H v x F Q, RowI R Y.K H → RpW Y R H v x F → Away R F → (op x).wp (Kv Y R H uq Q) → r v H Q) : SE c e (m1 op m) uq := by
  intro Y X sx dy
  obtain ⟨te, pe, se⟩ := h Y X sx dy
  obtain ⟨r, pr, sr⟩ := hr Y X sx dy te pe
  refine ⟨_, pr, fun R en σ H Q rel k => se R en σ H _ rel ?_⟩
  refine T.wp_mono ((T.wp_bind _ _ _).mp k) fun x kx => ?_
  intro v H1 F l1 r1 aw1 _
  exact sr R H1 v x F Q (l1.row rel.ri) r1 aw1 (T.wp_mono kx fun z kz => kz.back l1 rel.ri)
def oNeg : W → T W
  | .d (.int a) => .ret (.d (.int (-a)))
  | _ => .fail
theorem se_neg {m : En → T W} {u1 : Bool} (h : SE c e1 m u1) : SE c (.UnaryOp .USub e1 pos) (m1 oNeg m) true :=
  se_one h fun Y X sx dy te pe => ⟨_, pe_un un_neg pe, fun R H v x F Q ri rx ax k => by
    unfold oNeg at k
    split at k
    · cases rx
      exact ⟨_, rfl, Kv.here k (.int _)⟩
    · exact k.elim⟩
def oNot : W → T W
  | .d (.bool b) => .ret (.d (.bool (!b)))
  | _ => .fail
theorem se_not {m : En → T W} {u1 : Bool} (h : SE c e1 m u1) : SE c (.UnaryOp .Not e1 pos) (m1 oNot m) true :=
  se_one h fun Y X sx dy te pe => ⟨fun x H1 Q => ∃ c, x = .bl c ∧ Q (.bl (!c)) H1, pe_not pe, fun R H v x F Q ri rx ax k => by
    unfold oNot at k
    split at k
    · cases rx
      exact ⟨_, rfl, Kv.here k (.bl _)⟩
    · exact k.elim⟩
def oIsN (neg : Bool) : W → T W
  | .d d => .ret (.d (.bool (xor neg (isNon d))))
  | _ => .fail
theorem non_of {w : World} {K : PySem.W.Frag} {d : D} (r : Rp w K H v d F) : decide (v = .non) = isNon d := by
  cases r <;> rfl
theorem se_isN {m : En → T W} {u1 : Bool} {j pos'} (h : SE c e1 m u1) : SE c (.Compare e1 [.Is] [.Constant .none j pos'] pos) (m1 (oIsN false) m) true :=
  se_one h fun Y X sx dy te pe => ⟨fun x H1 Q => Q (.bl (decide (x = .non))) H1, pe_cmp (pc_isN pe), fun R H v x F Q ri rx ax k => by
    unfold oIsN at k
    split at k
    · have e := non_of rx
      simp only [e]
      rw [Bool.false_xor] at k
      exact Kv.here k (.bl _)
    · exact k.elim⟩
theorem se_notN {m : En → T W} {u1 : Bool} {j pos'} (h : SE c e1 m u1) : SE c (.Compare e1 [.IsNot] [.Constant .none j pos'] pos) (m1 (oIsN true) m) true :=
  se_one h fun Y X sx dy te pe => ⟨fun x H1 Q => Q (.bl (!decide (x = .non))) H1, pe_cmp (pc_notN pe), fun R H v x F Q ri rx ax k => by
    unfold oIsN at k
    split at k
    · have e := non_of rx
      simp only [e]
      rw [Bool.true_xor] at k
      exact Kv.here k (.bl _)
    · exact k.elim⟩

/-! ### and, or, if, chains: as values -/
def isB : W → T Bool
  | .d (.bool b) => .ret b
  | _ => .fail
theorem isB_wp {K : Bool → Prop} (h : (isB x).wp K) : ∃ b, x = .d (.bool b) ∧ K b := by
  unfold isB at h
  split at h
  · exact ⟨_, rfl, h⟩
  · exact h.elim
def mAnd (ma mb : En → T W) : En → T W := fun en => (ma en).bind fun x => (isB x).bind fun b => match b with
  | true => mb en
  | false => .ret (.d (.bool false))
def mOr (ma mb : En → T W) : En → T W := fun en => (ma en).bind fun x => (isB x).bind fun b => match b with
  | true => .ret (.d (.bool true))
  | false => mb en
theorem se_logic1 {o : BoolOp} {m : En → T W} (h : SE c e1 m uq) : SE c (.BoolOp o [e1] pos) m uq := fun Y X sx dy =>
  let ⟨t, p, s⟩ := h Y X sx dy
  ⟨t, pe_one p, s⟩
theorem se_and {ma mb : En → T W} {es : List Expr} (ha : SE c e1 ma true) (hb : SE c (.BoolOp .And (e2 :: es) pos) mb true) : SE c (.BoolOp .And (e1 :: e2 :: es) pos) (mAnd ma mb) true := by
  intro Y X sx dy
  obtain ⟨ta, pa, sa⟩ := ha Y X sx dy
  obtain ⟨tb, pb, sb⟩ := hb Y X sx dy
  refine ⟨_, pe_and pa pb, fun R en σ H Q rel k => sa R en σ H _ rel ?_⟩
  refine T.wp_mono ((T.wp_bind _ _ _).mp k) fun x kx => ?_
  intro v H1 F l1 r1 aw1 _
  obtain ⟨b, rfl, kb⟩ := isB_wp ((T.wp_bind _ _ _).mp kx)
  cases r1
  refine ⟨b, rfl, ?_⟩
  cases b with
  | true => exact sb R en σ H1 Q (rel.le l1) (T.wp_mono kb fun z kz => kz.back l1 rel.ri)
  | false => exact Kv.here (Kv.back l1 rel.ri kb) (.bl _)
theorem se_or {ma mb : En → T W} {es : List Expr} (ha : SE c e1 ma true) (hb : SE c (.BoolOp .Or (e2 :: es) pos) mb true) : SE c (.BoolOp .Or (e1 :: e2 :: es) pos) (mOr ma mb) true := by
  intro Y X sx dy
  obtain ⟨ta, pa, sa⟩ := ha Y X sx dy
  obtain ⟨tb, pb, sb⟩ := hb Y X sx dy
  refine ⟨_, pe_or pa pb, fun R en σ H Q rel k => sa R en σ H _ rel ?_⟩
  refine T.wp_mono ((T.wp_bind _ _ _).mp k) fun x kx => ?_
  intro v H1 F l1 r1 aw1 _
  obtain ⟨b, rfl, kb⟩ := isB_wp ((T.wp_bind _ _ _).mp kx)
  cases r1
  refine ⟨b, rfl, ?_⟩
  cases b with
  | false => exact sb R en σ H1 Q (rel.le l1) (T.wp_mono kb fun z kz => kz.back l1 rel.ri)
  | true => exact Kv.here (Kv.back l1 rel.ri kb) (.bl _)
def mIf (mt : En → T Bool) (ma mb : En → T W) : En → T W := fun en => (mt en).bind fun b => match b with
  | true => ma en
  | false => mb en
theorem se_if {mt : En → T Bool} {ma mb : En → T W} (ht : ST c e1 mt) (ha : SE c e2 ma uq) (hb : SE c e3 mb uq) : SE c (.IfExp e1 e2 e3 pos) (mIf mt ma mb) uq := by
  intro Y X sx dy
  obtain ⟨tt, pt, st⟩ := ht Y X sx dy
  obtain ⟨ta, pa, sa⟩ := ha Y X sx dy
  obtain ⟨tb, pb, sb⟩ := hb Y X sx dy
  refine ⟨_, pe_ifExp pt pa pb, fun R en σ H Q rel k => st R en σ H _ rel ?_⟩
  refine T.wp_mono ((T.wp_bind _ _ _).mp k) fun b kb => ?_
  intro H1 l1
  cases b with
  | true => exact sa R en σ H1 Q (rel.le l1) (T.wp_mono kb fun z kz => kz.back l1 rel.ri)
  | false => exact sb R en σ H1 Q (rel.le l1) (T.wp_mono kb fun z kz => kz.back l1 rel.ri)
def mChain (o1 o2 : W → W → T W) (ma mb mc : En → T W) : En → T W := fun en => (ma en).bind fun x => (mb en).bind fun y => (o1 x y).bind fun z => (isB z).bind fun b => match b with
  | true => (mc en).bind fun u => o2 y u
  | false => .ret (.d (.bool false))
theorem se_chain {o1 o2 : CmpOp} {p1 p2 : W → W → T W} {ma mb mc : En → T W} {u1 u2 u3 : Bool} (ha : SE c e1 ma u1) (hb : SE c e2 mb u2) (hc : SE c e3 mc u3) (h1 : OpOk c (compareOp o1) p1 true) (h2 : OpOk c (compareOp o2) p2 true) (hm : lastMarks [o1, o2] [e2, e3] = false) :
    SE c (.Compare e1 [o1, o2] [e2, e3] pos) (mChain p1 p2 ma mb mc) true := by
  intro Y X sx dy
  obtain ⟨ta, pa, sa⟩ := ha Y X sx dy
  obtain ⟨tb, pb, sb⟩ := hb Y X sx dy
  obtain ⟨tc, pc, sc⟩ := hc Y X sx dy
  obtain ⟨r1, pr1, sr1⟩ := h1 Y X sx
  obtain ⟨r2, pr2, sr2⟩ := h2 Y X sx
  refine ⟨_, pe_chain pr1 pr2 pa pb pc hm, fun R en σ H Q rel k => sa R en σ H _ rel ?_⟩
  refine T.wp_mono ((T.wp_bind _ _ _).mp k) fun x kx => ?_
  intro v H1 F l1 rx aw1 _
  refine sb R en σ H1 _ (rel.le l1) ?_
  refine T.wp_mono ((T.wp_bind _ _ _).mp kx) fun y ky => ?_
  intro u H2 F' l2 ry aw2 _
  have ri1 := l1.row rel.ri
  have ri2 := l2.row ri1
  refine sr1 R H2 v u x y F F' _ ri2 (rx.le l2 ri1 aw1) aw1 ry aw2 ?_
  refine T.wp_mono ((T.wp_bind _ _ _).mp ky) fun z kz => ?_
  obtain ⟨b, rfl, kb⟩ := isB_wp ((T.wp_bind _ _ _).mp kz)
  intro vz H3 F3 l3 rz _ _
  cases rz
  refine ⟨b, rfl, ?_⟩
  have l13 := (l1.trans l2).trans l3
  cases b with
  | false => exact Kv.here (Kv.back l13 rel.ri kb) (.bl _)
  | true =>
    refine sc R en σ H3 _ (rel.le l13) ?_
    refine T.wp_mono ((T.wp_bind _ _ _).mp kb) fun w kw => ?_
    intro vw H4 F4 l4 rw' aw4 _
    have ri3 := l3.row ri2
    exact sr2 R H4 u vw y w F' F4 Q (l4.row ri3) ((ry.le l3 ri2 aw2).le l4 ri3 aw2) aw2 rw' aw4 (T.wp_mono kw fun z kz => kz.back (l13.trans l4) rel.ri)

/-! ### tests -/
def mT (m : En → T W) : En → T Bool := fun en => (m en).bind isB
theorem st_gives {m : En → T W} {t : TE} {en : En} {σ : L2.St} {Q : Bool → Hp → Prop} (s : ∀ R en σ H Q, RelW Y R H en σ → (m en).wp (Kv Y R H uq Q) → t σ H Q) (rel : RelW Y R H en σ)
    (k : (mT m en).wp fun b => ∀ H', Le R Y.K H H' → Q b H') : t σ H fun x H' => ∃ b, x = .bl b ∧ Q b H' := by
  refine s R en σ H _ rel ?_
  refine T.wp_mono ((T.wp_bind _ _ _).mp k) fun x kx => ?_
  obtain ⟨b, rfl, kb⟩ := isB_wp kx
  intro v H1 F l1 r1 _ _
  cases r1
  exact ⟨b, rfl, kb H1 l1⟩
/-- an expression of no form of its own, as a test -/
def plainTest : Expr → Bool
  | .Name .. | .Call .. | .Constant .. | .Subscript .. => true
  | _ => false
theorem st_val {m : En → T W} (h : SE c e m uq) (he : plainTest e = true) : ST c e (mT m) := by
  intro Y X sx dy
  obtain ⟨t, p, s⟩ := h Y X sx dy
  refine ⟨_, pt_val p (fun whole => ?_), fun R en σ H Q rel k => st_gives s rel k⟩
  cases e <;> first | rfl | cases he
theorem st_cmp {o : CmpOp} {op : W → W → T W} {ma mb : En → T W} {u1 u2 : Bool} (ha : SE c e1 ma u1) (hb : SE c e2 mb u2) (ho : OpOk c (compareOp o) op true) (hm : behindInMarks o e2 = false) : ST c (.Compare e1 [o] [e2] pos) (mT (m2 op ma mb)) := by
  intro Y X sx dy
  obtain ⟨ta, pa, sa⟩ := ha Y X sx dy
  obtain ⟨tb, pb, sb⟩ := hb Y X sx dy
  obtain ⟨r, pr, sr⟩ := ho Y X sx
  refine ⟨_, pt_cmpR pr pa pb hm, fun R en σ H Q rel k => ?_⟩
  have hh : SE c (.Compare e1 [o] [e2] pos) (m2 op ma mb) true := se_cmp ha hb ho hm
  show (tOp r ta tb) σ H fun x H' => ∃ k, x = .bl k ∧ Q k H'
  refine sa R en σ H _ rel ?_
  unfold mT m2 at k
  refine T.wp_mono ((T.wp_bind _ _ _).mp ((T.wp_bind _ _ _).mp k)) fun x kx => ?_
  intro v H1 F l1 r1 aw1 _
  refine sb R en σ H1 _ (rel.le l1) ?_
  refine T.wp_mono ((T.wp_bind _ _ _).mp kx) fun y ky => ?_
  intro u H2 F' l2 r2 aw2 _
  refine sr R H2 v u x y F F' _ (l2.row (l1.row rel.ri)) (r1.le l2 (l1.row rel.ri) aw1) aw1 r2 aw2 (T.wp_mono ky fun z kz => ?_)
  obtain ⟨b, rfl, kb⟩ := isB_wp kz
  intro vz H3 F3 l3 rz _ _
  cases rz
  exact ⟨b, rfl, kb H3 ((l1.trans l2).trans l3)⟩
theorem st_isN {m : En → T W} {u1 : Bool} {j pos'} (h : SE c e1 m u1) : ST c (.Compare e1 [.Is] [.Constant .none j pos'] pos) (mT (m1 (oIsN false) m)) := by
  intro Y X sx dy
  obtain ⟨t, p, s⟩ := h Y X sx dy
  refine ⟨_, pt_cmp (pc_isN p), fun R en σ H Q rel k => s R en σ H _ rel ?_⟩
  unfold mT m1 at k
  refine T.wp_mono ((T.wp_bind _ _ _).mp ((T.wp_bind _ _ _).mp k)) fun x kx => ?_
  intro v H1 F l1 r1 aw1 _
  cases x with
  | row => exact kx.elim
  | lk _ => exact kx.elim
  | d d =>
    have e := non_of r1
    refine ⟨_, rfl, ?_⟩
    simp only [e]
    have : (isB (.d (.bool (xor false (isNon d))))).wp fun b => ∀ H', Le R Y.K H H' → Q b H' := kx
    obtain ⟨b, eb, kb⟩ := isB_wp this
    have eb : xor false (isNon d) = b := by injection eb with e1; injection e1
    rw [Bool.false_xor] at eb
    rw [eb]
    exact kb H1 l1
theorem st_notN {m : En → T W} {u1 : Bool} {j pos'} (h : SE c e1 m u1) : ST c (.Compare e1 [.IsNot] [.Constant .none j pos'] pos) (mT (m1 (oIsN true) m)) := by
  intro Y X sx dy
  obtain ⟨t, p, s⟩ := h Y X sx dy
  refine ⟨_, pt_cmp (pc_notN p), fun R en σ H Q rel k => s R en σ H _ rel ?_⟩
  unfold mT m1 at k
  refine T.wp_mono ((T.wp_bind _ _ _).mp ((T.wp_bind _ _ _).mp k)) fun x kx => ?_
  intro v H1 F l1 r1 aw1 _
  cases x with
  | row => exact kx.elim
  | lk _ => exact kx.elim
  | d d =>
    have e := non_of r1
    refine ⟨_, rfl, ?_⟩
    simp only [e]
    have : (isB (.d (.bool (xor true (isNon d))))).wp fun b => ∀ H', Le R Y.K H H' → Q b H' := kx
    obtain ⟨b, eb, kb⟩ := isB_wp this
    have eb : xor true (isNon d) = b := by injection eb with e1; injection e1
    rw [Bool.true_xor] at eb
    rw [eb]
    exact kb H1 l1
theorem st_chain {o1 o2 : CmpOp} {p1 p2 : W → W → T W} {ma mb mc : En → T W} {u1 u2 u3 : Bool} (ha : SE c e1 ma u1) (hb : SE c e2 mb u2) (hc : SE c e3 mc u3) (h1 : OpOk c (compareOp o1) p1 true) (h2 : OpOk c (compareOp o2) p2 true) (hm : lastMarks [o1, o2] [e2, e3] = false) :
    ST c (.Compare e1 [o1, o2] [e2, e3] pos) (mT (mChain p1 p2 ma mb mc)) := by
  intro Y X sx dy
  obtain ⟨ta, pa, sa⟩ := ha Y X sx dy
  obtain ⟨tb, pb, sb⟩ := hb Y X sx dy
  obtain ⟨tc, pc, sc⟩ := hc Y X sx dy
  obtain ⟨r1, pr1, sr1⟩ := h1 Y X sx
  obtain ⟨r2, pr2, sr2⟩ := h2 Y X sx
  refine ⟨_, pt_chain pr1 pr2 pa pb pc hm, fun R en σ H Q rel k => ?_⟩
  show (tChain r1 r2 ta tb tc) σ H fun x H' => ∃ k, x = .bl k ∧ Q k H'
  refine sa R en σ H _ rel ?_
  unfold mT mChain at k
  refine T.wp_mono ((T.wp_bind _ _ _).mp ((T.wp_bind _ _ _).mp k)) fun x kx => ?_
  intro v H1 F l1 rx aw1 _
  refine sb R en σ H1 _ (rel.le l1) ?_
  refine T.wp_mono ((T.wp_bind _ _ _).mp kx) fun y ky => ?_
  intro u H2 F' l2 ry aw2 _
  have ri1 := l1.row rel.ri
  have ri2 := l2.row ri1
  refine sr1 R H2 v u x y F F' _ ri2 (rx.le l2 ri1 aw1) aw1 ry aw2 ?_
  refine T.wp_mono ((T.wp_bind _ _ _).mp ky) fun z kz => ?_
  obtain ⟨b, rfl, kb⟩ := isB_wp ((T.wp_bind _ _ _).mp kz)
  intro vz H3 F3 l3 rz _ _
  cases rz
  refine ⟨b, rfl, ?_⟩
  have l13 := (l1.trans l2).trans l3
  cases b with
  | false => exact ⟨false, rfl, kb H3 l13⟩
  | true =>
    refine sc R en σ H3 _ (rel.le l13) ?_
    refine T.wp_mono ((T.wp_bind _ _ _).mp kb) fun w kw => ?_
    intro vw H4 F4 l4 rw' aw4 _
    have ri3 := l3.row ri2
    refine sr2 R H4 u vw y w F' F4 _ (l4.row ri3) ((ry.le l3 ri2 aw2).le l4 ri3 aw2) aw2 rw' aw4 (T.wp_mono kw fun z kz => ?_)
    obtain ⟨b, rfl, kb⟩ := isB_wp kz
    intro vz H5 F5 l5 rz _ _
    cases rz
    exact ⟨b, rfl, kb H5 ((l13.trans l4).trans l5)⟩
/-- a test whatever stands around it -/
def SW (c : Sc) (e : Expr) (m : En → T Bool) : Prop :=
  ∀ (Y : Dyn) (X : Cx), Sx c Y X → DynOk c Y → ∃ t : TT, PW X e t ∧ ∀ R en σ H (Q : Bool → Hp → Prop), RelW Y R H en σ → (m en).wp (fun b => ∀ H', Le R Y.K H H' → Q b H') → t σ H Q
theorem SW.st {m : En → T Bool} (h : SW c e m) : ST c e m := fun Y X sx dy => let ⟨t, p, s⟩ := h Y X sx dy; ⟨t, p.pt, s⟩
theorem sw_and1 {m : En → T Bool} (h : ST c e1 m) : SW c (.BoolOp .And [e1] pos) m := fun Y X sx dy => let ⟨t, p, s⟩ := h Y X sx dy; ⟨t, pw_and1 p, s⟩
theorem sw_or1 {m : En → T Bool} (h : ST c e1 m) : SW c (.BoolOp .Or [e1] pos) m := fun Y X sx dy => let ⟨t, p, s⟩ := h Y X sx dy; ⟨t, pw_or1 p, s⟩
def tAndM (ma mb : En → T Bool) : En → T Bool := fun en => (ma en).bind fun b => match b with
  | true => mb en
  | false => .ret false
def tOrM (ma mb : En → T Bool) : En → T Bool := fun en => (ma en).bind fun b => match b with
  | true => .ret true
  | false => mb en
theorem back_b {Q : Bool → Hp → Prop} (l : Le R Y.K H H1) {t : T Bool} (k : t.wp fun b => ∀ H', Le R Y.K H H' → Q b H') : t.wp fun b => ∀ H', Le R Y.K H1 H' → Q b H' := T.wp_mono k fun b h H' l' => h H' (l.trans l')
theorem sw_and {ma mb : En → T Bool} {es : List Expr} (ha : ST c e1 ma) (hb : SW c (.BoolOp .And (e2 :: es) pos) mb) : SW c (.BoolOp .And (e1 :: e2 :: es) pos) (tAndM ma mb) := by
  intro Y X sx dy
  obtain ⟨ta, pa, sa⟩ := ha Y X sx dy
  obtain ⟨tb, pb, sb⟩ := hb Y X sx dy
  refine ⟨_, pw_and pa pb, fun R en σ H Q rel k => sa R en σ H _ rel ?_⟩
  refine T.wp_mono ((T.wp_bind _ _ _).mp k) fun b kb => ?_
  intro H1 l1
  cases b with
  | true => exact sb R en σ H1 Q (rel.le l1) (back_b l1 kb)
  | false => exact kb H1 l1
theorem sw_or {ma mb : En → T Bool} {es : List Expr} (ha : ST c e1 ma) (hb : SW c (.BoolOp .Or (e2 :: es) pos) mb) : SW c (.BoolOp .Or (e1 :: e2 :: es) pos) (tOrM ma mb) := by
  intro Y X sx dy
  obtain ⟨ta, pa, sa⟩ := ha Y X sx dy
  obtain ⟨tb, pb, sb⟩ := hb Y X sx dy
  refine ⟨_, pw_or pa pb, fun R en σ H Q rel k => sa R en σ H _ rel ?_⟩
  refine T.wp_mono ((T.wp_bind _ _ _).mp k) fun b kb => ?_
  intro H1 l1
  cases b with
  | true => exact kb H1 l1
  | false => exact sb R en σ H1 Q (rel.le l1) (back_b l1 kb)
def tNotM (m : En → T Bool) : En → T Bool := fun en => (m en).bind fun b => .ret (!b)
theorem st_not {m : En → T Bool} (h : ST c e1 m) : ST c (.UnaryOp .Not e1 pos) (tNotM m) := by
  intro Y X sx dy
  obtain ⟨t, p, s⟩ := h Y X sx dy
  refine ⟨_, pt_not p, fun R en σ H Q rel k => s R en σ H _ rel ?_⟩
  exact T.wp_mono ((T.wp_bind _ _ _).mp k) fun b kb H1 l1 => kb H1 l1

/-! ### x[i], x[i:j] -/
def oIdx : W → W → T W
  | .d (.list xs), .d (.int i) => T.ofO ((atI xs i).map W.d)
  | .d (.tuple xs), .d (.int i) => T.ofO ((atI xs i).map W.d)
  | _, _ => .fail
theorem RpA.atI {w : World} {K : PySem.W.Frag} {vs : List V} {ds : List D} {i : Int} {d : D} (r : RpA w K H vs ds F) (h : L2.atI ds i = some d) : ∃ v F', L2.atI vs i = some v ∧ Rp w K H v d F' ∧ ∀ a ∈ F', a ∈ F := by
  unfold L2.atI at h ⊢
  rw [r.length]
  cases hn : ixN ds.length i with
  | none => rw [hn] at h; cases h
  | some j =>
    rw [hn] at h
    obtain ⟨v, F', h1, h2, h3⟩ := r.get (show ds[j]? = some d from h)
    exact ⟨v, F', h1, h2, h3⟩
theorem away_sub {F' : List Addr} (aw : Away R F) (h : ∀ a ∈ F', a ∈ F) : Away R F' := fun r z => aw r (h r z)
theorem se_idx {ma mb : En → T W} {u1 u2 : Bool} (ha : SE c e1 ma u1) (hb : SE c e2 mb u2) (hs : PlainIx e2) : SE c (.Subscript e1 e2 pos) (m2 oIdx ma mb) false := by
  intro Y X sx dy
  obtain ⟨ta, pa, sa⟩ := ha Y X sx dy
  obtain ⟨tb, pb, sb⟩ := hb Y X sx dy
  refine ⟨_, pe_ix (ix_list.or ix_tup) pa pb hs, fun R en σ H Q rel k => sa R en σ H _ rel ?_⟩
  refine T.wp_mono ((T.wp_bind _ _ _).mp k) fun x kx => ?_
  intro v H1 F l1 r1 aw1 _
  refine sb R en σ H1 _ (rel.le l1) ?_
  refine T.wp_mono ((T.wp_bind _ _ _).mp kx) fun y ky => ?_
  intro u H2 F' l2 r2 aw2 _
  have r1 := r1.le l2 (l1.row rel.ri) aw1
  have l12 := l1.trans l2
  unfold oIdx at ky
  split at ky
  · obtain ⟨z, hz, kz⟩ := T.wp_ofO ky
    obtain ⟨d, hd, rfl⟩ := Option.map_eq_some_iff.mp hz
    cases r2
    cases r1 with
    | lst ha ra =>
      obtain ⟨vz, Fz, h1, h2, h3⟩ := ra.atI hd
      exact .inl ⟨_, _, _, _, rfl, rfl, SqL.of ha, h1, kz vz H2 Fz l12 h2 (away_sub aw1.tail h3) fun z => nomatch z⟩
  · obtain ⟨z, hz, kz⟩ := T.wp_ofO ky
    obtain ⟨d, hd, rfl⟩ := Option.map_eq_some_iff.mp hz
    cases r2
    cases r1 with
    | tup ha ra =>
      obtain ⟨vz, Fz, h1, h2, h3⟩ := ra.atI hd
      rw [sx.K]
      exact .inr ⟨_, _, _, _, rfl, rfl, ha, h1, kz vz H2 Fz l12 h2 (away_sub aw1 h3) fun z => nomatch z⟩
  · exact ky.elim

/-! ### arguments and displays -/
def notStar : Expr → Bool
  | .Starred .. => false
  | _ => true
theorem star_eq {es : List Expr} {env : PySem.Env} (h : notStar e = true) : starEach (e :: es) env = (false, eval e env) :: starEach es env := by
  cases e <;> first | rfl | cases h
theorem noStars {env : PySem.Env} : ∀ {es : List Expr}, es.all notStar = true → (starEach es env).any (·.1) = false
  | [], _ => rfl
  | e :: es, h => by
    rw [List.all_cons, Bool.and_eq_true] at h
    rw [star_eq h.1, List.any_cons, noStars h.2]
    rfl
theorem backTo_any {pos : Pos} {l : List (Bool × Sem Value)} (h : l.any (·.1) = false) : (backTo pos l).any (·.1) = false := by
  rw [List.any_eq_false] at h ⊢
  intro p hp
  unfold backTo at hp
  obtain ⟨q, hq, rfl⟩ := List.mem_map.mp hp
  exact h q hq
def mNil : En → T (List W) := fun _ => .ret []
def mCons (m : En → T W) (ms : En → T (List W)) : En → T (List W) := fun en => (m en).bind fun x => (ms en).bind fun xs => .ret (x :: xs)
theorem sa_nil : SA c [] mNil uq := fun Y X sx dy => ⟨_, pa_nil, fun R en σ H Q rel k => k [] H [] Le.refl rfl Away.nil fun _ => Uniq.nil⟩
theorem uniq_app {F F' : List Addr} (l : Le R Y.K H H1) (ri : RowI R Y.K H) (u : Uniq H F) (t : ∀ a ∈ F, ∃ o, H1 a = some o) (u' : Uniq H1 F') : Uniq H (F ++ F') := by
  refine ⟨List.nodup_append.mpr ⟨u.1, u'.1, fun a ha b hb e => ?_⟩, fun a ha => (List.mem_append.mp ha).elim (u.2 a) ((u'.back l ri).2 a)⟩
  subst e
  obtain ⟨o, ho⟩ := t a ha
  rw [u'.2 a hb] at ho
  cases ho
theorem sa_cons {m : En → T W} {ms : En → T (List W)} {es : List Expr} (h : SE c e m uq) (hs : SA c es ms uq) (hn : notStar e = true) : SA c (e :: es) (mCons m ms) uq := by
  intro Y X sx dy
  obtain ⟨t, p, s⟩ := h Y X sx dy
  obtain ⟨ts, ps, ss⟩ := hs Y X sx dy
  refine ⟨_, pa_cons p ps (star_eq hn), fun R en σ H Q rel k => s R en σ H _ rel ?_⟩
  refine T.wp_mono ((T.wp_bind _ _ _).mp k) fun x kx => ?_
  intro v H1 F l1 r1 aw1 u1
  refine ss R en σ H1 _ (rel.le l1) ?_
  refine T.wp_mono ((T.wp_bind _ _ _).mp kx) fun xs kxs => ?_
  intro vs H2 F' l2 r2 aw2 u2
  have r1' := r1.le l2 (l1.row rel.ri) aw1
  exact kxs (v :: vs) H2 (F ++ F') (l1.trans l2) ⟨F, F', rfl, r1', r2⟩ (aw1.app aw2) fun h => uniq_app l1 rel.ri (u1 h) r1.tracked (u2 h)
/-- the values are data -/
def datas : List W → T (List D)
  | [] => .ret []
  | .d x :: xs => (datas xs).bind fun ds => .ret (x :: ds)
  | .row :: _ => .fail
  | .lk _ :: _ => .fail
theorem datas_wp : ∀ {xs : List W} {K : List D → Prop}, (datas xs).wp K → ∃ ds, xs = ds.map W.d ∧ K ds
  | [], _, h => ⟨[], rfl, h⟩
  | .d x :: xs, K, h => by
    obtain ⟨ds, e, h⟩ := datas_wp (xs := xs) ((T.wp_bind _ _ _).mp h)
    exact ⟨x :: ds, by rw [e]; rfl, h⟩
  | .row :: _, _, h => h.elim
  | .lk _ :: _, _, h => h.elim
theorem RpWs.data : ∀ {ds : List D} {vs : List V} {F : List Addr}, RpWs Y R H vs (ds.map W.d) F → RpA Y.w Y.K H vs ds F
  | [], [], _, h => by
    have e : _ = [] := h
    subst e
    exact .nil
  | [], _ :: _, _, h => (show False from h).elim
  | _ :: _, [], _, h => (show False from h).elim
  | d :: ds, v :: vs, _, h => by
    obtain ⟨F1, F2, rfl, h1, h2⟩ := h
    exact .cons h1 (RpWs.data h2)
def mTup (ms : En → T (List W)) : En → T W := fun en => (ms en).bind fun xs => (datas xs).bind fun ds => T.must (Nat.ble ds.length lim) (.ret (.d (.tuple ds)))
def mLst (ms : En → T (List W)) : En → T W := fun en => (ms en).bind fun xs => (datas xs).bind fun ds => T.must (Nat.ble ds.length lim) (.ret (.d (.list ds)))
theorem se_tup {ms : En → T (List W)} {es : List Expr} {j} (h : SA c es ms uq) : SE c (.Tuple es j pos) (mTup ms) uq := by
  intro Y X sx dy
  obtain ⟨t, p, s⟩ := h Y X sx dy
  refine ⟨_, pe_tup p, fun R en σ H Q rel k => s R en σ H _ rel ?_⟩
  refine T.wp_mono ((T.wp_bind _ _ _).mp k) fun xs kx => ?_
  intro vs H1 F l1 r1 aw1 u1
  obtain ⟨ds, rfl, kd⟩ := datas_wp ((T.wp_bind _ _ _).mp kx)
  obtain ⟨hb, kd⟩ := T.wp_must kd
  have ra := r1.data
  refine ⟨by rw [ra.length]; exact lim_size (bleD hb), fun p hp => ?_⟩
  exact kd _ _ F (l1.trans (Le.new hp)) (.tup (SqT.of upd_same) (ra.le (Le.new hp) (l1.row rel.ri) aw1)) aw1 u1
theorem se_lst {ms : En → T (List W)} {es : List Expr} (h : SA c es ms true) : SE c (.List es pos) (mLst ms) true := by
  intro Y X sx dy
  obtain ⟨t, p, s⟩ := h Y X sx dy
  refine ⟨_, pe_lst p, fun R en σ H Q rel k => s R en σ H _ rel ?_⟩
  refine T.wp_mono ((T.wp_bind _ _ _).mp k) fun xs kx => ?_
  intro vs H1 F l1 r1 aw1 u1
  obtain ⟨ds, rfl, kd⟩ := datas_wp ((T.wp_bind _ _ _).mp kx)
  obtain ⟨hb, kd⟩ := T.wp_must kd
  have ra := r1.data
  refine ⟨by rw [ra.length]; exact lim_size (bleD hb), fun p hp => ?_⟩
  have ri1 := l1.row rel.ri
  refine kd _ _ (p :: F) (l1.trans (Le.new hp)) (.lst upd_same (ra.le (Le.new hp) ri1 aw1)) (Away.cons (ri1.away hp) aw1) fun _ => ?_
  · refine ⟨List.nodup_cons.mpr ⟨fun z => ?_, (u1 rfl).1⟩, fun a ha => ?_⟩
    · obtain ⟨o, ho⟩ := ra.tracked p z
      rw [hp] at ho
      cases ho
    · rcases List.mem_cons.mp ha with rfl | ha
      · exact l1.freshR rel.ri hp
      · exact (u1 rfl).2 a ha

/-! ### calls of defs -/
def mCall (phi : List W → T W) (ms : En → T (List W)) : En → T W := fun en => (ms en).bind phi
theorem RpWs.length : ∀ {xs : List W} {vs : List V} {F : List Addr}, RpWs Y R H vs xs F → vs.length = xs.length
  | [], [], _, _ => rfl
  | [], _ :: _, _, h => (show False from h).elim
  | _ :: _, [], _, h => (show False from h).elim
  | _ :: xs, _ :: vs, _, ⟨_, _, _, _, h⟩ => by rw [List.length_cons, List.length_cons, RpWs.length h]
theorem se_call {f : FE} {nm : Str} {p : Pos} {es : List Expr} {ms : En → T (List W)} (hf : f ∈ c.tab) (hn : f.name = nm) (hl : f.lv ≤ c.lv) (hg : c.sc.names.lookup nm = some .globalImplicit) (hd : (nm == ("__debug__" : Str)) = false)
    (h : SA c (e :: es) ms uq) (hs : (e :: es).all notStar = true) : SE c (.Call (.Name nm p) (e :: es) [] pos) (mCall (fun xs => T.must (Nat.beq xs.length f.ps.length) (f.phi xs)) ms) true := by
  intro Y X sx dy
  obtain ⟨t, pt, s⟩ := h Y X sx dy
  obtain ⟨fa, fd, h1, h2, h3, h4⟩ := (dy.tab f hf).is
  have F : FnOk X.prog X.w X.K X.mg X.base CX0 f.lv fa fd f.ps (spOf Y f.ps.length f.phi) := by
    rw [sx.prog, sx.w, sx.K, sx.mg, sx.base]; exact h4
  have hgl : L2.Gl X nm := by show X.env.scope.names.lookup nm = _; rw [sx.sc]; exact hg
  have hm : X.mg nm = some (.ref fa) := by rw [sx.mg, ← hn]; exact h1
  have hk : PySem.W.keepIn X.K (.ref fa) = true := by rw [sx.K]; exact h2
  have hb : Binds X.K fd f.ps [] := by rw [sx.K]; exact h3
  have hr : Room f.lv X.A := sx.room.mono hl
  rw [List.all_cons, Bool.and_eq_true] at hs
  refine ⟨_, pe_call (E := fun _ _ _ => False) F hr hgl hm hk hb .nil L2.pass0 pt hd (star_eq hs.1) (backTo_any (noStars hs.2)), fun R en σ H Q rel k => ?_⟩
  refine s R en σ H _ rel ?_
  refine T.wp_mono ((T.wp_bind _ _ _).mp k) fun xs kx => ?_
  intro vs H1 F l1 r1 aw1 u1
  obtain ⟨hb, kx⟩ := T.wp_must kx
  rw [List.append_nil]
  exact ⟨by rw [r1.length]; exact Nat.eq_of_beq_eq_true hb, R, xs, F, l1.row rel.ri, r1, aw1, T.wp_mono kx fun z kz => kz.back l1 rel.ri⟩
end
end G

set_option Elab.async false
set_option linter.all false
set_option maxRecDepth 100000
set_option exponentiation.threshold 5000
/-! G4: calls of built-ins. -/
namespace G
open PySem PySem.Spec PyProof.Rows L2
section
variable {Y : Dyn} {R : Rw} {H H1 H' : Hp} {uq : Bool} {Q : VK} {x y : W} {v : V} {F : List Addr} {c : Sc} {e e1 e2 e3 : Expr} {pos : Pos}

def CallOk (c : Sc) (f : Value) (op : List W → T W) (uq : Bool) : Prop :=
  ∀ (Y : Dyn) (X : Cx), Sx c Y X → ∃ r, CallR X f r ∧ ∀ R H vs xs F Q, RowI R Y.K H → RpWs Y R H vs xs F → Away R F → (op xs).wp (Kv Y R H uq Q) → r vs H Q
def mArgs (op : List W → T W) (ms : En → T (List W)) : En → T W := fun en => (ms en).bind op
theorem args_give {op : List W → T W} {ms : En → T (List W)} {t : TA} {u1 : Bool} {r : List V → Hp → VK → Prop} {en : En} {σ : L2.St}
    (s : ∀ R en σ H Q, RelW Y R H en σ → (ms en).wp (Kvs Y R H u1 Q) → t σ H Q) (g : ∀ R H vs xs F Q, RowI R Y.K H → RpWs Y R H vs xs F → Away R F → (op xs).wp (Kv Y R H uq Q) → r vs H Q) (rel : RelW Y R H en σ) (k : (mArgs op ms en).wp (Kv Y R H uq Q)) : tCB r t σ H Q := by
  refine s R en σ H _ rel ?_
  refine T.wp_mono ((T.wp_bind _ _ _).mp k) fun xs kx => ?_
  intro vs H1 F l1 r1 aw1 _
  exact g R H1 vs xs F Q (l1.row rel.ri) r1 aw1 (T.wp_mono kx fun z kz => kz.back l1 rel.ri)
theorem se_callB {id : String} {nm : Str} {p : Pos} {es : List Expr} {ms : En → T (List W)} {op : List W → T W} {u1 : Bool} (ho : CallOk c (.builtin id) op uq) (hv : bootBuiltins nm = some (.builtin id)) (hb : nm ∈ c.blt) (hg : c.sc.names.lookup nm = some .globalImplicit)
    (hn : nm ≠ "__name__") (hd : (nm == ("__debug__" : Str)) = false) (h : SA c (e :: es) ms u1) (hs : (e :: es).all notStar = true) : SE c (.Call (.Name nm p) (e :: es) [] pos) (mArgs op ms) uq := by
  intro Y X sx dy
  obtain ⟨t, pt, s⟩ := h Y X sx dy
  obtain ⟨r, pr, g⟩ := ho Y X sx
  rw [List.all_cons, Bool.and_eq_true] at hs
  exact ⟨_, pe_callB pr (show X.env.scope.names.lookup nm = _ by rw [sx.sc]; exact hg) (by rw [sx.mg]; exact dy.blt nm hb) hv pt hn hd (star_eq hs.1) (backTo_any (noStars hs.2)), fun R en σ H Q rel k => args_give s g rel k⟩
theorem se_callT {T' : String} {nm : Str} {p : Pos} {es : List Expr} {ms : En → T (List W)} {op : List W → T W} {u1 : Bool} (ho : CallOk c (.type T') op uq) (hv : bootBuiltins nm = some (.type T')) (hb : nm ∈ c.blt) (hg : c.sc.names.lookup nm = some .globalImplicit)
    (hn : nm ≠ "__name__") (hd : (nm == ("__debug__" : Str)) = false) (h : SA c (e :: es) ms u1) (hs : (e :: es).all notStar = true) : SE c (.Call (.Name nm p) (e :: es) [] pos) (mArgs op ms) uq := by
  intro Y X sx dy
  obtain ⟨t, pt, s⟩ := h Y X sx dy
  obtain ⟨r, pr, g⟩ := ho Y X sx
  rw [List.all_cons, Bool.and_eq_true] at hs
  exact ⟨_, pe_callTy pr (show X.env.scope.names.lookup nm = _ by rw [sx.sc]; exact hg) (by rw [sx.mg]; exact dy.blt nm hb) hv pt hn hd (star_eq hs.1) (backTo_any (noStars hs.2)), fun R en σ H Q rel k => args_give s g rel k⟩

theorem CallR.or {X : Cx} {f : Value} {r r' : List V → Hp → VK → Prop} (h : CallR X f r) (h' : CallR X f r') : CallR X f (fun xs H Q => r xs H Q ∨ r' xs H Q) := by
  intro pins s σ H xs us Q I rx q
  rcases q with q | q
  · exact h pins s σ H xs us Q I rx q
  · exact h' pins s σ H xs us Q I rx q
/-- one argument -/
def o1 (op : W → T W) : List W → T W
  | [x] => op x
  | _ => .fail
def o2 (op : W → W → T W) : List W → T W
  | [x, y] => op x y
  | _ => .fail
theorem o1_wp {op : W → T W} {xs : List W} {K : W → Prop} (h : (o1 op xs).wp K) : ∃ x, xs = [x] ∧ (op x).wp K := by
  unfold o1 at h
  split at h
  · exact ⟨_, rfl, h⟩
  · exact h.elim
theorem o2_wp {op : W → W → T W} {xs : List W} {K : W → Prop} (h : (o2 op xs).wp K) : ∃ x y, xs = [x, y] ∧ (op x y).wp K := by
  unfold o2 at h
  split at h
  · exact ⟨_, _, rfl, h⟩
  · exact h.elim
theorem RpWs.one {vs : List V} (r : RpWs Y R H vs [x] F) : ∃ v, vs = [v] ∧ RpW Y R H v x F := by
  match vs, r with
  | [v], ⟨F1, F2, e, h1, h2⟩ =>
    have e2 : F2 = [] := h2
    subst e2
    rw [List.append_nil] at e
    subst e
    exact ⟨v, rfl, h1⟩
theorem RpWs.two {vs : List V} (r : RpWs Y R H vs [x, y] F) : ∃ v u F1 F2, vs = [v, u] ∧ F = F1 ++ F2 ∧ RpW Y R H v x F1 ∧ RpW Y R H u y F2 := by
  match vs, r with
  | [v, u], ⟨F1, F2, e, h1, F3, F4, e2, h2, h3⟩ =>
    have e4 : F4 = [] := h3
    subst e4
    rw [List.append_nil] at e2
    subst e2
    exact ⟨v, u, F1, F2, rfl, e, h1, h2⟩
theorem call_one {f : Value} {op : W → T W} (h : ∀ (Y : Dyn) (X : Cx), Sx c Y X → ∃ r : List V → Hp → VK → Prop, CallR X f r ∧ ∀ R H v x F Q, RowI R Y.K H → RpW Y R H v x F → Away R F → (op x).wp (Kv Y R H uq Q) → r [v] H Q) : CallOk c f (o1 op) uq := by
  intro Y X sx
  obtain ⟨r, h1, h2⟩ := h Y X sx
  refine ⟨r, h1, fun R H vs xs F Q ri rx aw k => ?_⟩
  obtain ⟨x, rfl, k⟩ := o1_wp k
  obtain ⟨v, rfl, rv⟩ := rx.one
  exact h2 R H v x F Q ri rv aw k

/-! ### len, list, tuple -/
def oLen : W → T W
  | .d (.list xs) => .ret (.d (.int (xs.length : Int)))
  | .d (.tuple xs) => .ret (.d (.int (xs.length : Int)))
  | .d (.str s) => T.must (Nat.ble s.length lim) (.ret (.d (.int (s.length : Int))))
  | _ => .fail
theorem ok_len : CallOk c (.builtin "len") (o1 oLen) true := call_one fun Y X sx => by
  refine ⟨_, CallR.or call_len_seq call_len_str, fun R H v x F Q ri rx aw k => ?_⟩
  unfold oLen at k
  split at k
  · cases rx with
    | lst h r => exact .inl ⟨_, _, rfl, .inl (SqL.of h), by rw [r.length]; exact Kv.here k (.int _)⟩
  · cases rx with
    | tup h r => exact .inl ⟨_, _, rfl, .inr (by rw [sx.K]; exact h), by rw [r.length]; exact Kv.here k (.int _)⟩
  · obtain ⟨hb, k⟩ := T.wp_must k
    cases rx
    exact .inr ⟨_, rfl, lim_size (bleD hb), Kv.here k (.int _)⟩
  · exact k.elim
def oList : W → T W
  | .d (.list xs) => T.must (immAll xs) (.ret (.d (.list xs)))
  | .d (.tuple xs) => T.must (immAll xs) (.ret (.d (.list xs)))
  | _ => .fail
theorem ok_list : CallOk c (.type "list") (o1 oList) true := call_one fun Y X sx => by
  refine ⟨_, call_list_of, fun R H v x F Q ri rx aw k => ?_⟩
  unfold oList at k
  split at k
  · obtain ⟨hb, k⟩ := T.wp_must k
    cases rx with
    | lst h r => exact ⟨_, _, rfl, .inl (SqL.of h), fun p hp => newL ri k hp (r.imm0 hb)⟩
  · obtain ⟨hb, k⟩ := T.wp_must k
    cases rx with
    | tup h r => exact ⟨_, _, rfl, .inr (by rw [sx.K]; exact h), fun p hp => newL ri k hp (r.imm0 hb)⟩
  · exact k.elim
def oTuple : W → T W
  | .d (.list xs) => T.must (immAll xs) (.ret (.d (.tuple xs)))
  | .d (.tuple xs) => T.must (immAll xs) (.ret (.d (.tuple xs)))
  | _ => .fail
theorem ok_tuple : CallOk c (.type "tuple") (o1 oTuple) true := call_one fun Y X sx => by
  refine ⟨_, call_tuple_of, fun R H v x F Q ri rx aw k => ?_⟩
  unfold oTuple at k
  split at k
  · obtain ⟨hb, k⟩ := T.wp_must k
    cases rx with
    | lst h r => exact ⟨_, _, rfl, .inl ⟨SqL.of h, fun p hp => newT ri k hp (r.imm0 hb) Away.nil fun _ => Uniq.nil⟩⟩
  · obtain ⟨hb, k⟩ := T.wp_must k
    cases rx with
    | tup h r =>
      rw [sx.K]
      exact ⟨_, _, rfl, .inr ⟨h, Kv.here k (.tup h (r.imm0 hb))⟩⟩
  · exact k.elim

/-! ### numbers -/
def intsOf : List D → Option (List Int)
  | [] => some []
  | .int i :: xs => (intsOf xs).map (i :: ·)
  | _ :: _ => none
theorem intsOf_eq : ∀ {ds : List D} {ns : List Int}, intsOf ds = some ns → ds = ns.map PyData.int
  | [], _, h => by cases h; rfl
  | d :: ds, ns, h => by
    cases d with
    | int i =>
      obtain ⟨ms, h1, rfl⟩ := Option.map_eq_some_iff.mp (show (intsOf ds).map (i :: ·) = some ns from h)
      rw [intsOf_eq h1]
      rfl
    | _ => cases h
theorem intsOf_map : ∀ ns : List Int, intsOf (ns.map PyData.int) = some ns
  | [] => rfl
  | n :: ns => by
    show (intsOf (ns.map PyData.int)).map (n :: ·) = some (n :: ns)
    rw [intsOf_map ns]
    rfl
theorem RpA.ints {w : World} {K : PySem.W.Frag} : ∀ {ns : List Int} {vs : List V} {F : List Addr}, RpA w K H vs (ns.map PyData.int) F → vs = ns.map V.int ∧ F = []
  | [], _, _, .nil => ⟨rfl, rfl⟩
  | n :: ns, _, _, .cons h r => by
    obtain ⟨h1, h2⟩ := RpA.ints r
    cases h
    subst h1 h2
    exact ⟨rfl, rfl⟩
theorem RpA.ofInts {w : World} {K : PySem.W.Frag} : ∀ (ns : List Int), RpA w K H (ns.map V.int) (ns.map PyData.int) []
  | [] => .nil
  | n :: ns => .cons (F := []) (.int n) (RpA.ofInts ns)
def oSum : W → T W
  | .d (.list xs) => (T.ofO (intsOf xs)).bind fun ns => .ret (.d (.int ns.sum))
  | _ => .fail
theorem ok_sum : CallOk c (.builtin "sum") (o1 oSum) true := call_one fun Y X sx => by
  refine ⟨_, cr_sum sx.calm, fun R H v x F Q ri rx aw k => ?_⟩
  unfold oSum at k
  split at k
  · obtain ⟨ns, h, k2⟩ := T.wp_ofO ((T.wp_bind _ _ _).mp k)
    clear k
    have e := intsOf_eq h
    subst e
    cases rx with
    | lst h r =>
      obtain ⟨rfl, rfl⟩ := r.ints
      exact ⟨_, ns, rfl, SqL.of h, Kv.here k2 (.int _)⟩
  · exact k.elim
def oAbs : W → T W
  | .d (.int i) => .ret (.d (.int (if i < 0 then -i else i)))
  | _ => .fail
theorem ok_abs : CallOk c (.builtin "abs") (o1 oAbs) true := call_one fun Y X sx => by
  refine ⟨_, call_abs, fun R H v x F Q ri rx aw k => ?_⟩
  unfold oAbs at k
  split at k
  · cases rx
    exact ⟨_, rfl, Kv.here k (.int _)⟩
  · exact k.elim
def oInt : W → T W
  | .d (.int i) => .ret (.d (.int i))
  | .d (.bool b) => .ret (.d (.int (if b then 1 else 0)))
  | _ => .fail
theorem ok_int : CallOk c (.type "int") (o1 oInt) true := call_one fun Y X sx => by
  refine ⟨_, call_int1, fun R H v x F Q ri rx aw k => ?_⟩
  unfold oInt at k
  split at k
  · cases rx
    exact .inl ⟨_, rfl, Kv.here k (.int _)⟩
  · cases rx
    exact .inr ⟨_, rfl, Kv.here k (.int _)⟩
  · exact k.elim
def oMax2 : W → W → T W
  | .d (.int i), .d (.int j) => .ret (.d (.int (if j > i then j else i)))
  | _, _ => .fail
theorem ok_max2 : CallOk c (.builtin "max") (o2 oMax2) true := by
  intro Y X sx
  refine ⟨_, call_max2 sx.calm, fun R H vs xs F Q ri rx aw k => ?_⟩
  obtain ⟨x, y, rfl, k2⟩ := o2_wp k
  clear k
  obtain ⟨v, u, F1, F2, rfl, rfl, r1, r2⟩ := rx.two
  unfold oMax2 at k2
  split at k2
  · cases r1; cases r2
    exact ⟨_, _, rfl, Kv.here k2 (.int _)⟩
  · exact k2.elim
def oMin2 : W → W → T W
  | .d (.int i), .d (.int j) => .ret (.d (.int (if j < i then j else i)))
  | _, _ => .fail
theorem ok_min2 : CallOk c (.builtin "min") (o2 oMin2) true := by
  intro Y X sx
  refine ⟨_, call_min2 sx.calm, fun R H vs xs F Q ri rx aw k => ?_⟩
  obtain ⟨x, y, rfl, k2⟩ := o2_wp k
  clear k
  obtain ⟨v, u, F1, F2, rfl, rfl, r1, r2⟩ := rx.two
  unfold oMin2 at k2
  split at k2
  · cases r1; cases r2
    exact ⟨_, _, rfl, Kv.here k2 (.int _)⟩
  · exact k2.elim

/-! ### any, all over a list of truth values -/
def boolsOf : List D → Option (List Bool)
  | [] => some []
  | .bool i :: xs => (boolsOf xs).map (i :: ·)
  | _ :: _ => none
theorem boolsOf_eq : ∀ {ds : List D} {ns : List Bool}, boolsOf ds = some ns → ds = ns.map PyData.bool
  | [], _, h => by cases h; rfl
  | d :: ds, ns, h => by
    cases d with
    | bool i =>
      obtain ⟨ms, h1, rfl⟩ := Option.map_eq_some_iff.mp (show (boolsOf ds).map (i :: ·) = some ns from h)
      rw [boolsOf_eq h1]
      rfl
    | _ => cases h
theorem boolsOf_map : ∀ ns : List Bool, boolsOf (ns.map PyData.bool) = some ns
  | [] => rfl
  | n :: ns => by
    show (boolsOf (ns.map PyData.bool)).map (n :: ·) = some (n :: ns)
    rw [boolsOf_map ns]
    rfl
theorem RpA.bools {w : World} {K : PySem.W.Frag} : ∀ {ns : List Bool} {vs : List V} {F : List Addr}, RpA w K H vs (ns.map PyData.bool) F → vs = ns.map V.bl ∧ F = []
  | [], _, _, .nil => ⟨rfl, rfl⟩
  | n :: ns, _, _, .cons h r => by
    obtain ⟨h1, h2⟩ := RpA.bools r
    cases h
    subst h1 h2
    exact ⟨rfl, rfl⟩
def oAny : W → T W
  | .d (.list xs) => (T.ofO (boolsOf xs)).bind fun ns => .ret (.d (.bool (ns.any id)))
  | _ => .fail
def oAll : W → T W
  | .d (.list xs) => (T.ofO (boolsOf xs)).bind fun ns => .ret (.d (.bool (ns.all id)))
  | _ => .fail
theorem ok_any : CallOk c (.builtin "any") (o1 oAny) true := call_one fun Y X sx => by
  refine ⟨_, cr_any sx.calm, fun R H v x F Q ri rx aw k => ?_⟩
  unfold oAny at k
  split at k
  · obtain ⟨ns, h, k2⟩ := T.wp_ofO ((T.wp_bind _ _ _).mp k)
    clear k
    have e := boolsOf_eq h
    subst e
    cases rx with
    | lst h r =>
      obtain ⟨rfl, rfl⟩ := r.bools
      exact ⟨_, ns, rfl, SqL.of h, Kv.here k2 (.bl _)⟩
  · exact k.elim
theorem ok_all : CallOk c (.builtin "all") (o1 oAll) true := call_one fun Y X sx => by
  refine ⟨_, cr_all sx.calm, fun R H v x F Q ri rx aw k => ?_⟩
  unfold oAll at k
  split at k
  · obtain ⟨ns, h, k2⟩ := T.wp_ofO ((T.wp_bind _ _ _).mp k)
    clear k
    have e := boolsOf_eq h
    subst e
    cases rx with
    | lst h r =>
      obtain ⟨rfl, rfl⟩ := r.bools
      exact ⟨_, ns, rfl, SqL.of h, Kv.here k2 (.bl _)⟩
  · exact k.elim

/-! ### isinstance -/
theorem vals_two {a b : V} {us : List Value} (r : Vals [a, b] us) : ∃ u1 u2, us = [u1, u2] ∧ RelV a u1 ∧ RelV b u2 := vals2 r
def rIsD (K : PySem.W.Frag) (T' : String) (f : D → Bool) : List V → Hp → VK → Prop := fun xs H Q => ∃ v d, xs = [v, .ty T'] ∧ Dp K H v d ∧ Q (.bl (f d)) H
theorem call_isD {X : Cx} {T' : String} {f : D → Bool} (h : ∀ (s : Shared) (v : Value) (d : D) (as : List Addr) (Q : Value → Shared → Prop) (E : Value → Shared → Prop), Reads s.heap v d as → (∀ tk, s.toks ≤ tk → Q (.bool (f d)) { s with toks := tk }) →
    wpAny (model X.prog X.w) X.A (call (.builtin "isinstance") [v, .type T']) Q E s) : CallR X (.builtin "isinstance") (rIsD X.K T' f) := by
  intro pins s σ H xs us Q I r ⟨v, d, e, hd, q⟩
  subst e
  obtain ⟨u1, u2, rfl, r1, r2⟩ := vals_two r
  cases r2
  obtain ⟨as, rd⟩ := Dp.reads I d v u1 hd r1
  exact h s u1 d as _ _ rd fun tk _ => ⟨.bl _, H, I.tok tk, rfl, q⟩
def oIs (f : D → Bool) : W → T W
  | .d d => T.must d.plain (.ret (.d (.bool (f d))))
  | _ => .fail
theorem se_isinst {T' : String} {f : D → Bool} {m : En → T W} {u1 : Bool} {tn : Str} {p p2 : Pos} (hr : ∀ X : Cx, CallR X (.builtin "isinstance") (rIsD X.K T' f)) (hv : bootBuiltins tn = some (.type T')) (hb : ("isinstance" : Str) ∈ c.blt) (hb2 : tn ∈ c.blt)
    (hg : c.sc.names.lookup ("isinstance" : Str) = some .globalImplicit) (hg2 : c.sc.names.lookup tn = some .globalImplicit) (hn : tn ≠ "__name__") (hd : (tn == ("__debug__" : Str)) = false) (h : SE c e1 m u1) (hs : notStar e1 = true) :
    SE c (.Call (.Name "isinstance" p) [e1, .Name tn p2] [] pos) (m1 (oIs f) m) true := by
  refine se_one h fun Y X sx dy te pe => ?_
  have pt : PE X (.Name tn p2) (tC (.ty T')) := pe_bltn (u := .type T') (show X.env.scope.names.lookup tn = _ by rw [sx.sc]; exact hg2) (by rw [sx.mg]; exact dy.blt tn hb2) hv rfl hn hd
  refine ⟨fun x H1 Q => rIsD X.K T' f [x, .ty T'] H1 Q, ?_, fun R H v x F Q ri rx ax k => ?_⟩
  · exact pe_callB (hr X) (show X.env.scope.names.lookup ("isinstance" : Str) = _ by rw [sx.sc]; exact hg) (by rw [sx.mg]; exact dy.blt _ hb) PyProof.Rows.boot_isinstance (pa_cons pe (pa_cons pt pa_nil) (star_eq hs)) (by decide) (by decide) (star_eq hs) rfl
  · unfold oIs at k
    split at k
    · obtain ⟨hp, k⟩ := T.wp_must k
      rw [sx.K]
      exact ⟨_, _, rfl, Rp.dp rx hp, Kv.here k (.bl _)⟩
    · exact k.elim
theorem isr_int (X : Cx) : CallR X (.builtin "isinstance") (rIsD X.K "int" PyData.isInt) := call_isD fun s v d as Q E r h => PySem.W.isinstance_int_data r h
theorem isr_bool (X : Cx) : CallR X (.builtin "isinstance") (rIsD X.K "bool" PyData.isBool) := call_isD fun s v d as Q E r h => PySem.W.isinstance_bool_data r h
theorem isr_tuple (X : Cx) : CallR X (.builtin "isinstance") (rIsD X.K "tuple" PyData.isTuple) := call_isD fun s v d as Q E r h => PySem.W.isinstance_tuple_data r h
theorem isr_str (X : Cx) : CallR X (.builtin "isinstance") (rIsD X.K "str" PyData.isStr) := call_isD fun s v d as Q E r h => PySem.W.isinstance_str_data r h
end
end G

set_option Elab.async false
set_option linter.all false
set_option maxRecDepth 100000
set_option exponentiation.threshold 5000
/-! G5: sorted, min, max over data; sets that are sorted or counted at once. -/
namespace G
open PySem PySem.Spec PyProof.Rows L2

/-! ### a sort that computes -/
def insD {α : Type} (le : α → α → Bool) (x : α) : List α → List α
  | [] => [x]
  | y :: ys => match le x y with
    | true => x :: y :: ys
    | false => y :: insD le x ys
def isort {α : Type} (le : α → α → Bool) : List α → List α
  | [] => []
  | x :: xs => insD le x (isort le xs)
section
variable {α : Type} {le : α → α → Bool}
theorem insD_mem {x a : α} : ∀ {ys : List α}, a ∈ insD le x ys ↔ a = x ∨ a ∈ ys
  | [] => by simp [insD]
  | y :: ys => by
    unfold insD
    cases le x y with
    | true => simp
    | false => simp only [List.mem_cons, insD_mem (ys := ys)]; constructor <;> (intro h; rcases h with h | h | h <;> simp [h])
theorem insD_sorted (t : PySem.W.TotalLe le) {x : α} : ∀ {ys : List α}, ys.Pairwise (fun a b => le a b = true) → (insD le x ys).Pairwise (fun a b => le a b = true)
  | [], _ => by simp [insD]
  | y :: ys, h => by
    have h' := List.pairwise_cons.mp h
    unfold insD
    cases e : le x y with
    | true =>
      refine List.pairwise_cons.mpr ⟨fun b hb => ?_, h⟩
      rcases List.mem_cons.mp hb with rfl | hb
      · exact e
      · exact t.trans x y b e (h'.1 b hb)
    | false =>
      refine List.pairwise_cons.mpr ⟨fun b hb => ?_, insD_sorted t h'.2⟩
      rcases insD_mem.mp hb with rfl | hb
      · rcases t.total y b with h1 | h1
        · exact h1
        · rw [e] at h1; cases h1
      · exact h'.1 b hb
theorem isort_sorted (t : PySem.W.TotalLe le) : ∀ xs : List α, (isort le xs).Pairwise (fun a b => le a b = true)
  | [] => List.Pairwise.nil
  | _ :: xs => insD_sorted t (isort_sorted t xs)
theorem insD_filter (t : PySem.W.TotalLe le) {x c : α} : ∀ {ys : List α}, (insD le x ys).filter (PySem.W.sameRank le c) = (x :: ys).filter (PySem.W.sameRank le c)
  | [] => rfl
  | y :: ys => by
    unfold insD
    cases e : le x y with
    | true => rfl
    | false =>
      have ih := insD_filter t (x := x) (c := c) (ys := ys)
      show (y :: insD le x ys).filter _ = _
      rw [List.filter_cons, ih]
      by_cases hx : PySem.W.sameRank le c x = true
      · have hy : PySem.W.sameRank le c y = false := by
          cases hy : PySem.W.sameRank le c y with
          | false => rfl
          | true =>
            exfalso
            unfold PySem.W.sameRank at hx hy
            rw [Bool.and_eq_true] at hx hy
            have := t.trans x c y hx.2 hy.1
            rw [e] at this
            cases this
        simp [List.filter_cons, hx, hy]
      · have hx : PySem.W.sameRank le c x = false := by simpa using hx
        simp [List.filter_cons, hx]
theorem isort_filter (t : PySem.W.TotalLe le) (c : α) : ∀ xs : List α, (isort le xs).filter (PySem.W.sameRank le c) = xs.filter (PySem.W.sameRank le c)
  | [] => rfl
  | x :: xs => by
    show (insD le x (isort le xs)).filter _ = _
    rw [insD_filter t, List.filter_cons, List.filter_cons, isort_filter t c xs]
theorem isort_merge (t : PySem.W.TotalLe le) (xs : List α) : isort le xs = xs.mergeSort le :=
  PySem.W.sort_unique t (isort_sorted t xs) fun c => isort_filter t c xs
end
/-- x ≤ y of data -/
def leD (x y : D) : Bool := !ltD y x
theorem leD_total : PySem.W.TotalLe leD := by
  have e : leD = PySem.W.dataLe false (fun d : D => d) := by
    funext x y
    show (!ltD y x) = _
    rw [ltD_eq]
    rfl
  rw [e]
  exact PySem.W.sortLe_total _ _ _
def sortD (xs : List D) : List D := isort leD xs
theorem sortD_merge (xs : List D) : sortD xs = xs.mergeSort (PySem.W.dataLe false fun d : D => d) := by
  have e : leD = PySem.W.dataLe false (fun d : D => d) := by
    funext x y
    show (!ltD y x) = _
    rw [ltD_eq]
    rfl
  unfold sortD
  rw [isort_merge leD_total, e]

/-! ### sorted(xs) -/
def allB : List D → (D → Bool) → Bool
  | [], _ => true
  | x :: xs, p => p x && allB xs p
theorem allB_of {p : D → Bool} : ∀ {xs : List D}, allB xs p = true → ∀ x ∈ xs, p x = true
  | [], _, _, h => by cases h
  | y :: ys, h, x, hx => by
    have h' : p y = true ∧ allB ys p = true := by simpa [allB] using h
    rcases List.mem_cons.mp hx with rfl | hx
    · exact h'.1
    · exact allB_of h'.2 x hx
def tupNE : D → Bool
  | .tuple (_ :: _) => true
  | _ => false
def plainItem : D → Bool
  | .bool _ | .int _ | .str _ => true
  | _ => false
/-- all of one kind, any two alike -/
def sortOk (xs : List D) : Bool := (allB xs plainItem || allB xs tupNE) && allB xs (flat 20) && allB xs fun x => allB xs (PySem.W.alike x)
theorem sortOk_of {xs : List D} (h : sortOk xs = true) : PySem.W.AllAlike xs ∧ PySem.W.Sortable xs ∧ ∀ d ∈ xs, flat 20 d = true := by
  unfold sortOk at h
  simp only [Bool.and_eq_true, Bool.or_eq_true] at h
  obtain ⟨⟨h1, h2⟩, h3⟩ := h
  refine ⟨fun d hd d' hd' => allB_of (allB_of h3 d hd) d' hd', ?_, allB_of h2⟩
  rcases h1 with h1 | h1
  · refine .inr fun d hd => ?_
    have := allB_of h1 d hd
    cases d with
    | none => cases this
    | list xs => cases this
    | tuple xs => cases this
    | dict xs => cases this
    | _ => exact ⟨by simp, by simp⟩
  · refine .inl fun d hd => ?_
    have := allB_of h1 d hd
    cases d with
    | tuple xs =>
      cases xs with
      | nil => cases this
      | cons x r => exact ⟨x, r, rfl⟩
    | _ => cases this
theorem DpAll.zip {K : PySem.W.Frag} {H : Hp} : ∀ {vs : List V} {ds : List D}, DpAll K H vs ds → vs.length = ds.length ∧ ∀ p ∈ vs.zip ds, Dp K H p.1 p.2
  | _, _, .nil => ⟨rfl, fun p h => by simp at h⟩
  | _, _, .cons h r => by
    obtain ⟨h1, h2⟩ := DpAll.zip r
    refine ⟨by simp [h1], fun p hp => ?_⟩
    rw [List.zip_cons_cons] at hp
    rcases List.mem_cons.mp hp with rfl | hp
    · exact h
    · exact h2 p hp
theorem vals_zip : ∀ {vs : List V} {ds : List D} {us : List Value}, vs.length = ds.length → Vals vs us → PySem.W.EachIs (fun u (z : V × D) => RelV z.1 u) us (vs.zip ds)
  | [], [], _, _, .nil => .nil
  | v :: vs, d :: ds, _, h, .cons r t => .cons r (vals_zip (by simpa using h) t)
theorem each_vals : ∀ {zs : List (V × D)} {us : List Value}, PySem.W.EachIs (fun u (z : V × D) => RelV z.1 u) us zs → Vals (zs.map (·.1)) us
  | _, _, .nil => .nil
  | _, _, .cons r t => .cons r (each_vals t)
/-- sorted(xs): the pairs (value, datum) sorted by their data -/
def rSortD (K : PySem.W.Frag) : List V → Hp → VK → Prop := fun xs H Q => ∃ (a : Addr) (vs : List V) (ds : List D), xs = [.ref a] ∧ SqL K H a vs ∧ DpAll K H vs ds ∧ sortOk ds = true ∧
  ∀ p, H p = none → Q (.ref p) (upd H p (.lst (((vs.zip ds).mergeSort (PySem.W.dataLe false fun z : V × D => z.2)).map (·.1))))
theorem cr_sortD {X : Cx} (hu : X.A.units + 64 < cLine) : CallR X (.builtin "sorted") (rSortD X.K) := by
  intro pins s σ H vs us Q I r h
  obtain ⟨a, xs, ds, rfl, hs, hd, hk, q⟩ := h
  obtain ⟨its, rv, hl, hz⟩ := I.list hs
  rw [Vals.ref1 r]
  obtain ⟨hal, hso, hfl⟩ := sortOk_of hk
  obtain ⟨hlen, hzip⟩ := DpAll.zip hd
  have hmap : (xs.zip ds).map (fun z : V × D => z.2) = ds := by
    rw [show (fun z : V × D => z.2) = Prod.snd from rfl, List.map_snd_zip (by omega)]
  have hE := vals_zip hlen rv
  have hmem : ∀ z ∈ xs.zip ds, z.2 ∈ ds := fun z hz' => by
    rw [← hmap]
    exact List.mem_map.mpr ⟨z, hz', rfl⟩
  refine PySem.W.sorted_data (vs := its) (bs := xs.zip ds) (enc := fun z => z.2) (R := fun u z => RelV z.1 u) hl.isList hE ?_ (by rw [hmap]; exact hal) (by rw [hmap]; exact hso) (by rw [List.length_zip]; omega) ?_ fun out h1 h2 => ?_
  · refine PySem.W.EachIs.of_zip hE.length fun p hp => ?_
    have hr := hE.zip p hp
    have hm : p.2 ∈ xs.zip ds := (List.of_mem_zip hp).2
    exact Dp.reads I p.2.2 p.2.1 p.1 (hzip p.2 hm) hr
  · intro b hb
    have := (flat_plain 20 b.2 (hfl _ (hmem b hb))).2
    omega
  · obtain ⟨ep, he'⟩ := PyProof.Rows.sortedAll_at s.heap its out.toArray
    have hn : H (s.heap.objs.size + 1) = none := I.hok.fresh (Nat.le_succ _)
    have hvs := each_vals h2
    have hlz : (((xs.zip ds).mergeSort (PySem.W.dataLe false fun z : V × D => z.2)).map (·.1)).length ≤ sizeLine := by
      rw [List.length_map, List.length_mergeSort, List.length_zip]; omega
    exact ⟨.ref _, upd H (s.heap.objs.size + 1) (.lst (((xs.zip ds).mergeSort (PySem.W.dataLe false fun z : V × D => z.2)).map (·.1))), I.laid (t' := s.toks) (fun _ _ => PyProof.Rows.sortedAll_old) (Nat.le_succ _) ⟨hlz, out, ep, hvs, he'⟩, rfl, q _ hn⟩
theorem RpA.ofZip {w : World} {K : PySem.W.Frag} {H : Hp} : ∀ {zs : List (V × D)}, (∀ z ∈ zs, Rp w K H z.1 z.2 []) → RpA w K H (zs.map (·.1)) (zs.map (·.2)) []
  | [], _ => .nil
  | z :: zs, h => .cons (F := []) (h z List.mem_cons_self) (RpA.ofZip fun y hy => h y (List.mem_cons_of_mem _ hy))
theorem RpA.toZip {w : World} {K : PySem.W.Frag} {H : Hp} : ∀ {vs : List V} {ds : List D} {F : List Addr}, RpA w K H vs ds F → F = [] → ∀ z ∈ vs.zip ds, Rp w K H z.1 z.2 []
  | _, _, _, .nil, _ => fun z h => by simp at h
  | _, _, _, .cons (F := F1) (F' := F2) h r, e => fun z hz => by
    obtain ⟨e1, e2⟩ := List.append_eq_nil_iff.mp e
    rw [List.zip_cons_cons] at hz
    rcases List.mem_cons.mp hz with rfl | hz
    · rw [← e1]; exact h
    · exact RpA.toZip r e2 z hz
theorem plain_all {ds : List D} (h : ∀ d ∈ ds, flat 20 d = true) : PyData.plainAll ds = true := by
  induction ds with
  | nil => rfl
  | cons d ds ih => simp [PyData.plainAll, (flat_plain 20 d (h d List.mem_cons_self)).1, ih fun x hx => h x (List.mem_cons_of_mem _ hx)]
section
variable {Y : Dyn} {R : Rw} {H H1 H' : Hp} {uq : Bool} {Q : VK} {x y : W} {v : V} {F : List Addr} {c : Sc} {e e1 e2 e3 : Expr} {pos : Pos}
def oSort : W → T W
  | .d (.list xs) => T.must (sortOk xs && immAll xs) (.ret (.d (.list (sortD xs))))
  | _ => .fail
theorem ok_sort : CallOk c (.builtin "sorted") (o1 oSort) true := call_one fun Y X sx => by
  refine ⟨_, cr_sortD (sx_units sx), fun R H v x F Q ri rx aw k => ?_⟩
  unfold oSort at k
  split at k
  · obtain ⟨hb, k⟩ := T.wp_must k
    simp only [Bool.and_eq_true] at hb
    cases rx with
    | @lst a vs _ _ h r =>
      rename_i ds _ _
      have hfl := (sortOk_of hb.1).2.2
      refine ⟨a, vs, ds, rfl, SqL.of h, ?_, hb.1, fun p hp => newL ri k hp ?_⟩
      · rw [sx.K]; exact r.dp (plain_all hfl)
      · have r0 := RpA.toZip (r.imm0 hb.2) rfl
        have e : sortD ds = ((vs.zip ds).mergeSort (PySem.W.dataLe false fun z : V × D => z.2)).map (·.2) := by
          have e2 := PySem.W.sort_maps (r := PySem.W.dataLe false fun z : V × D => z.2) (s := PySem.W.dataLe false fun d : D => d) (fun z : V × D => z.2) (l := vs.zip ds) (fun _ _ _ _ => rfl)
          have e3 : (vs.zip ds).map (fun z : V × D => z.2) = ds := List.map_snd_zip (by rw [r.length]; omega)
          rw [e2, e3, sortD_merge]
        rw [e]
        exact RpA.ofZip fun z hz => r0 z (List.mem_mergeSort.mp hz)
  · exact k.elim

/-! ### min, max of a list of data -/
def pick (lt : D → D → Bool) : D → List D → D
  | a, [] => a
  | a, y :: ys => pick lt (if lt y a = true then y else a) ys
theorem pick_fold (lt : D → D → Bool) : ∀ (a : D) (ys : List D), pick lt a ys = ys.foldl (fun a y => if lt y a = true then y else a) a
  | _, [] => rfl
  | a, y :: ys => by
    rw [List.foldl_cons]
    exact pick_fold lt _ ys
theorem pick_mem (lt : D → D → Bool) : ∀ (a : D) (ys : List D), pick lt a ys ∈ a :: ys
  | a, [] => List.mem_cons_self
  | a, y :: ys => by
    have := pick_mem lt (if lt y a = true then y else a) ys
    show pick lt (if lt y a = true then y else a) ys ∈ _
    rcases List.mem_cons.mp this with h | h
    · rw [h]
      split <;> simp
    · exact List.mem_cons_of_mem _ (List.mem_cons_of_mem _ h)
theorem min_pick (x : D) (xs : List D) : PySem.W.minD x xs = pick ltD x xs := by
  rw [pick_fold]
  unfold PySem.W.minD
  congr
  funext a y
  rw [ltD_eq]
theorem max_pick (x : D) (xs : List D) : PySem.W.maxD x xs = pick (fun a b => ltD b a) x xs := by
  rw [pick_fold]
  unfold PySem.W.maxD
  congr
  funext a y
  rw [ltD_eq]
def pickOk (xs : List D) : Bool := allB xs (flat 20) && (allB xs fun x => !isNon x) && allB xs fun x => allB xs (PySem.W.alike x)
theorem pickOk_of {xs : List D} (h : pickOk xs = true) : PySem.W.AlikeAll xs ∧ ∀ d ∈ xs, flat 20 d = true := by
  unfold pickOk at h
  simp only [Bool.and_eq_true] at h
  obtain ⟨⟨h1, h2⟩, h3⟩ := h
  refine ⟨⟨fun x hx y hy => allB_of (allB_of h3 x hx) y hy, fun x hx => ?_⟩, allB_of h1⟩
  have := allB_of h2 x hx
  exact isNon_ne (by simpa using this)
theorem depth_all {ds : List D} (h : ∀ d ∈ ds, flat 20 d = true) : PyData.depthAll ds ≤ 20 := by
  induction ds with
  | nil => simp [PyData.depthAll]
  | cons d ds ih =>
    have h1 := (flat_plain 20 d (h d List.mem_cons_self)).2
    have h2 := ih fun x hx => h x (List.mem_cons_of_mem _ hx)
    simp only [PyData.depthAll]
    omega
/-- min(xs), max(xs) of ints (the value itself) -/
def rPick (K : PySem.W.Frag) (lt : D → D → Bool) : List V → Hp → VK → Prop := fun xs H Q => ∃ (a : Addr) (vs : List V) (d : D) (ds : List D), xs = [.ref a] ∧ SqL K H a vs ∧ DpAll K H vs (d :: ds) ∧ pickOk (d :: ds) = true ∧
  ∀ (i : Nat) (v : V) (e : D), vs[i]? = some v → (d :: ds)[i]? = some e → e = pick lt d ds → Q v H
theorem reads_same {h h' : Heap} {v : Value} {d d' : D} {as as' : List Addr} (k : ∀ b o, h.get? b = some o → h'.get? b = some o) (r : Reads h v d as) (r' : Reads h' v d' as') (hp : d.plain = true) : d = d' :=
  SeqAt.plain_unique d d' v _ _ hp (PyProof.Rows.Reads.keeps k r) r'
theorem DpAll.at {K : PySem.W.Frag} {H : Hp} : ∀ {vs : List V} {ds : List D} {i : Nat} {v : V}, DpAll K H vs ds → vs[i]? = some v → ∃ d, ds[i]? = some d ∧ Dp K H v d
  | _, _, _, _, .nil, h => by simp at h
  | _, _, 0, _, .cons h r, e => by
    have e := Option.some.inj (show some _ = some _ from e)
    subst e
    exact ⟨_, rfl, h⟩
  | v :: vs, d :: ds, i + 1, w, .cons h r, e => by
    have e' : vs[i]? = some w := e
    exact DpAll.at (i := i) r e'
theorem Vals.getU : ∀ {xs : List V} {us : List Value} {i : Nat} {u : Value}, Vals xs us → us[i]? = some u → ∃ x, xs[i]? = some x ∧ RelV x u
  | _, _, _, _, .nil, e => by simp at e
  | _, _, 0, _, .cons r _, e => by simp at e; subst e; exact ⟨_, rfl, r⟩
  | x :: xs, u :: us, i + 1, w, .cons _ t, e => by
    obtain ⟨x', h1, h2⟩ := Vals.getU (i := i) (u := w) t (by simpa using e)
    exact ⟨x', by simpa using h1, h2⟩
theorem cr_minD {X : Cx} (hc : X.calm = true) (hu : X.A.units + 64 < cLine) : CallR X (.builtin "min") (rPick X.K ltD) := by
  intro pins s σ H vs us Q I r h
  obtain ⟨a, xs, d, ds, rfl, hs, hd, hk, q⟩ := h
  obtain ⟨its, rv, hl, hz⟩ := I.list hs
  rw [Vals.ref1 r]
  obtain ⟨hal, hfl⟩ := pickOk_of hk
  obtain ⟨as, rd⟩ := Dp.readsAll I _ _ its hd rv
  refine PySem.W.min_list_data (vs := its.toArray) (I.ok.hd hc) hl.isList (by simpa using rd) hal ?_ fun i u h' tk bs hi hr kp => ?_
  · have := depth_all hfl
    omega
  · have hi' : its[i]? = some u := by simpa using hi
    obtain ⟨v, h1, h2⟩ := Vals.getU rv hi'
    obtain ⟨e, h3, h4⟩ := DpAll.at hd h1
    obtain ⟨as2, r2⟩ := Dp.reads I e v u h4 h2
    have hpl := (flat_plain 20 e (hfl e (List.mem_of_getElem? h3))).1
    have e2 := reads_same kp r2 hr hpl
    rw [min_pick] at e2
    exact ⟨v, H, I.kept kp, h2, q i v e h1 h3 e2⟩
theorem cr_maxD {X : Cx} (hc : X.calm = true) (hu : X.A.units + 64 < cLine) : CallR X (.builtin "max") (rPick X.K fun a b => ltD b a) := by
  intro pins s σ H vs us Q I r h
  obtain ⟨a, xs, d, ds, rfl, hs, hd, hk, q⟩ := h
  obtain ⟨its, rv, hl, hz⟩ := I.list hs
  rw [Vals.ref1 r]
  obtain ⟨hal, hfl⟩ := pickOk_of hk
  obtain ⟨as, rd⟩ := Dp.readsAll I _ _ its hd rv
  refine PySem.W.max_list_data (vs := its.toArray) (I.ok.hd hc) hl.isList (by simpa using rd) hal ?_ fun i u h' tk bs hi hr kp => ?_
  · have := depth_all hfl
    omega
  · have hi' : its[i]? = some u := by simpa using hi
    obtain ⟨v, h1, h2⟩ := Vals.getU rv hi'
    obtain ⟨e, h3, h4⟩ := DpAll.at hd h1
    obtain ⟨as2, r2⟩ := Dp.reads I e v u h4 h2
    have hpl := (flat_plain 20 e (hfl e (List.mem_of_getElem? h3))).1
    have e2 := reads_same kp r2 hr hpl
    rw [max_pick] at e2
    exact ⟨v, H, I.kept kp, h2, q i v e h1 h3 e2⟩
def rPickT (K : PySem.W.Frag) (lt : D → D → Bool) : List V → Hp → VK → Prop := fun xs H Q => ∃ (a : Addr) (vs : List V) (d : D) (ds : List D), xs = [.ref a] ∧ SqT K H a vs ∧ DpAll K H vs (d :: ds) ∧ pickOk (d :: ds) = true ∧
  ∀ (i : Nat) (v : V) (e : D), vs[i]? = some v → (d :: ds)[i]? = some e → e = pick lt d ds → Q v H
theorem cr_maxT {X : Cx} (hc : X.calm = true) (hu : X.A.units + 64 < cLine) : CallR X (.builtin "max") (rPickT X.K fun a b => ltD b a) := by
  intro pins s σ H vs us Q I r h
  obtain ⟨a, xs, d, ds, rfl, hs, hd, hk, q⟩ := h
  obtain ⟨its, rv, hl, hz⟩ := I.tuple hs
  rw [Vals.ref1 r]
  obtain ⟨hal, hfl⟩ := pickOk_of hk
  obtain ⟨as, rd⟩ := Dp.readsAll I _ _ its hd rv
  refine PySem.W.max_tuple_data (vs := its.toArray) (I.ok.hd hc) hl (by simpa using rd) hal ?_ fun i u h' tk bs hi hr kp => ?_
  · have := depth_all hfl
    omega
  · have hi' : its[i]? = some u := by simpa using hi
    obtain ⟨v, h1, h2⟩ := Vals.getU rv hi'
    obtain ⟨e, h3, h4⟩ := DpAll.at hd h1
    obtain ⟨as2, r2⟩ := Dp.reads I e v u h4 h2
    have hpl := (flat_plain 20 e (hfl e (List.mem_of_getElem? h3))).1
    have e2 := reads_same kp r2 hr hpl
    rw [max_pick] at e2
    exact ⟨v, H, I.kept kp, h2, q i v e h1 h3 e2⟩
def oPick (lt : D → D → Bool) : W → T W
  | .d (.list (x :: xs)) => T.must (pickOk (x :: xs) && immAll (x :: xs)) (.ret (.d (pick lt x xs)))
  | _ => .fail
def oPickT (lt : D → D → Bool) : W → T W
  | .d (.list (x :: xs)) => T.must (pickOk (x :: xs) && immAll (x :: xs)) (.ret (.d (pick lt x xs)))
  | .d (.tuple (x :: xs)) => T.must (pickOk (x :: xs) && immAll (x :: xs)) (.ret (.d (pick lt x xs)))
  | _ => .fail
theorem immAll_mem {ds : List D} {d : D} (h : immAll ds = true) (hd : d ∈ ds) : imm d = true := by
  induction ds with
  | nil => cases hd
  | cons x xs ih =>
    have h' : imm x = true ∧ immAll xs = true := by simpa [immAll] using h
    rcases List.mem_cons.mp hd with rfl | hd
    · exact h'.1
    · exact ih h'.2 hd
theorem pick_give {lt : D → D → Bool} {w : World} {K : PySem.W.Frag} {vs : List V} {d : D} {ds : List D} (k : Kv Y R H true Q (.d (pick lt d ds))) (r : RpA Y.w Y.K H vs (d :: ds) F) (aw : Away R F) (him : immAll (d :: ds) = true) :
    ∀ (i : Nat) (v : V) (e : D), vs[i]? = some v → (d :: ds)[i]? = some e → e = pick lt d ds → Q v H := by
  intro i v e h1 h2 h3
  obtain ⟨e', F', h4, h5, _⟩ := r.getV h1
  rw [h2] at h4
  have h4 := Option.some.inj h4
  subst h4
  have hF := h5.imm (immAll_mem him (List.mem_of_getElem? h2))
  subst hF
  rw [← h3] at k
  exact Kv.here k h5
theorem ok_min : CallOk c (.builtin "min") (o1 (oPick ltD)) true := call_one fun Y X sx => by
  refine ⟨_, cr_minD sx.calm (sx_units sx), fun R H v x F Q ri rx aw k => ?_⟩
  unfold oPick at k
  split at k
  · obtain ⟨hb, k⟩ := T.wp_must k
    simp only [Bool.and_eq_true] at hb
    cases rx with
    | lst h r =>
      refine ⟨_, _, _, _, rfl, SqL.of h, ?_, hb.1, pick_give (w := Y.w) (K := Y.K) k r aw.tail hb.2⟩
      rw [sx.K]; exact r.dp (plain_all (pickOk_of hb.1).2)
  · exact k.elim
theorem ok_max : CallOk c (.builtin "max") (o1 (oPickT fun a b => ltD b a)) true := call_one fun Y X sx => by
  refine ⟨_, CallR.or (cr_maxD sx.calm (sx_units sx)) (cr_maxT sx.calm (sx_units sx)), fun R H v x F Q ri rx aw k => ?_⟩
  unfold oPickT at k
  split at k
  · obtain ⟨hb, k⟩ := T.wp_must k
    simp only [Bool.and_eq_true] at hb
    cases rx with
    | lst h r =>
      refine .inl ⟨_, _, _, _, rfl, SqL.of h, ?_, hb.1, pick_give (w := Y.w) (K := Y.K) k r aw.tail hb.2⟩
      rw [sx.K]; exact r.dp (plain_all (pickOk_of hb.1).2)
  · obtain ⟨hb, k⟩ := T.wp_must k
    simp only [Bool.and_eq_true] at hb
    cases rx with
    | tup h r =>
      refine .inr ⟨_, _, _, _, rfl, by rw [sx.K]; exact h, ?_, hb.1, pick_give (w := Y.w) (K := Y.K) k r aw hb.2⟩
      rw [sx.K]; exact r.dp (plain_all (pickOk_of hb.1).2)
  · exact k.elim
end
end G

set_option Elab.async false
set_option linter.all false
set_option maxRecDepth 100000
/-! G6: what a loop walks. -/
namespace G
open PySem PySem.Spec PyProof.Rows L2

/-! ### a weaker order: what P names is kept -/
structure LeP (R : Rw) (K : PySem.W.Frag) (P : Addr → Prop) (H H' : Hp) : Prop where
  keep : ∀ a o, P a → R.row ≠ some a → H a = some o → H' a = some o
  tup : ∀ a xs, H a = some (.tup xs) → H' a = some (.tup xs)
  frz : ∀ a o u, H a = some (.frz o u) → H' a = some (.frz o u)
  there : ∀ a o, H a = some o → ∃ o', H' a = some o'
  rowR : (∀ r, R.row = some r → RowOk R K H r) → ∀ r, R.row = some r → RowOk R K H' r
section
variable {R : Rw} {K : PySem.W.Frag} {P P' : Addr → Prop} {H H1 H2 H' : Hp} {a : Addr} {w : World}
theorem LeP.row (l : LeP R K P H H') (ri : RowI R K H) : RowI R K H' := ⟨l.rowR ri.row, fun a h => let ⟨o, e⟩ := ri.hid a h; l.there a o e⟩
theorem RowI.notTup (ri : RowI R K H) {xs : List V} (h : H a = some (.tup xs)) : R.row ≠ some a := fun e => by
  obtain ⟨i, j, k, hr, _⟩ := ri.row a e
  rw [h] at hr; cases hr
theorem RowI.notFrz (ri : RowI R K H) {o : Obj} {u : HO} (h : H a = some (.frz o u)) : R.row ≠ some a := fun e => by
  obtain ⟨i, j, k, hr, _⟩ := ri.row a e
  rw [h] at hr; cases hr
theorem Le.toP (l : Le R K H H') (ri : RowI R K H) : LeP R K P H H' := by
  exact ⟨fun a o _ => l.keep a o, fun a xs h => l.keep a _ (ri.notTup h) h, fun a o u h => l.keep a _ (ri.notFrz h) h, l.there, l.rowR⟩
theorem LeP.refl : LeP R K P H H := ⟨fun _ _ _ _ h => h, fun _ _ h => h, fun _ _ _ h => h, fun _ o h => ⟨o, h⟩, fun h => h⟩
theorem LeP.trans (a : LeP R K P H H1) (b : LeP R K P H1 H2) : LeP R K P H H2 :=
  ⟨fun x o hp hr h => b.keep x o hp hr (a.keep x o hp hr h), fun x xs h => b.tup x xs (a.tup x xs h), fun x o u h => b.frz x o u (a.frz x o u h), fun x o h => let ⟨o', h'⟩ := a.there x o h; b.there x o' h', fun h => b.rowR (a.rowR h)⟩
theorem LeP.mono (l : LeP R K P H H') (h : ∀ a, P' a → P a) : LeP R K P' H H' := ⟨fun a o hp => l.keep a o (h a hp), l.tup, l.frz, l.there, l.rowR⟩
theorem LeP.hide {p : Addr → Prop} (l : LeP R K P H H') : LeP (R.hide p) K P H H' := ⟨l.keep, l.tup, l.frz, l.there, l.rowR⟩
theorem LeP.unhide {p : Addr → Prop} (l : LeP (R.hide p) K P H H') : LeP R K P H H' := ⟨l.keep, l.tup, l.frz, l.there, l.rowR⟩
theorem LeP.fresh {p : Addr} (l : LeP R K P H H') (h : H' p = none) : H p = none := by
  cases e : H p with
  | none => rfl
  | some o =>
    obtain ⟨o', h1⟩ := l.there p o e
    rw [h] at h1; cases h1
theorem LeP.lst (l : LeP R K P H H') (hp : P a) (hr : R.row ≠ some a) {xs : List V} (h : H a = some (.lst xs)) : H' a = some (.lst xs) := l.keep a _ hp hr h
theorem LeP.sqT (l : LeP R K P H H') {xs : List V} (h : SqT K H a xs) : SqT K H' a xs := by
  rcases h with (h | ⟨o, h⟩) | h
  · exact .inl (.inl (l.tup a xs h))
  · exact .inl (.inr ⟨o, l.frz a o _ h⟩)
  · exact .inr h
theorem LeP.dx (l : LeP R K P H H') (hp : P a) (hr : R.row ≠ some a) {ps : List (Int × V × V)} (h : H a = some (DX a ps)) : H' a = some (DX a ps) := l.keep a _ hp hr h
mutual
theorem Rp.leP (l : LeP R K P H H') : ∀ {v : V} {d : D} {F : List Addr}, Rp w K H v d F → Away R F → (∀ a ∈ F, P a) → Rp w K H' v d F
  | _, _, _, .non, _, _ => .non
  | _, _, _, .bl b, _, _ => .bl b
  | _, _, _, .int i, _, _ => .int i
  | _, _, _, .str x, _, _ => .str x
  | _, _, _, .lst h r, aw, hp => .lst (l.lst (hp _ List.mem_cons_self) (not_row aw) h) (RpA.leP l r aw.tail fun a ha => hp a (List.mem_cons_of_mem _ ha))
  | _, _, _, .tup h r, aw, hp => .tup (l.sqT h) (RpA.leP l r aw hp)
  | _, _, _, .dct h r e, aw, hp => .dct (l.dx (hp _ List.mem_cons_self) (not_row aw) h) (RpD.leP l r aw.tail fun a ha => hp a (List.mem_cons_of_mem _ ha)) e
theorem RpA.leP (l : LeP R K P H H') : ∀ {vs : List V} {ds : List D} {F : List Addr}, RpA w K H vs ds F → Away R F → (∀ a ∈ F, P a) → RpA w K H' vs ds F
  | _, _, _, .nil, _, _ => .nil
  | _, _, _, .cons h r, aw, hp => .cons (Rp.leP l h aw.left fun a ha => hp a (List.mem_append_left _ ha)) (RpA.leP l r aw.right fun a ha => hp a (List.mem_append_right _ ha))
theorem RpD.leP (l : LeP R K P H H') : ∀ {ps : List (NestedKey × V × V)} {kvs : List (D × D)} {F : List Addr}, RpD w K H ps kvs F → Away R F → (∀ a ∈ F, P a) → RpD w K H' ps kvs F
  | _, _, _, .nil, _, _ => .nil
  | _, _, _, .cons e k h r, aw, hp => .cons e (Rp.leP l k Away.nil fun _ h => nomatch h) (Rp.leP l h aw.left fun a ha => hp a (List.mem_append_left _ ha)) (RpD.leP l r aw.right fun a ha => hp a (List.mem_append_right _ ha))
end
theorem RpW.leP {Y : Dyn} {v : V} {x : W} {F : List Addr} (l : LeP R Y.K P H H') (r : RpW Y R H v x F) (aw : Away R F) (hp : ∀ a ∈ F, P a) : RpW Y R H' v x F := by
  cases x with
  | d d => exact Rp.leP l r aw hp
  | row => exact r
  | lk kvs =>
    obtain ⟨d, o, ps, h1, h2, h3, h4, h5⟩ := r
    exact ⟨d, o, ps, h1, h2, l.frz d o _ h3, RpD.leP l h4 aw hp, h5⟩
end

/-! ### iterators -/
structure ItOk (Y : Dyn) (R : Rw) (J : It) (H1 : Hp) (ws : List W) (F : List Addr) : Prop where
  aw : Away R F
  tr : ∀ a ∈ F, ∃ o, H1 a = some o
  go : ∀ i x H', ws[i]? = some x → LeP R Y.K (· ∈ F) H1 H' → J.go i H' ∧ ∀ v H'', J.yld i H' v H'' → Le R Y.K H' H'' ∧ ∃ Fi, RpW Y R H'' v x Fi ∧ ∀ a ∈ Fi, a ∈ F
  stop : ∀ i H', ws[i]? = none → LeP R Y.K (· ∈ F) H1 H' → J.stop i H'
def SI (c : Sc) (tg e : Expr) (m : En → T (List W)) : Prop :=
  ∀ (Y : Dyn) (X : Cx), Sx c Y X → DynOk c Y → ∃ wi : TI, PI X tg e wi ∧ ∀ R en σ H (Q : It → Hp → Prop), RelW Y R H en σ → (m en).wp (fun ws => ∀ J H1 F, Le R Y.K H H1 → ItOk Y R J H1 ws F → Q J H1) → wi σ H Q
section
variable {Y : Dyn} {R : Rw} {H H1 H' : Hp} {uq : Bool} {Q : VK} {x y : W} {v : V} {F : List Addr} {c : Sc} {e e1 e2 e3 tg : Expr} {pos : Pos}

def iSeq (K : PySem.W.Frag) (tl : TE) : TI := fun σ H R => tl σ H fun x H1 => ∃ a, x = .ref a ∧ ((∃ xs, SqL K H1 a xs ∧ R (Itl K a) H1) ∨ ∃ xs, SqT K H1 a xs ∧ R (Itt K a) H1)
theorem pi_seq {X : Cx} {l : Expr} {tl : TE} (hl : PE X l tl) : PI X tg l (iSeq X.K tl) := by
  refine ⟨fun pins s0 σ H Rk Iv hw => ?_⟩
  refine thn (hl.run pins s0 σ H _ Iv hw) ?_
  rintro v t1 ⟨x, H2, I2, r2, a, rfl, ⟨xs, hq, q⟩ | ⟨xs, hq, q⟩⟩
  · cases r2
    obtain ⟨us, _, pl, _⟩ := I2.list hq
    refine wpAny_pyIter_list (l := a) (items := us.toArray) pl.isList ⟨_, [_], _, _, H2, rfl, I2.kept (t' := t1.toks) fun b o e => Heap.get?_push_of_some _ e, turn_list a t1.heap.objs.size, ⟨_, Heap.get?_push_size _ rfl, rfl, rfl⟩, ?_, q⟩
    rintro b hb
    rw [List.mem_singleton.mp hb]
    exact I2.fpOk (Nat.le_refl _) I2.fresh
  · cases r2
    obtain ⟨us, _, pl, _⟩ := I2.tuple hq
    refine wpAny_pyIter_tuple (t := a) (items := us.toArray) pl ⟨_, [_], _, _, H2, rfl, I2.kept (t' := t1.toks) fun b o e => Heap.get?_push_of_some _ e, turn_tuple a t1.heap.objs.size, ⟨_, Heap.get?_push_size _ rfl, rfl, rfl⟩, ?_, q⟩
    rintro b hb
    rw [List.mem_singleton.mp hb]
    exact I2.fpOk (Nat.le_refl _) I2.fresh

theorem map_get {ds : List D} {i : Nat} {x : W} (h : (ds.map W.d)[i]? = some x) : ∃ d, ds[i]? = some d ∧ x = .d d := by
  rw [List.getElem?_map] at h
  obtain ⟨d, h1, h2⟩ := Option.map_eq_some_iff.mp h
  exact ⟨d, h1, h2.symm⟩
theorem map_none {ds : List D} {i : Nat} (h : (ds.map W.d)[i]? = none) : ds.length ≤ i := by
  rw [List.getElem?_map, Option.map_eq_none_iff, List.getElem?_eq_none_iff] at h
  exact h
theorem it_list {a : Addr} {vs : List V} {ds : List D} (h : H a = some (.lst vs)) (r : RpA Y.w Y.K H vs ds F) (aw : Away R (a :: F)) : ItOk Y R (Itl Y.K a) H (ds.map W.d) (a :: F) where
  aw := aw
  tr := fun b hb => (List.mem_cons.mp hb).elim (fun e => ⟨.lst vs, by rw [e]; exact h⟩) (r.tracked b)
  go := fun i x H' hx l => by
    obtain ⟨d, hd, rfl⟩ := map_get hx
    have ha := l.lst List.mem_cons_self (not_row aw) h
    obtain ⟨v, Fi, hv, rv, hs⟩ := r.get hd
    refine ⟨⟨vs, v, SqL.of ha, hv⟩, fun u H'' ⟨e, hu⟩ => ?_⟩
    subst e
    have e := (hu vs (SqL.of ha)).symm.trans hv
    cases e
    exact ⟨Le.refl, Fi, Rp.leP l rv (away_sub aw.tail hs) fun b hb => List.mem_cons_of_mem _ (hs b hb), fun b hb => List.mem_cons_of_mem _ (hs b hb)⟩
  stop := fun i H' hx l => ⟨vs, SqL.of (l.lst List.mem_cons_self (not_row aw) h), by rw [r.length]; exact map_none hx⟩
theorem it_tup {a : Addr} {vs : List V} {ds : List D} (h : SqT Y.K H a vs) (r : RpA Y.w Y.K H vs ds F) (aw : Away R F) : ItOk Y R (Itt Y.K a) H (ds.map W.d) F where
  aw := aw
  tr := r.tracked
  go := fun i x H' hx l => by
    obtain ⟨d, hd, rfl⟩ := map_get hx
    have ha := l.sqT h
    obtain ⟨v, Fi, hv, rv, hs⟩ := r.get hd
    refine ⟨⟨vs, v, ha, hv⟩, fun u H'' ⟨e, hu⟩ => ?_⟩
    subst e
    have e := (hu vs ha).symm.trans hv
    cases e
    exact ⟨Le.refl, Fi, Rp.leP l rv (away_sub aw hs) hs, hs⟩
  stop := fun i H' hx l => ⟨vs, l.sqT h, by rw [r.length]; exact map_none hx⟩
def itemsOf : W → T (List W)
  | .d (.list ds) => .ret (ds.map W.d)
  | .d (.tuple ds) => .ret (ds.map W.d)
  | _ => .fail
theorem si_seq {m : En → T W} {u1 : Bool} (h : SE c e m u1) : SI c tg e fun en => (m en).bind itemsOf := by
  intro Y X sx dy
  obtain ⟨t, p, s⟩ := h Y X sx dy
  refine ⟨_, pi_seq p, fun R en σ H Q rel k => s R en σ H _ rel ?_⟩
  refine T.wp_mono ((T.wp_bind _ _ _).mp k) fun x kx => ?_
  intro v H1 F l1 r1 aw1 _
  unfold itemsOf at kx
  rw [sx.K]
  split at kx
  · cases r1 with
    | lst h r => exact ⟨_, rfl, .inl ⟨_, SqL.of h, kx _ H1 _ l1 (it_list h r aw1)⟩⟩
  · cases r1 with
    | tup h r => exact ⟨_, rfl, .inr ⟨_, h, kx _ H1 _ l1 (it_tup h r aw1)⟩⟩
  · exact kx.elim

/-! range -/
def rangeW (lo : Int) (n : Nat) : List W := (List.range n).map fun i => W.d (.int (lo + (i : Nat)))
theorem range_get {lo : Int} {n i : Nat} {x : W} (h : (rangeW lo n)[i]? = some x) : i < n ∧ x = W.d (.int (lo + (i : Nat))) := by
  unfold rangeW at h
  rw [List.getElem?_map] at h
  obtain ⟨j, h1, h2⟩ := Option.map_eq_some_iff.mp h
  obtain ⟨hi, e⟩ := List.getElem?_eq_some_iff.mp h1
  rw [List.getElem_range] at e
  rw [List.length_range] at hi
  subst e
  exact ⟨hi, h2.symm⟩
theorem range_none {lo : Int} {n i : Nat} (h : (rangeW lo n)[i]? = none) : n ≤ i := by
  unfold rangeW at h
  rw [List.getElem?_map, Option.map_eq_none_iff, List.getElem?_eq_none_iff, List.length_range] at h
  exact h
theorem it_range {lo : Int} {n : Nat} : ItOk Y R (Itr lo n) H (rangeW lo n) [] where
  aw := Away.nil
  tr := fun _ h => nomatch h
  go := fun i x H' hx l => by
    obtain ⟨hi, rfl⟩ := range_get hx
    refine ⟨hi, fun v H'' ⟨e, ev⟩ => ?_⟩
    subst e ev
    exact ⟨Le.refl, [], .int _, fun _ h => nomatch h⟩
  stop := fun i H' hx l => range_none hx
def rng1 : List W → T (List W)
  | [.d (.int j)] => T.must (decide (j ≤ 100000) && decide (-100000 ≤ j)) (.ret (rangeW 0 j.toNat))
  | _ => .fail
def rng2 : List W → T (List W)
  | [.d (.int i), .d (.int j)] => T.must (decide (j ≤ 100000) && decide (-100000 ≤ j) && decide (i ≤ 100000) && decide (-100000 ≤ i)) (.ret (rangeW i (j - i).toNat))
  | _ => .fail
theorem si_range1 {a : Expr} {p : Pos} {ms : En → T (List W)} {u1 : Bool} (hb : ("range" : Str) ∈ c.blt) (hg : c.sc.names.lookup ("range" : Str) = some .globalImplicit) (h : SA c [a] ms u1) (hn : notStar a = true) :
    SI c tg (.Call (.Name "range" p) [a] [] pos) fun en => (ms en).bind rng1 := by
  intro Y X sx dy
  obtain ⟨t, pt, s⟩ := h Y X sx dy
  refine ⟨_, pi_range1 (show X.env.scope.names.lookup ("range" : Str) = _ by rw [sx.sc]; exact hg) (by rw [sx.mg]; exact dy.blt _ hb) pt (star_eq hn), fun R en σ H Q rel k => s R en σ H _ rel ?_⟩
  refine T.wp_mono ((T.wp_bind _ _ _).mp k) fun xs kx => ?_
  intro vs H1 F l1 r1 aw1 _
  unfold rng1 at kx
  split at kx
  · obtain ⟨hb, kx⟩ := T.wp_must kx
    rw [Bool.and_eq_true, decide_eq_true_eq, decide_eq_true_eq] at hb
    obtain ⟨v, rfl, rv⟩ := r1.one
    cases rv
    exact ⟨_, rfl, by omega, by omega, kx _ H1 [] l1 it_range⟩
  · exact kx.elim
theorem si_range2 {a b : Expr} {p : Pos} {ms : En → T (List W)} {u1 : Bool} (hb : ("range" : Str) ∈ c.blt) (hg : c.sc.names.lookup ("range" : Str) = some .globalImplicit) (h : SA c [a, b] ms u1) (hn : notStar a = true) (hn2 : notStar b = true) :
    SI c tg (.Call (.Name "range" p) [a, b] [] pos) fun en => (ms en).bind rng2 := by
  intro Y X sx dy
  obtain ⟨t, pt, s⟩ := h Y X sx dy
  refine ⟨_, pi_range2 (show X.env.scope.names.lookup ("range" : Str) = _ by rw [sx.sc]; exact hg) (by rw [sx.mg]; exact dy.blt _ hb) pt (by rw [star_eq hn, star_eq hn2]; rfl) (star_eq hn2), fun R en σ H Q rel k => s R en σ H _ rel ?_⟩
  refine T.wp_mono ((T.wp_bind _ _ _).mp k) fun xs kx => ?_
  intro vs H1 F l1 r1 aw1 _
  unfold rng2 at kx
  split at kx
  · obtain ⟨hb, kx⟩ := T.wp_must kx
    simp only [Bool.and_eq_true, decide_eq_true_eq] at hb
    obtain ⟨v, u, F1, F2, rfl, rfl, r1, r2⟩ := r1.two
    cases r1; cases r2
    exact ⟨_, _, rfl, ⟨by omega, by omega, by omega, by omega⟩, kx _ H1 [] l1 it_range⟩
  · exact kx.elim
end
end G

set_option Elab.async false
set_option linter.all false
set_option maxRecDepth 100000
/-! G7: targets, comprehensions. -/
namespace G
open PySem PySem.Spec PyProof.Rows L2

/-! ### targets: the slots set -/
def setsE : En → List (Nat × W) → En
  | en, [] => en
  | en, (i, x) :: bs => setsE (en.set i (some ⟨1, x⟩)) bs
def setsV : L2.St → List (Nat × V) → L2.St
  | σ, [] => σ
  | σ, (i, v) :: bs => setsV (σ.set i (some v)) bs
/-- the values set, in the heap -/
inductive BRel (Y : Dyn) (R : Rw) (H : Hp) (F : List Addr) : List (Nat × V) → List (Nat × W) → Prop
  | nil : BRel Y R H F [] []
  | cons {i : Nat} {v : V} {x : W} {Fi : List Addr} {ps : List (Nat × V)} {bs : List (Nat × W)} : RpW Y R H v x Fi → (∀ a ∈ Fi, a ∈ F) → BRel Y R H F ps bs → BRel Y R H F ((i, v) :: ps) ((i, x) :: bs)
theorem BRel.app {Y : Dyn} {R : Rw} {H : Hp} {F : List Addr} : ∀ {ps qs : List (Nat × V)} {bs cs : List (Nat × W)}, BRel Y R H F ps bs → BRel Y R H F qs cs → BRel Y R H F (ps ++ qs) (bs ++ cs)
  | _, _, _, _, .nil, s => s
  | _, _, _, _, .cons h1 h2 r, s => .cons h1 h2 (BRel.app r s)
theorem BRel.mono {Y : Dyn} {R : Rw} {H : Hp} {F F' : List Addr} (h : ∀ a ∈ F, a ∈ F') : ∀ {ps : List (Nat × V)} {bs : List (Nat × W)}, BRel Y R H F ps bs → BRel Y R H F' ps bs
  | _, _, .nil => .nil
  | _, _, .cons h1 h2 r => .cons h1 (fun a ha => h a (h2 a ha)) (BRel.mono h r)
theorem BRel.slots {Y : Dyn} {R : Rw} {H : Hp} {F : List Addr} : ∀ {ps : List (Nat × V)} {bs : List (Nat × W)}, BRel Y R H F ps bs → ps.map (·.1) = bs.map (·.1)
  | _, _, .nil => rfl
  | _, _, .cons _ _ r => by rw [List.map_cons, List.map_cons, BRel.slots r]
theorem BRel.hide {Y : Dyn} {R : Rw} {H : Hp} {F : List Addr} {p : Addr → Prop} : ∀ {ps : List (Nat × V)} {bs : List (Nat × W)}, BRel Y R H F ps bs → BRel Y (R.hide p) H F ps bs
  | _, _, .nil => .nil
  | _, _, .cons (x := x) h1 h2 r => .cons (by cases x with
    | d d => exact h1
    | row => exact h1
    | lk kvs => exact h1) h2 (BRel.hide r)
theorem setsV_app : ∀ {ps qs : List (Nat × V)} {σ : L2.St}, setsV σ (ps ++ qs) = setsV (setsV σ ps) qs
  | [], _, _ => rfl
  | (i, v) :: ps, _, _ => setsV_app (ps := ps)

def SG (c : Sc) (tg : Expr) (g : W → T (List (Nat × W))) : Prop :=
  ∀ (Y : Dyn) (X : Cx), Sx c Y X → ∃ t : TG, PG X tg t ∧ ∀ R v x F σ H (Q : L2.St → Hp → Prop), RpW Y R H v x F → (g x).wp (fun bs => ∀ ps, BRel Y R H F ps bs → Q (setsV σ ps) H) → t v σ H Q
def SGs (c : Sc) (tgs : List Expr) (g : List D → T (List (Nat × W))) : Prop :=
  ∀ (Y : Dyn) (X : Cx), Sx c Y X → ∃ t : TGs, PGs X tgs t ∧ ∀ R vs ds F σ H (Q : L2.St → Hp → Prop), RpA Y.w Y.K H vs ds F → (g ds).wp (fun bs => ∀ ps, BRel Y R H F ps bs → Q (setsV σ ps) H) → t vs σ H Q
section
variable {Y : Dyn} {R : Rw} {H H1 H' : Hp} {uq : Bool} {Q : VK} {x y : W} {v : V} {F : List Addr} {c : Sc} {e e1 e2 e3 tg : Expr} {pos : Pos}
/-- may be assigned here -/
def locB (sc : Scope) (x : Str) : Bool := sc.names.lookup x == some .local || sc.names.lookup x == some .cell
theorem loc_of {sc : Scope} {x : Str} (h : locB sc x = true) : Loc sc x := by
  unfold locB at h
  rw [Bool.or_eq_true, beq_iff_eq, beq_iff_eq] at h
  exact h
theorem sg_name {i : Nat} {nm : Str} (hi : c.N[i]? = some nm) (hl : locB c.sc nm = true) (ho : nm ∈ c.own) : SG c (.Name nm pos) fun x => .ret [(i, x)] := by
  intro Y X sx
  refine ⟨gName i, pg_name (by rw [sx.N]; exact sx.nd) (by rw [sx.N]; exact hi) (by rw [sx.sc]; exact loc_of hl) (sx.fn nm ho), fun R v x F σ H Q r k => ?_⟩
  exact k [(i, v)] (.cons r (fun _ h => h) .nil)
def gsCons (g : W → T (List (Nat × W))) (gs : List D → T (List (Nat × W))) : List D → T (List (Nat × W))
  | d :: ds => (g (.d d)).bind fun bs => (gs ds).bind fun cs => .ret (bs ++ cs)
  | [] => .fail
def gsNil : List D → T (List (Nat × W))
  | [] => .ret []
  | _ => .fail
theorem sgs_nil : SGs c [] gsNil := by
  intro Y X sx
  refine ⟨_, pgs_nil, fun R vs ds F σ H Q r k => ?_⟩
  unfold gsNil at k
  split at k
  · cases r
    exact ⟨rfl, k [] .nil⟩
  · exact k.elim
theorem assignEach_cons {es : List Expr} {env : PySem.Env} (hn : notStar e = true) : (assignEach (e :: es) env) = (false, assign e env) :: assignEach es env := by
  cases e <;> first | rfl | cases hn
theorem sgs_cons {es : List Expr} {g : W → T (List (Nat × W))} {gs : List D → T (List (Nat × W))} (h1 : SG c e g) (h2 : SGs c es gs) (hn : notStar e = true) : SGs c (e :: es) (gsCons g gs) := by
  intro Y X sx
  obtain ⟨t, p, s⟩ := h1 Y X sx
  obtain ⟨ts, ps, ss⟩ := h2 Y X sx
  refine ⟨_, pgs_cons p ps (by rw [assignEach_cons hn]; rfl), fun R vs ds F σ H Q r k => ?_⟩
  unfold gsCons at k
  split at k
  · cases r with
    | cons rv rs =>
      refine ⟨_, _, rfl, s R _ (.d _) _ σ H _ rv ?_⟩
      refine T.wp_mono ((T.wp_bind _ _ _).mp k) fun bs kb => ?_
      intro qs hqs
      refine ss R _ _ _ (setsV σ qs) H Q rs ?_
      refine T.wp_mono ((T.wp_bind _ _ _).mp kb) fun cs kc => ?_
      intro rs' hrs
      rw [← setsV_app]
      exact kc (qs ++ rs') ((hqs.mono fun a ha => List.mem_append_left _ ha).app (hrs.mono fun a ha => List.mem_append_right _ ha))
  · exact k.elim
def gTupM (n : Nat) (gs : List D → T (List (Nat × W))) : W → T (List (Nat × W))
  | .d (.tuple ds) => T.must (Nat.beq ds.length n) (gs ds)
  | _ => .fail
theorem assignEach_len {env : PySem.Env} : ∀ {es : List Expr}, es.all notStar = true → (assignEach es env).length = es.length ∧ (assignEach es env).findIdx? (·.1) = none
  | [], _ => ⟨rfl, rfl⟩
  | e :: es, h => by
    rw [List.all_cons, Bool.and_eq_true] at h
    obtain ⟨h1, h2⟩ := assignEach_len (env := env) h.2
    rw [assignEach_cons h.1]
    exact ⟨by rw [List.length_cons, List.length_cons, h1], by rw [List.findIdx?_cons, h2]; rfl⟩
theorem sg_tup {es : List Expr} {j : Nat} {gs : List D → T (List (Nat × W))} (h : SGs c es gs) (hn : es.all notStar = true) : SG c (.Tuple es j pos) (gTupM es.length gs) := by
  intro Y X sx
  obtain ⟨t, p, s⟩ := h Y X sx
  refine ⟨_, pg_tup sx.calm p (assignEach_len hn).1 (assignEach_len hn).2, fun R v x F σ H Q r k => ?_⟩
  unfold gTupM at k
  split at k
  · obtain ⟨hl, k⟩ := T.wp_must k
    cases r with
    | tup h r =>
      rw [sx.K]
      exact ⟨_, _, rfl, h, by rw [r.length]; exact Nat.eq_of_beq_eq_true hl, s R _ _ _ σ H Q r k⟩
  · exact k.elim

/-! ### slots set, frames related -/
def slotsIn (bs : List (Nat × W)) (vs : List Nat) : Bool := bs.all fun p => vs.any fun j => Nat.beq p.1 j
theorem slotsIn_of {bs : List (Nat × W)} {vs : List Nat} (h : slotsIn bs vs = true) : ∀ p ∈ bs, p.1 ∈ vs := fun p hp => by
  have := List.all_eq_true.mp h p hp
  obtain ⟨j, hj, e⟩ := List.any_eq_true.mp this
  rw [Nat.eq_of_beq_eq_true e]; exact hj
theorem setsV_len : ∀ {ps : List (Nat × V)} {σ : L2.St}, (setsV σ ps).length = σ.length
  | [], _ => rfl
  | (i, v) :: ps, σ => by show (setsV (σ.set i (some v)) ps).length = _; rw [setsV_len, List.length_set]
theorem set_wipe {σ : L2.St} {i : Nat} {o : Option V} : ∀ {vs : List Nat}, i ∈ vs → wipe (σ.set i o) vs = wipe σ vs
  | v :: vs, h => by
    unfold wipe
    by_cases hv : i ∈ vs
    · rw [set_wipe hv]
    · have e : i = v := by
        rcases List.mem_cons.mp h with e | h
        · exact e
        · exact absurd h hv
      subst e
      have : wipe (σ.set i o) vs = (wipe σ vs).set i o := by
        clear h
        induction vs with
        | nil => rfl
        | cons w ws ih =>
          unfold wipe
          have h1 : i ≠ w := fun e => hv (by rw [e]; exact List.mem_cons_self)
          rw [ih fun h => hv (List.mem_cons_of_mem _ h), List.set_comm _ _ h1]
      rw [this, List.set_set]
theorem wipe_none {σ : L2.St} : ∀ {vs : List Nat} {i : Nat}, i ∈ vs → i < σ.length → (wipe σ vs)[i]? = some none
  | v :: vs, i, h, hl => by
    unfold wipe
    by_cases e : v = i
    · subst e
      rw [List.getElem?_set_self (by rw [wipe_length]; exact hl)]
    · rw [List.getElem?_set_ne e]
      exact wipe_none ((List.mem_cons.mp h).resolve_left fun z => e z.symm) hl
theorem wipe_wipe {σ : L2.St} {vs : List Nat} : wipe (wipe σ vs) vs = wipe σ vs := by
  have : ∀ us : List Nat, (∀ u ∈ us, u ∈ vs) → wipe (wipe σ us) vs = wipe σ vs := by
    intro us
    induction us with
    | nil => intro _; rfl
    | cons u us ih =>
      intro h
      show wipe ((wipe σ us).set u none) vs = _
      rw [set_wipe (h u List.mem_cons_self)]
      exact ih fun w hw => h w (List.mem_cons_of_mem _ hw)
  exact this vs fun _ h => h
theorem setsV_wipe : ∀ {ps : List (Nat × V)} {σ : L2.St} {vs : List Nat}, (∀ p ∈ ps, p.1 ∈ vs) → wipe (setsV σ ps) vs = wipe σ vs
  | [], _, _, _ => rfl
  | (i, v) :: ps, σ, vs, h => by
    show wipe (setsV (σ.set i (some v)) ps) vs = _
    rw [setsV_wipe fun p hp => h p (List.mem_cons_of_mem _ hp), set_wipe (h _ List.mem_cons_self)]
def wipeE : En → List Nat → En
  | en, [] => en
  | en, v :: vs => (wipeE en vs).set v none
theorem wipeE_length (en : En) : ∀ vs : List Nat, (wipeE en vs).length = en.length
  | [] => rfl
  | v :: vs => by unfold wipeE; rw [List.length_set, wipeE_length en vs]
theorem wipeE_some {en : En} {i : Nat} {s : Slot} : ∀ {vs : List Nat}, (wipeE en vs)[i]? = some (some s) → en[i]? = some (some s) ∧ i ∉ vs
  | [], h => ⟨h, fun z => nomatch z⟩
  | v :: vs, h => by
    unfold wipeE at h
    by_cases hi : v = i
    · subst hi
      by_cases hv : v < (wipeE en vs).length
      · rw [List.getElem?_set_self hv] at h; cases h
      · rw [List.getElem?_eq_none (by simpa using hv)] at h; cases h
    · rw [List.getElem?_set_ne hi] at h
      obtain ⟨h1, h2⟩ := wipeE_some h
      exact ⟨h1, fun z => (List.mem_cons.mp z).elim (fun e => hi e.symm) h2⟩
theorem wipe_get {σ : L2.St} {i : Nat} : ∀ {vs : List Nat}, i ∉ vs → (wipe σ vs)[i]? = σ[i]?
  | [], _ => rfl
  | v :: vs, h => by
    unfold wipe
    rw [List.getElem?_set_ne (fun e => h (by rw [e]; exact List.mem_cons_self))]
    exact wipe_get fun z => h (List.mem_cons_of_mem _ z)
theorem RelW.wiped {en : En} {σ : L2.St} (r : RelW Y R H en σ) (vs : List Nat) : RelW Y R H (wipeE en vs) (L2.wipe σ vs) :=
  ⟨r.ri, by rw [wipeE_length, wipe_length]; exact r.len, fun i s h => by
    obtain ⟨h1, h2⟩ := wipeE_some h
    rw [wipe_get h2]
    exact r.at_ i s h1⟩
theorem RelW.set {en : En} {σ : L2.St} (r : RelW Y R H en σ) {i fl : Nat} (rv : RpW Y R H v x F) (aw : Away R F) : RelW Y R H (en.set i (some ⟨fl, x⟩)) (σ.set i (some v)) := by
  refine ⟨r.ri, by rw [List.length_set, List.length_set]; exact r.len, fun j s h => ?_⟩
  by_cases e : i = j
  · subst e
    by_cases hl : i < en.length
    · rw [List.getElem?_set_self hl] at h
      cases h
      exact ⟨v, F, List.getElem?_set_self (by rw [← r.len]; exact hl), rv, aw⟩
    · rw [List.getElem?_eq_none (by rw [List.length_set]; omega)] at h; cases h
  · rw [List.getElem?_set_ne e] at h
    rw [List.getElem?_set_ne e]
    exact r.at_ j s h
theorem RelW.sets (aw : Away R F) : ∀ {bs : List (Nat × W)} {ps : List (Nat × V)} {en : En} {σ : L2.St}, BRel Y R H F ps bs → RelW Y R H en σ → RelW Y R H (setsE en bs) (setsV σ ps)
  | _, _, _, _, .nil, r => r
  | _, _, en, σ, .cons h1 h2 b, r => RelW.sets aw (en := en.set _ _) (σ := σ.set _ _) b (r.set h1 (away_sub aw h2))

/-! ### hidden things -/
theorem RpW.hide {p : Addr → Prop} (r : RpW Y R H v x F) : RpW Y (R.hide p) H v x F := by
  cases x with
  | d d => exact r
  | row => exact r
  | lk kvs => exact r
theorem RpW.unhide {p : Addr → Prop} (r : RpW Y (R.hide p) H v x F) : RpW Y R H v x F := by
  cases x with
  | d d => exact r
  | row => exact r
  | lk kvs => exact r
theorem RelW.le2 {en : En} {σ : L2.St} (r : RelW Y R H en σ) (l : Le R Y.K H H1) : RelW Y R H1 en σ := r.le l
/-- an object that was not there is hidden -/
theorem RelW.hideNew {en : En} {σ : L2.St} {D : Addr} (r : RelW Y R H en σ) (l : Le R Y.K H H1) (h0 : H D = none) (h1 : ∃ o, H1 D = some o) : RelW Y (R.hide (· = D)) H1 en σ := by
  have ri := l.row r.ri
  refine ⟨⟨ri.row, fun a ha => ?_⟩, r.len, fun i s h => ?_⟩
  · rcases ha with ha | ha
    · exact ri.hid a ha
    · rw [show a = D from ha]; exact h1
  · obtain ⟨v, F, e1, e2, e3⟩ := r.at_ i s h
    refine ⟨v, F, e1, (e2.le l r.ri e3).hide, fun a ha => ⟨(e3 a ha).1, fun z => ?_⟩⟩
    rcases z with z | z
    · exact (e3 a ha).2 z
    · obtain ⟨o, ho⟩ := e2.tracked a ha
      rw [show a = D from z, h0] at ho; cases ho

/-! ### a comprehension's block -/
theorem sx_blk {X : Cx} {scope : Scope} {own : List Str} (sx : Sx c Y X) (ho : ∀ x ∈ own, scope.names.lookup x = some .cell ∨ (relS scope c.sc).names.lookup x = some .local) (s : Shared) (H : Hp) (C : Addr) (cl : List (Str × Addr)) (fp : List Addr) :
    Sx { c with sc := relS scope c.sc, own := own } Y (X.blk s H scope (compEnvC scope cl C X.env) fp) where
  prog := sx.prog
  w := sx.w
  K := sx.K
  mg := sx.mg
  base := sx.base
  N := sx.N
  sc := by show relS scope X.env.scope = _; rw [sx.sc]
  calm := sx.calm
  room := sx.room
  nd := sx.nd
  fn := fun x hx => by
    rcases ho x hx with h | h
    · exact .inl (by show (scope.names.lookup x == some NameKind.cell) = true; rw [h]; rfl)
    · refine .inr ?_
      show (relS scope X.env.scope).names.lookup x = _
      rw [sx.sc]; exact h

def STs (c : Sc) (ifs : List Expr) (m : En → T Bool) : Prop :=
  ∀ (Y : Dyn) (X : Cx), Sx c Y X → DynOk c Y → ∃ t : TT, PTs X ifs t ∧ ∀ R en σ H (Q : Bool → Hp → Prop), RelW Y R H en σ → (m en).wp (fun b => ∀ H', Le R Y.K H H' → Q b H') → t σ H Q
theorem sts_nil : STs c [] fun _ => .ret true := fun Y X sx dy => ⟨_, pts_nil, fun R en σ H Q rel k => k H Le.refl⟩
theorem sts_one {m : En → T Bool} (h : ST c e m) : STs c [e] m := fun Y X sx dy => let ⟨t, p, s⟩ := h Y X sx dy; ⟨t, pts_one p, s⟩
def dOf : W → T D
  | .d x => .ret x
  | _ => .fail
def lcLoop (g : W → T (List (Nat × W))) (vs : List Nat) (mt : En → T Bool) (me : En → T W) (en : En) : List W → T (List D)
  | [] => .ret []
  | x :: xs => (g x).bind fun bs => T.must (slotsIn bs vs) ((mt (setsE en bs)).bind fun b => match b with
    | true => (me (setsE en bs)).bind fun y => (dOf y).bind fun d => (lcLoop g vs mt me en xs).bind fun ds => .ret (d :: ds)
    | false => lcLoop g vs mt me en xs)
def mLC (mi : En → T (List W)) (g : W → T (List (Nat × W))) (vs : List Nat) (mt : En → T Bool) (me : En → T W) : En → T W := fun en =>
  (mi en).bind fun xs => T.must (Nat.ble xs.length lim) ((lcLoop g vs mt me (wipeE en vs) xs).bind fun ds => .ret (.d (.list ds)))
theorem drop_get {α : Type} {xs : List α} {i : Nat} {x : α} (h : xs[i]? = some x) : xs.drop i = x :: xs.drop (i + 1) := by
  obtain ⟨h1, h2⟩ := List.getElem?_eq_some_iff.mp h
  rw [← h2]; exact List.drop_eq_getElem_cons h1
theorem lc_walk {J : It} {g : W → T (List (Nat × W))} {tg' : TG} {vs : List Nat} {mt : En → T Bool} {me : En → T W} {tt : TT} {te : TE} {en : En} {σ : L2.St} {xs : List W} {H0 : Hp}
    (sg : ∀ R v x F σ H (Q : L2.St → Hp → Prop), RpW Y R H v x F → (g x).wp (fun bs => ∀ ps, BRel Y R H F ps bs → Q (setsV σ ps) H) → tg' v σ H Q)
    (stt : ∀ R en σ H (Q : Bool → Hp → Prop), RelW Y R H en σ → (mt en).wp (fun b => ∀ H', Le R Y.K H H' → Q b H') → tt σ H Q)
    (ste : ∀ R en σ H Q, RelW Y R H en σ → (me en).wp (Kv Y R H uq Q) → te σ H Q)
    (rel0 : RelW Y R H0 en σ) (l01 : Le R Y.K H0 H1) (ok : ItOk Y R J H1 xs F) (hl : Nat.ble xs.length lim = true)
    (k : (lcLoop g vs mt me (wipeE en vs) xs).wp fun ds => Kv Y R H0 uq Q (.d (.list ds))) (D : Addr) (hD : H1 D = none) :
    ∃ Wv : Nat → Nat → Hp → Prop, (∃ m, Wv 0 m (upd H1 D (.lst []))) ∧ ∀ i m H, Wv i m H →
      (J.stop i H ∧ Q (.ref D) H) ∨ (J.go i H ∧ ∃ Nx : Hp → Prop, (∀ H', Nx H' → ∃ m', m' < m ∧ Wv (i + 1) m' H') ∧ ∀ x H', J.yld i H x H' → tg' x (wipe σ vs) H' fun σ2 H2 => wipe σ2 vs = wipe σ vs ∧ tt σ2 H2 fun b H3 =>
        if b = true then te σ2 H3 fun y H4 => ∃ acc, H4 D = some (.lst acc) ∧ acc.length < sizeLine ∧ Nx (upd H4 D (.lst (acc ++ [y]))) else Nx H3) := by
  have rel1 := rel0.le l01
  have hR : R.row ≠ some D := (RowI.away rel1.ri hD).1
  have hRh : ¬ R.hid D := (RowI.away rel1.ri hD).2
  have upR : ∀ {H : Hp} {o o' : HO}, H D = some o → Le R Y.K H1 H → Le R Y.K H1 (upd H D o') := fun {H o o'} e l => by
    refine ⟨fun a u hr h => ?_, fun a u h => ?_, fun h r hr => ?_⟩
    · rw [upd_ne (ne_of_none h hD)]; exact l.keep a u hr h
    · rw [upd_ne (ne_of_none h hD)]; exact l.there a u h
    · obtain ⟨i, j, kk, h1, h2, h3⟩ := l.rowR h r hr
      obtain ⟨_, _, _, _, g2, _⟩ := h r hr
      refine ⟨i, j, kk, by rw [upd_ne (fun z => hR (by rw [← z]; exact hr))]; exact h1, ?_, h3⟩
      rcases g2 with g2 | g2
      · have hsD : R.scr ≠ D := fun z => by
          rw [z] at g2
          rcases g2 with g2 | ⟨_, g2⟩ <;> rw [hD] at g2 <;> cases g2
        rcases h2 with (h2 | ⟨ob, h2⟩) | h2
        · exact .inl (.inl (by rw [upd_ne hsD]; exact h2))
        · exact .inl (.inr ⟨ob, by rw [upd_ne hsD]; exact h2⟩)
        · exact .inr h2
      · exact .inr g2
  have hlen : xs.length ≤ lim := bleD hl
  have wq : ∀ (ps : List (Nat × V)), (∀ p ∈ ps, p.1 ∈ vs) → wipe (setsV (wipe σ vs) ps) vs = wipe σ vs := fun ps h => by rw [setsV_wipe h, wipe_wipe]
  have fnal : ∀ {i : Nat} {H : Hp} {acc : List V} {ds : List PyData} {Fa : List Addr}, H D = some (.lst acc) → Le R Y.K H1 H → RpA Y.w Y.K H acc ds Fa → Away (R.hide (· = D)) Fa → (uq = true → Uniq H1 Fa) → Kv Y R H0 uq Q (.d (.list ds)) → Q (.ref D) H := fun {i H acc ds Fa} hDa l ra aw u kv => by
    refine kv _ H (D :: Fa) (l01.trans l) (.lst hDa ra) (Away.cons ⟨hR, hRh⟩ fun a ha => ⟨(aw a ha).1, fun z => (aw a ha).2 (.inl z)⟩) fun h => ⟨List.nodup_cons.mpr ⟨fun z => (aw D z).2 (.inr rfl), (u h).1⟩, fun a ha => ?_⟩
    rcases List.mem_cons.mp ha with rfl | ha
    · exact l01.fresh hD
    · exact l01.fresh ((u h).2 a ha)
  refine ⟨fun i m H => m = xs.length - i ∧ ∃ acc ds Fa, H D = some (.lst acc) ∧ Le R Y.K H1 H ∧ RpA Y.w Y.K H acc ds Fa ∧ Away (R.hide (· = D)) Fa ∧ (uq = true → Uniq H1 Fa) ∧ acc.length ≤ i ∧
    (lcLoop g vs mt me (wipeE en vs) (xs.drop i)).wp fun rest => Kv Y R H0 uq Q (.d (.list (ds ++ rest))), ⟨xs.length, by omega, [], [], [], upd_same, Le.new hD, .nil, Away.nil, fun _ => Uniq.nil, Nat.le_refl _, k⟩, ?_⟩
  rintro i m H ⟨rfl, acc, ds, Fa, hDa, l, ra, awa, ua, hacc, kk⟩
  cases hx : xs[i]? with
  | none =>
    have hn : xs.drop i = [] := List.drop_eq_nil_of_le (List.getElem?_eq_none_iff.mp hx)
    rw [hn] at kk
    have kk : Kv Y R H0 uq Q (.d (.list (ds ++ []))) := kk
    rw [List.append_nil] at kk
    exact .inl ⟨ok.stop i H hx (l.toP rel1.ri), fnal (i := i) hDa l ra awa ua kk⟩
  | some x =>
    have hi : i < xs.length := (List.getElem?_eq_some_iff.mp hx).1
    rw [drop_get hx] at kk
    obtain ⟨go, yd⟩ := ok.go i x H hx (l.toP rel1.ri)
    refine .inr ⟨go, fun H => ∃ acc ds Fa, H D = some (.lst acc) ∧ Le R Y.K H1 H ∧ RpA Y.w Y.K H acc ds Fa ∧ Away (R.hide (· = D)) Fa ∧ (uq = true → Uniq H1 Fa) ∧ acc.length ≤ i + 1 ∧
      (lcLoop g vs mt me (wipeE en vs) (xs.drop (i + 1))).wp fun rest => Kv Y R H0 uq Q (.d (.list (ds ++ rest))), fun H' h => ⟨xs.length - (i + 1), by omega, rfl, h⟩, fun v H2 y => ?_⟩
    obtain ⟨l2, Fi, rv, hFi⟩ := yd v H2 y
    have l12 := l.trans l2
    refine sg R v x Fi (wipe σ vs) H2 _ rv ?_
    refine T.wp_mono ((T.wp_bind _ _ _).mp kk) fun bs kb => ?_
    intro ps hps
    obtain ⟨hsl, kb⟩ := T.wp_must kb
    have hsl : ∀ p ∈ ps, p.1 ∈ vs := fun p hp => by
      have h1 : p.1 ∈ ps.map (·.1) := List.mem_map.mpr ⟨p, hp, rfl⟩
      rw [hps.slots] at h1
      obtain ⟨q, hq, e⟩ := List.mem_map.mp h1
      rw [← e]; exact slotsIn_of hsl q hq
    have hD2 : H2 D = some (.lst acc) := lst_le l2 hR hDa
    have awF : Away (R.hide (· = D)) Fi := fun a ha => ⟨(ok.aw a (hFi a ha)).1, fun z => by
      rcases z with z | z
      · exact (ok.aw a (hFi a ha)).2 z
      · obtain ⟨o, ho⟩ := ok.tr a (hFi a ha)
        rw [show a = D from z, hD] at ho; cases ho⟩
    have rel2 : RelW Y (R.hide (· = D)) H2 (setsE (wipeE en vs) bs) (setsV (wipe σ vs) ps) := (RelW.hideNew (rel1.wiped vs) l12 hD ⟨_, hD2⟩).sets awF hps.hide
    refine ⟨wq ps hsl, stt (R.hide (· = D)) _ _ H2 _ rel2 ?_⟩
    refine T.wp_mono ((T.wp_bind _ _ _).mp kb) fun b kb => ?_
    intro H3 l3
    have l13 := l12.trans l3.unhide
    have ra3 := (ra.le l2 (l.row rel1.ri) fun a ha => ⟨(awa a ha).1, fun z => (awa a ha).2 (.inl z)⟩).le l3 rel2.ri awa
    have hD3 : H3 D = some (.lst acc) := lst_le l3 hR hD2
    cases b with
    | false =>
      rw [if_neg (by decide)]
      exact ⟨acc, ds, Fa, hD3, l13, ra3, awa, ua, by omega, kb⟩
    | true =>
      rw [if_pos rfl]
      refine ste (R.hide (· = D)) _ _ H3 _ (rel2.le l3) ?_
      refine T.wp_mono ((T.wp_bind _ _ _).mp kb) fun y ky => ?_
      intro u H4 Fy l4 ry awy uy
      cases y with
      | row => exact ky.elim
      | lk _ => exact ky.elim
      | d d =>
        have ky := (T.wp_bind _ _ _).mp (show ((lcLoop g vs mt me (wipeE en vs) (xs.drop (i + 1))).bind fun rest => T.ret (d :: rest)).wp _ from ky)
        have hD4 : H4 D = some (.lst acc) := lst_le l4 hR hD3
        have ra4 := ra3.le l4 (l3.row rel2.ri) awa
        have nD : ∀ {G : List Addr}, Away (R.hide (· = D)) G → D ∉ G := fun aw z => (aw D z).2 (.inr rfl)
        have ra5 : RpA Y.w Y.K (upd H4 D (.lst (acc ++ [u]))) (acc ++ [u]) (ds ++ [d]) (Fa ++ (Fy ++ [])) := (ra4.mut (.inl ⟨_, hD4⟩) (nD awa)).app (.cons (Rp.mut (.inl ⟨_, hD4⟩) ry (nD awy)) .nil)
        rw [List.append_nil] at ra5
        refine ⟨acc, hD4, lim_size' (by omega), acc ++ [u], ds ++ [d], Fa ++ Fy, upd_same, upR hD4 (l13.trans l4.unhide), ra5, awa.app awy, fun h => ?_, by rw [List.length_append]; exact Nat.succ_le_succ hacc, ?_⟩
        · exact uniq_app l13 rel1.ri (ua h) ra3.tracked (uy h)
        · refine T.wp_mono ky fun rest kr => ?_
          have kr : Kv Y R H0 uq Q (.d (.list (ds ++ (d :: rest)))) := kr
          rw [List.append_assoc]
          exact kr
theorem se_lc {mi : En → T (List W)} {g : W → T (List (Nat × W))} {ifs : List Expr} {scope : Scope} {own : List (Str × Nat)} {mt : En → T Bool} {me : En → T W} {elt iter : Expr} {c' : Sc}
    (hc' : c' = { c with sc := relS scope c.sc, own := own.map (·.1) }) (ok : blkC c.N c.sc scope own = true) (ho : (own.map (·.1)).all (fun x => scope.names.lookup x == some .cell || (relS scope c.sc).names.lookup x == some .local) = true)
    (hi : SI c tg iter mi) (hg : SG c' tg g) (ht : STs c' ifs mt) (he : SE c' elt me uq) (hs : ∀ env x, foldedSetIterable iter env x = pure x) :
    SE c (.ListComp elt [⟨tg, iter, ifs, 0⟩] scope pos) (mLC mi g (own.map (·.2)) mt me) uq := by
  subst hc'
  intro Y X sx dy
  obtain ⟨wi, pi, si⟩ := hi Y X sx dy
  have hown : ∀ x ∈ own.map (·.1), scope.names.lookup x = some .cell ∨ (relS scope c.sc).names.lookup x = some .local := fun x hx => by
    have := List.all_eq_true.mp ho x hx
    rw [Bool.or_eq_true, beq_iff_eq, beq_iff_eq] at this
    exact this
  have sb := sx_blk sx hown
  have dyb : DynOk { c with sc := relS scope c.sc, own := own.map (·.1) } Y := ⟨dy.tab, dy.cons, dy.blt⟩
  have G := fun s H C cl fp => hg Y _ (sb s H C cl fp)
  have TT := fun s H C cl fp => ht Y _ (sb s H C cl fp) dyb
  have EE := fun s H C cl fp => he Y _ (sb s H C cl fp) dyb
  refine ⟨_, pe_lc (g := fun v σ H Q => ∀ s' H' C cl fp, (G s' H' C cl fp).choose v σ H Q) (tt := fun σ H Q => ∀ s' H' C cl fp, (TT s' H' C cl fp).choose σ H Q) (te := fun σ H Q => ∀ s' H' C cl fp, (EE s' H' C cl fp).choose σ H Q) sx.calm (by rw [sx.N]; exact sx.nd) pi (by rw [sx.N, sx.sc]; exact blkOk_by ok)
    (fun s H C cl fp => ⟨fun pins t σ H' v u Q I r h => (G s H C cl fp).choose_spec.1.run pins t σ H' v u Q I r (h s H C cl fp)⟩)
    (fun s H C cl fp => ⟨fun pins t σ H' Q I h => (TT s H C cl fp).choose_spec.1.run pins t σ H' Q I (h s H C cl fp)⟩)
    (fun s H C cl fp => ⟨fun pins t σ H' Q I h => (EE s H C cl fp).choose_spec.1.run pins t σ H' Q I (h s H C cl fp)⟩) (hs X.env), fun R en σ H Q rel k => si R en σ H _ rel ?_⟩
  refine T.wp_mono ((T.wp_bind _ _ _).mp k) fun xs kx => ?_
  intro J H1 F l1 it D hD
  obtain ⟨hl, kx⟩ := T.wp_must kx
  exact lc_walk (fun R v x F σ H Q r k s' H' C cl fp => (G s' H' C cl fp).choose_spec.2 R v x F σ H Q r k) (fun R en σ H Q r k s' H' C cl fp => (TT s' H' C cl fp).choose_spec.2 R en σ H Q r k)
    (fun R en σ H Q r k s' H' C cl fp => (EE s' H' C cl fp).choose_spec.2 R en σ H Q r k) rel l1 it hl ((T.wp_bind _ _ _).mp kx) D hD
end
end G

set_option Elab.async false
set_option linter.all false
set_option maxRecDepth 100000
/-! G8: statements. -/
namespace G
open PySem PySem.Spec PyProof.Rows L2

/-! ### the frame of a running def, with what it owns -/
structure RelF (Y : Dyn) (R : Rw) (P : Addr → Prop) (H : Hp) (en : En) (σ : L2.St) (Fs : Nat → List Addr) : Prop where
  ri : RowI R Y.K H
  live : ∀ a, P a → ∃ o, H a = some o
  scr : ∀ r, R.row = some r → P R.scr ∨ ∀ H, SqL Y.K H R.scr (R.xs.map V.int)
  len : en.length = σ.length
  at_ : ∀ (i : Nat) (s : Slot), en[i]? = some (some s) → (∃ v, σ[i]? = some (some v) ∧ RpW Y R H v s.w (Fs i)) ∧ Away R (Fs i)
  own : ∀ (i : Nat) (s : Slot), en[i]? = some (some s) → s.fl = 0 → (Fs i).Nodup ∧ (∀ a ∈ Fs i, ¬ P a) ∧ ∀ (j : Nat) (t : Slot), j ≠ i → en[j]? = some (some t) → ∀ a ∈ Fs i, a ∉ Fs j
def RelS (Y : Dyn) (R : Rw) (P : Addr → Prop) (H : Hp) (en : En) (σ : L2.St) : Prop := ∃ Fs, RelF Y R P H en σ Fs
inductive Out where
  | nx (en : En)
  | bk (en : En)
  | ct (en : En)
  | rt (x : W)
def KO (Y : Dyn) (R : Rw) (P : Addr → Prop) (H : Hp) (D : Ends) : Out → Prop
  | .nx en' => ∀ σ' H', LeP R Y.K P H H' → RelS Y R P H' en' σ' → D.nx σ' H'
  | .bk en' => ∀ σ' H', LeP R Y.K P H H' → RelS Y R P H' en' σ' → D.bk σ' H'
  | .ct en' => ∀ σ' H', LeP R Y.K P H H' → RelS Y R P H' en' σ' → D.ct σ' H'
  | .rt x => ∀ v H' F, LeP R Y.K P H H' → RpW Y R H' v x F → Away R F → F.Nodup → (∀ a ∈ F, ¬ P a) → D.rt v H'
structure SSx (c : Sc) (Y : Dyn) (X : Cx) : Prop where
  sx : Sx c Y X
  xe : X.xe = fun _ _ => False
def SS (c : Sc) (st : Stmt) (m : En → T Out) : Prop :=
  ∀ (Y : Dyn) (X : Cx), SSx c Y X → DynOk c Y → ∃ t : TS, PS X st t ∧ ∀ R P en σ H D, RelS Y R P H en σ → (m en).wp (KO Y R P H D) → t D σ H
def SSs (c : Sc) (st : List Stmt) (m : En → T Out) : Prop :=
  ∀ (Y : Dyn) (X : Cx), SSx c Y X → DynOk c Y → ∃ t : TS, PSs X st t ∧ ∀ R P en σ H D, RelS Y R P H en σ → (m en).wp (KO Y R P H D) → t D σ H
section
variable {Y : Dyn} {R : Rw} {P P' : Addr → Prop} {H H1 H' : Hp} {uq : Bool} {Q : VK} {x y : W} {v : V} {F : List Addr} {c : Sc} {e e1 e2 e3 tg : Expr} {pos : Pos} {en : En} {σ : L2.St} {Fs : Nat → List Addr} {D : Ends} {o : Out}
theorem KO.back (l : LeP R Y.K P H H1) (k : KO Y R P H D o) : KO Y R P H1 D o := by
  cases o with
  | nx en' => exact fun σ' H' l' r => k σ' H' (l.trans l') r
  | bk en' => exact fun σ' H' l' r => k σ' H' (l.trans l') r
  | ct en' => exact fun σ' H' l' r => k σ' H' (l.trans l') r
  | rt x => exact fun v H' F l' r => k v H' F (l.trans l') r
theorem RelF.le (r : RelF Y R P H en σ Fs) (l : Le R Y.K H H1) : RelF Y R P H1 en σ Fs :=
  ⟨l.row r.ri, fun a h => let ⟨o, e⟩ := r.live a h; l.there a o e, r.scr, r.len, fun i s h => let ⟨⟨v, e, rv⟩, aw⟩ := r.at_ i s h; ⟨⟨v, e, rv.le l r.ri aw⟩, aw⟩, r.own⟩
theorem RelF.toW (r : RelF Y R P H en σ Fs) : RelW Y R H en σ := ⟨r.ri, r.len, fun i s h => let ⟨⟨v, e, rv⟩, aw⟩ := r.at_ i s h; ⟨v, Fs i, e, rv, aw⟩⟩
theorem RelF.mono (r : RelF Y R P H en σ Fs) (h : ∀ a, P' a → P a) (hs : P R.scr → P' R.scr) : RelF Y R P' H en σ Fs :=
  ⟨r.ri, fun a ha => r.live a (h a ha), fun q e => (r.scr q e).imp hs id, r.len, r.at_, fun i s e f => let ⟨h1, h2, h3⟩ := r.own i s e f; ⟨h1, fun a ha z => h2 a ha (h a z), h3⟩⟩
theorem RelF.tracked (r : RelF Y R P H en σ Fs) {i : Nat} {s : Slot} (h : en[i]? = some (some s)) : ∀ a ∈ Fs i, ∃ o, H a = some o := let ⟨⟨_, _, rv⟩, _⟩ := r.at_ i s h; rv.tracked
/-- what is new is apart from all -/
theorem RelF.apart (r : RelF Y R P H en σ Fs) (hF : ∀ a ∈ F, H a = none) : (∀ a ∈ F, ¬ P a) ∧ ∀ (j : Nat) (t : Slot), en[j]? = some (some t) → ∀ a ∈ F, a ∉ Fs j := by
  refine ⟨fun a ha z => ?_, fun j t h a ha z => ?_⟩
  · obtain ⟨o, e⟩ := r.live a z
    rw [hF a ha] at e; cases e
  · obtain ⟨o, e⟩ := r.tracked h a z
    rw [hF a ha] at e; cases e
theorem get_set {en : En} {i j : Nat} {s t : Slot} (h : (en.set i (some s))[j]? = some (some t)) : (j = i ∧ i < en.length ∧ t = s) ∨ (j ≠ i ∧ en[j]? = some (some t)) := by
  by_cases e : i = j
  · subst e
    by_cases hl : i < en.length
    · rw [List.getElem?_set_self hl] at h
      cases h
      exact .inl ⟨rfl, hl, rfl⟩
    · rw [List.getElem?_eq_none (by rw [List.length_set]; omega)] at h; cases h
  · rw [List.getElem?_set_ne e] at h
    exact .inr ⟨fun z => e z.symm, h⟩
theorem RelF.set (r : RelF Y R P H en σ Fs) {i fl : Nat} (rv : RpW Y R H v x F) (aw : Away R F)
    (h0 : fl = 0 → F.Nodup ∧ (∀ a ∈ F, ¬ P a) ∧ ∀ (j : Nat) (t : Slot), j ≠ i → en[j]? = some (some t) → ∀ a ∈ F, a ∉ Fs j)
    (h1 : ∀ (j : Nat) (t : Slot), j ≠ i → en[j]? = some (some t) → t.fl = 0 → ∀ a ∈ Fs j, a ∉ F) : RelF Y R P H (en.set i (some ⟨fl, x⟩)) (σ.set i (some v)) (fun j => if j = i then F else Fs j) := by
  refine ⟨r.ri, r.live, r.scr, by rw [List.length_set, List.length_set]; exact r.len, fun j s h => ?_, fun j s h hf => ?_⟩
  · rcases get_set h with ⟨rfl, hl, rfl⟩ | ⟨hj, h⟩
    · rw [if_pos rfl]
      exact ⟨⟨v, List.getElem?_set_self (by rw [← r.len]; exact hl), rv⟩, aw⟩
    · rw [if_neg hj, List.getElem?_set_ne (Ne.symm hj)]
      exact r.at_ j s h
  · rcases get_set h with ⟨rfl, hl, rfl⟩ | ⟨hj, hjs⟩
    · obtain ⟨g1, g2, g3⟩ := h0 hf
      rw [if_pos rfl]
      refine ⟨g1, g2, fun k t hk ht => ?_⟩
      rw [if_neg hk]
      rcases get_set ht with ⟨z, _⟩ | ⟨_, ht⟩
      · exact absurd z hk
      · exact g3 k t hk ht
    · obtain ⟨g1, g2, g3⟩ := r.own j s hjs hf
      rw [if_neg hj]
      refine ⟨g1, g2, fun k t hk ht => ?_⟩
      rcases get_set ht with ⟨ek, _⟩ | ⟨hki, ht⟩
      · rw [if_pos ek]
        exact h1 j s hj hjs hf
      · rw [if_neg hki]
        exact g3 k t hk ht
def setsO : En → List (Nat × W) → En
  | en, [] => en
  | en, (i, x) :: bs => setsO (en.set i (some ⟨0, x⟩)) bs
theorem RelF.setAll : ∀ {is : List Nat} {vs : List V} {xs : List W} {F : List Addr} {en : En} {σ : L2.St} {Fs : Nat → List Addr}, RelF Y R P H en σ Fs → RpWs Y R H vs xs F → Away R F → F.Nodup → (∀ a ∈ F, ¬ P a) →
    (∀ (j : Nat) (t : Slot), en[j]? = some (some t) → ∀ a ∈ F, a ∉ Fs j) → RelS Y R P H (setsO en (is.zip xs)) (setsV σ (is.zip vs))
  | [], _, _, _, _, _, Fs, r, _, _, _, _, _ => ⟨Fs, r⟩
  | i :: is, [], [], _, _, _, Fs, r, _, _, _, _, _ => ⟨Fs, r⟩
  | i :: is, [], _ :: _, _, _, _, _, _, h, _, _, _, _ => (show False from h).elim
  | i :: is, _ :: _, [], _, _, _, _, _, h, _, _, _, _ => (show False from h).elim
  | i :: is, v :: vs, x :: xs, _, en, σ, Fs, r, ⟨F1, F2, e, rv, rs⟩, aw, nd, nP, dis => by
    subst e
    obtain ⟨n1, n2, n12⟩ := List.nodup_append.mp nd
    have r1 := r.set (i := i) (fl := 0) rv aw.left (fun _ => ⟨n1, fun a ha => nP a (List.mem_append_left _ ha), fun j t _ h a ha => dis j t h a (List.mem_append_left _ ha)⟩) fun j t _ h _ a ha z => dis j t h a (List.mem_append_left _ z) ha
    refine RelF.setAll (is := is) r1 rs aw.right n2 (fun a ha => nP a (List.mem_append_right _ ha)) fun j t h a ha => ?_
    rcases get_set h with ⟨rfl, _⟩ | ⟨hj, h⟩
    · rw [if_pos rfl]
      exact fun z => n12 a z a ha rfl
    · rw [if_neg hj]
      exact dis j t h a (List.mem_append_right _ ha)
theorem RpWs.ofA : ∀ {vs : List V} {ds : List PyData} {F : List Addr}, RpA Y.w Y.K H vs ds F → RpWs Y R H vs (ds.map W.d) F
  | _, _, _, .nil => rfl
  | _, _, _, .cons h r => ⟨_, _, rfl, h, RpWs.ofA r⟩

/-! ### blocks -/
def bindO (o : Out) (m : En → T Out) : T Out := match o with
  | .nx en => m en
  | o => .ret o
def mSeq (m1 m2 : En → T Out) : En → T Out := fun en => (m1 en).bind fun o => bindO o m2
theorem seq_give {t u : TS} {m1 m2 : En → T Out} (s1 : ∀ R P en σ H D, RelS Y R P H en σ → (m1 en).wp (KO Y R P H D) → t D σ H) (s2 : ∀ R P en σ H D, RelS Y R P H en σ → (m2 en).wp (KO Y R P H D) → u D σ H)
    (rel : RelS Y R P H en σ) (k : (mSeq m1 m2 en).wp (KO Y R P H D)) : tSeq t u D σ H := by
  refine s1 R P en σ H _ rel ?_
  refine T.wp_mono ((T.wp_bind _ _ _).mp k) fun o ko => ?_
  cases o with
  | nx en' => exact fun σ' H' l r => s2 R P en' σ' H' D r (T.wp_mono ko fun o => KO.back l)
  | bk en' => exact ko
  | ct en' => exact ko
  | rt x => exact ko
theorem sss_nil : SSs c [] fun en => .ret (.nx en) := fun Y X sx dy => ⟨_, pss_nil, fun R P en σ H D rel k => k σ H LeP.refl rel⟩
theorem sss_cons {st : Stmt} {sts : List Stmt} {m1 m2 : En → T Out} (h1 : SS c st m1) (h2 : SSs c sts m2) : SSs c (st :: sts) (mSeq m1 m2) := by
  intro Y X sx dy
  obtain ⟨t, p, s⟩ := h1 Y X sx dy
  obtain ⟨u, q, z⟩ := h2 Y X sx dy
  exact ⟨_, pss_cons p q, fun R P en σ H D rel k => seq_give s z rel k⟩
theorem ss_pass : SS c (.Pass pos) fun en => .ret (.nx en) := fun Y X sx dy => ⟨_, ps_pass, fun R P en σ H D rel k => k σ H LeP.refl rel⟩
theorem ss_break : SS c (.Break pos) fun en => .ret (.bk en) := fun Y X sx dy => ⟨_, ps_break, fun R P en σ H D rel k => k σ H LeP.refl rel⟩
theorem ss_continue : SS c (.Continue pos) fun en => .ret (.ct en) := fun Y X sx dy => ⟨_, ps_continue, fun R P en σ H D rel k => k σ H LeP.refl rel⟩
theorem ss_doc {s : Str} {j pos'} : SS c (.Expr (.Constant (.str s) j pos) pos') fun en => .ret (.nx en) := fun Y X sx dy => ⟨_, ps_doc, fun R P en σ H D rel k => k σ H LeP.refl rel⟩
theorem ss_never {st : Stmt} : SS c st fun _ => .fail := fun Y X sx dy => ⟨_, ps_never, fun R P en σ H D rel k => k.elim⟩
def mIfS (mt : En → T Bool) (m1 m2 : En → T Out) : En → T Out := fun en => (mt en).bind fun b => match b with
  | true => m1 en
  | false => m2 en
theorem ss_if {a b : List Stmt} {mt : En → T Bool} {m1 m2 : En → T Out} (ht : ST c e mt) (h1 : SSs c a m1) (h2 : SSs c b m2) : SS c (.If e a b pos) (mIfS mt m1 m2) := by
  intro Y X sx dy
  obtain ⟨tt, pt, st⟩ := ht Y X sx.sx dy
  obtain ⟨t, p, s⟩ := h1 Y X sx dy
  obtain ⟨u, q, z⟩ := h2 Y X sx dy
  refine ⟨_, ps_if pt p q, fun R P en σ H D ⟨Fs, rel⟩ k => st R en σ H _ rel.toW ?_⟩
  refine T.wp_mono ((T.wp_bind _ _ _).mp k) fun b kb => ?_
  intro H1 l
  have lp : LeP R Y.K P H H1 := l.toP rel.ri
  cases b with
  | true => rw [if_pos rfl]; exact s R P en σ H1 D ⟨Fs, rel.le l⟩ (T.wp_mono kb fun o => KO.back lp)
  | false => rw [if_neg (by decide)]; exact z R P en σ H1 D ⟨Fs, rel.le l⟩ (T.wp_mono kb fun o => KO.back lp)
def mDrop (m : En → T W) : En → T Out := fun en => (m en).bind fun _ => .ret (.nx en)
theorem ss_expr {m : En → T W} (h : SE c e m uq) (hs : ∀ env, swapsWith e none pos.line env = pure false) : SS c (.Expr e pos) (mDrop m) := by
  intro Y X sx dy
  obtain ⟨t, p, s⟩ := h Y X sx.sx dy
  refine ⟨_, ps_expr p (hs X.env), fun R P en σ H D ⟨Fs, rel⟩ k => s R en σ H _ rel.toW ?_⟩
  refine T.wp_mono ((T.wp_bind _ _ _).mp k) fun x kx => ?_
  exact fun v H' F l r aw u => kx σ H' (l.toP rel.ri) ⟨Fs, rel.le l⟩
def mRet (m : En → T W) : En → T Out := fun en => (m en).bind fun x => .ret (.rt x)
theorem ss_ret {m : En → T W} (h : SE c e m true) : SS c (.Return (some e) pos) (mRet m) := by
  intro Y X sx dy
  obtain ⟨t, p, s⟩ := h Y X sx.sx dy
  refine ⟨_, ps_ret p, fun R P en σ H D ⟨Fs, rel⟩ k => s R en σ H _ rel.toW ?_⟩
  refine T.wp_mono ((T.wp_bind _ _ _).mp k) fun x kx => ?_
  exact fun v H' F l r aw u => kx v H' F (l.toP rel.ri) r aw (u rfl).1 (rel.apart (u rfl).2).1
theorem ss_retN : SS c (.Return none pos) fun _ => .ret (.rt (.d .none)) := fun Y X sx dy => ⟨_, ps_retN, fun R P en σ H D rel k => k .non H [] LeP.refl .non Away.nil List.nodup_nil fun _ h => nomatch h⟩
/-- return name: what it owns -/
def mRetV (i : Nat) : En → T Out := fun en => match en[i]? with
  | some (some s) => T.must (Nat.beq s.fl 0 || s.w.imm) (.ret (.rt s.w))
  | _ => .fail
theorem ss_retV {i : Nat} {nm : Str} {p : Pos} (hi : c.N[i]? = some nm) (hv : Vis c.sc nm) (hd : (nm == ("__debug__" : Str)) = false) (hcd : (nm == ("__classdict__" : Str)) = false) : SS c (.Return (some (.Name nm p)) pos) (mRetV i) := by
  intro Y X sx dy
  refine ⟨_, ps_ret (pe_var (by rw [sx.sx.N]; exact hi) (by rw [sx.sx.sc]; exact hv) hd hcd), fun R P en σ H D ⟨Fs, rel⟩ k => ?_⟩
  unfold mRetV at k
  split at k
  · rename_i s hs
    obtain ⟨hb, k⟩ := T.wp_must k
    obtain ⟨⟨v, e1, rv⟩, aw⟩ := rel.at_ i s hs
    refine ⟨v, e1, ?_⟩
    rw [Bool.or_eq_true] at hb
    by_cases h0 : s.fl = 0
    · obtain ⟨g1, g2, _⟩ := rel.own i s hs h0
      exact k v H (Fs i) LeP.refl rv aw g1 g2
    · rcases hb with hb | hb
      · exact absurd (Nat.eq_of_beq_eq_true hb) h0
      · have e := rv.imm hb
        rw [e] at rv
        exact k v H [] LeP.refl rv Away.nil List.nodup_nil fun _ h => nomatch h
  · exact k.elim

/-! ### assignments -/
def mSet (i : Nat) (m : En → T W) : En → T Out := fun en => (m en).bind fun x => .ret (.nx (en.set i (some ⟨0, x⟩)))
theorem set_give {i : Nat} (rel : RelF Y R P H en σ Fs) (kx : KO Y R P H D (.nx (en.set i (some ⟨0, x⟩)))) : Kv Y R H true (fun v H1 => D.nx (σ.set i (some v)) H1) x := by
  intro v H' F l r aw u
  obtain ⟨a1, a2⟩ := rel.apart (u rfl).2
  exact kx _ H' (l.toP rel.ri) ⟨_, (rel.le l).set r aw (fun _ => ⟨(u rfl).1, a1, fun j t _ => a2 j t⟩) fun j t _ h _ a ha z => a2 j t h a z ha⟩
theorem ss_set {i : Nat} {nm : Str} {p : Pos} {m : En → T W} (h : SE c e m true) (hi : c.N[i]? = some nm) (hl : locB c.sc nm = true) (ho : nm ∈ c.own)
    (hs : ∀ env : PySem.Env, env.scope = c.sc → swapsWith e (some (.Name nm p)) pos.line env = pure false) : SS c (.Assign [.Name nm p] e pos) (mSet i m) := by
  intro Y X sx dy
  obtain ⟨t, pe, s⟩ := h Y X sx.sx dy
  refine ⟨_, ps_set (by rw [sx.sx.N]; exact sx.sx.nd) (by rw [sx.sx.N]; exact hi) (by rw [sx.sx.sc]; exact loc_of hl) pe (hs X.env sx.sx.sc) (sx.sx.fn nm ho), fun R P en σ H D ⟨Fs, rel⟩ k => s R en σ H _ rel.toW ?_⟩
  exact T.wp_mono ((T.wp_bind _ _ _).mp k) fun x kx => set_give rel kx
/-- name = [..], on one line -/
theorem ss_setLc {mi : En → T (List W)} {g : W → T (List (Nat × W))} {ifs : List Expr} {scope : Scope} {own : List (Str × Nat)} {mt : En → T Bool} {me : En → T W} {elt iter : Expr} {c' : Sc} {i : Nat} {nm : Str} {p spos : Pos}
    (hc' : c' = { c with sc := relS scope c.sc, own := own.map (·.1) }) (ok : blkC c.N c.sc scope own = true) (ho : (own.map (·.1)).all (fun x => scope.names.lookup x == some .cell || (relS scope c.sc).names.lookup x == some .local) = true)
    (hi : SI c tg iter mi) (hg : SG c' tg g) (ht : STs c' ifs mt) (he : SE c' elt me true) (hs : ∀ env x, foldedSetIterable iter env x = pure x)
    (hni : c.N[i]? = some nm) (hl : c.sc.names.lookup nm = some .local)
    (hsw : ∀ env : PySem.Env, env.scope = c.sc → swapsWith (.ListComp elt [⟨tg, iter, ifs, 0⟩] scope pos) (some (.Name nm p)) spos.line env = pure true) :
    SS c (.Assign [.Name nm p] (.ListComp elt [⟨tg, iter, ifs, 0⟩] scope pos) spos) (mSet i (mLC mi g (own.map (·.2)) mt me)) := by
  subst hc'
  intro Y X sx dy
  have sx0 := sx.sx
  obtain ⟨wi, pi, si⟩ := hi Y X sx0 dy
  have hown : ∀ x ∈ own.map (·.1), scope.names.lookup x = some .cell ∨ (relS scope c.sc).names.lookup x = some .local := fun x hx => by
    have := List.all_eq_true.mp ho x hx
    rw [Bool.or_eq_true, beq_iff_eq, beq_iff_eq] at this
    exact this
  have sb := sx_blk sx0 hown
  have dyb : DynOk { c with sc := relS scope c.sc, own := own.map (·.1) } Y := ⟨dy.tab, dy.cons, dy.blt⟩
  have G := fun s H C cl fp => hg Y _ (sb s H C cl fp)
  have TT := fun s H C cl fp => ht Y _ (sb s H C cl fp) dyb
  have EE := fun s H C cl fp => he Y _ (sb s H C cl fp) dyb
  refine ⟨_, ps_setLc (g := fun v σ H Q => ∀ s' H' C cl fp, (G s' H' C cl fp).choose v σ H Q) (tt := fun σ H Q => ∀ s' H' C cl fp, (TT s' H' C cl fp).choose σ H Q) (te := fun σ H Q => ∀ s' H' C cl fp, (EE s' H' C cl fp).choose σ H Q) sx0.calm (by rw [sx0.N]; exact sx0.nd) (by rw [sx0.N]; exact hni) (by rw [sx0.sc]; exact hl) (hsw X.env sx0.sc) pi (by rw [sx0.N, sx0.sc]; exact blkOk_by ok)
    (fun s H C cl fp => ⟨fun pins t σ H' v u Q I r h => (G s H C cl fp).choose_spec.1.run pins t σ H' v u Q I r (h s H C cl fp)⟩)
    (fun s H C cl fp => ⟨fun pins t σ H' Q I h => (TT s H C cl fp).choose_spec.1.run pins t σ H' Q I (h s H C cl fp)⟩)
    (fun s H C cl fp => ⟨fun pins t σ H' Q I h => (EE s H C cl fp).choose_spec.1.run pins t σ H' Q I (h s H C cl fp)⟩) (hs X.env), fun R P en σ H D ⟨Fs, rel⟩ k => si R en σ H _ rel.toW ?_⟩
  refine T.wp_mono ((T.wp_bind _ _ _).mp ((T.wp_bind _ _ _).mp k)) fun xs kx => ?_
  intro J H1 F l1 it Dd hD
  obtain ⟨hl, kx⟩ := T.wp_must kx
  exact lc_walk (Q := fun v H1 => D.nx (σ.set i (some v)) H1) (fun R v x F σ H Q r k s' H' C cl fp => (G s' H' C cl fp).choose_spec.2 R v x F σ H Q r k) (fun R en σ H Q r k s' H' C cl fp => (TT s' H' C cl fp).choose_spec.2 R en σ H Q r k)
    (fun R en σ H Q r k s' H' C cl fp => (EE s' H' C cl fp).choose_spec.2 R en σ H Q r k) rel.toW l1 it hl (T.wp_mono ((T.wp_bind _ _ _).mp kx) fun ds kd => set_give rel kd) Dd hD
/-- name = name: handed on -/
def mMove (i j : Nat) : En → T Out := fun en => match en[j]? with
  | some (some s) => match Nat.beq s.fl 0 && !s.w.imm with
    | true => .ret (.nx ((en.set j none).set i (some s)))
    | false => .ret (.nx (en.set i (some ⟨if s.w.imm then 0 else 1, s.w⟩)))
  | _ => .fail
theorem get_none {en : En} {i j : Nat} {t : Slot} (h : (en.set i none)[j]? = some (some t)) : j ≠ i ∧ en[j]? = some (some t) := by
  by_cases e : i = j
  · subst e
    by_cases hl : i < en.length
    · rw [List.getElem?_set_self hl] at h
      cases h
    · rw [List.getElem?_eq_none (by rw [List.length_set]; omega)] at h; cases h
  · rw [List.getElem?_set_ne e] at h
    exact ⟨fun z => e z.symm, h⟩
theorem RelF.drop (r : RelF Y R P H en σ Fs) (i : Nat) : RelF Y R P H (en.set i none) σ Fs :=
  ⟨r.ri, r.live, r.scr, by rw [List.length_set]; exact r.len, fun j s h => r.at_ j s (get_none h).2, fun j s h f => let ⟨g1, g2, g3⟩ := r.own j s (get_none h).2 f; ⟨g1, g2, fun k t hk ht => g3 k t hk (get_none ht).2⟩⟩
theorem ss_move {i j : Nat} {nm nm2 : Str} {p p2 : Pos} (hi : c.N[i]? = some nm) (hl : locB c.sc nm = true) (ho : nm ∈ c.own) (hj : c.N[j]? = some nm2) (hv : Vis c.sc nm2) (hd : (nm2 == ("__debug__" : Str)) = false) (hcd : (nm2 == ("__classdict__" : Str)) = false) :
    SS c (.Assign [.Name nm p] (.Name nm2 p2) pos) (mMove i j) := by
  intro Y X sx dy
  refine ⟨_, ps_set (by rw [sx.sx.N]; exact sx.sx.nd) (by rw [sx.sx.N]; exact hi) (by rw [sx.sx.sc]; exact loc_of hl) (pe_var (by rw [sx.sx.N]; exact hj) (by rw [sx.sx.sc]; exact hv) hd hcd) rfl (sx.sx.fn nm ho), fun R P en σ H D ⟨Fs, rel⟩ k => ?_⟩
  unfold mMove at k
  split at k
  · rename_i s hs
    obtain ⟨⟨v, e1, rv⟩, aw⟩ := rel.at_ j s hs
    refine ⟨v, e1, ?_⟩
    split at k
    · rename_i hb
      rw [Bool.and_eq_true] at hb
      have h0 : s.fl = 0 := Nat.eq_of_beq_eq_true hb.1
      obtain ⟨g1, g2, g3⟩ := rel.own j s hs h0
      refine k _ H LeP.refl ⟨_, ((rel.drop j).set (fl := s.fl) (i := i) rv aw (fun _ => ⟨g1, g2, fun k t _ ht => g3 k t (get_none ht).1 (get_none ht).2⟩) fun k t _ ht hf a ha z => g3 k t (get_none ht).1 (get_none ht).2 a z ha)⟩
    · by_cases him : s.w.imm = true
      · have e := rv.imm him
        rw [e] at rv
        rw [if_pos him] at k
        exact k _ H LeP.refl ⟨_, rel.set rv Away.nil (fun _ => ⟨List.nodup_nil, (fun _ h => nomatch h), fun _ _ _ _ _ h => nomatch h⟩) fun _ _ _ _ _ _ _ z => nomatch z⟩
      · rw [if_neg him] at k
        rename_i hb
        have h0 : s.fl ≠ 0 := fun z => by
          rw [z] at hb
          simp [him] at hb
        refine k _ H LeP.refl ⟨_, rel.set rv aw (fun z => nomatch z) fun k t hk ht hf a ha z => ?_⟩
        obtain ⟨g1, g2, g3⟩ := rel.own k t ht hf
        exact g3 j s (fun e => h0 (by rw [← e] at ht; rw [hs] at ht; cases ht; exact hf)) hs a ha z
  · exact k.elim
end
end G

set_option Elab.async false
set_option linter.all false
set_option maxRecDepth 100000
/-! G9: several targets at once, op=, what changes in place, loops. -/
namespace G
open PySem PySem.Spec PyProof.Rows L2

/-! ### the order of the stores -/
def locName (sc : Scope) (l : Nat) : Expr → Option Str
  | .Name n p => match sc.names.lookup n == some .local && p.line == l with
    | true => some n
    | false => none
  | _ => none
def firstLine : List Expr → Nat
  | [] => 0
  | e :: _ => e.pos.line
/-- some names: stored from the right; none: not so -/
def swN (sc : Scope) (ts vs : List Expr) : Option (Option (List Str)) :=
  let ns := ts.filterMap (locName sc (firstLine ts))
  if (!(ts.length == 2 || ts.length == 3) || !(vs.length == ts.length)) = true then some none
  else if vs.all notStar = false then none
  else if (!(ns.length == ts.length) || !(ns.eraseDups.length == ns.length)) = true then some none
  else if vs.all (foldedForSure 8) = true then some none
  else if vs.all (constantsAlone 8) = true then none
  else some (some ns)
theorem star_any {vs : List Expr} (h : vs.all notStar = true) : (vs.any fun | .Starred .. => true | _ => false) = false := by
  rw [List.any_eq_false]
  intro e he
  have := List.all_eq_true.mp h e he
  cases e <;> first | (intro z; cases z; done) | (cases this; done)
theorem swN_ok {sc : Scope} {ts vs : List Expr} {r : Option (List Str)} {k k2 : Nat} {p p2 : Pos} {env : PySem.Env} (hsc : env.scope = sc) (hk : sc.kind = .function) (h : swN sc ts vs = some r) :
    swappedStores [.Tuple ts k p] (.Tuple vs k2 p2) env = pure r := by
  have hb : env.blockKind = .function := by unfold Env.blockKind; rw [hsc, hk]; rfl
  have key : ∀ (b : Bool) (f : Expr → Option Str) (z : Sem (Option (List Str))), (vs.all notStar = true → b = false) → (∀ e, f e = locName sc (firstLine ts) e) →
      (if (!(ts.length == 2 || ts.length == 3) || !(vs.length == ts.length) || !(ScopeKind.function == ScopeKind.function)) = true then pure none else if b = true then pure none else
        if (!((ts.filterMap f).length == ts.length) || !((ts.filterMap f).eraseDups.length == (ts.filterMap f).length)) = true then pure none else if vs.all (foldedForSure 8) = true then pure none else if vs.all (constantsAlone 8) = true then z else pure (some (ts.filterMap f))) = (pure r : Sem (Option (List Str))) := by
    intro b f z hb2 hf
    have ef : f = locName sc (firstLine ts) := funext hf
    subst ef
    unfold swN at h
    simp only at h
    by_cases h1 : (!(ts.length == 2 || ts.length == 3) || !(vs.length == ts.length)) = true
    · rw [if_pos h1] at h
      cases h
      rw [if_pos (by rw [Bool.or_eq_true]; exact .inl h1)]
    · rw [if_neg h1] at h
      rw [if_neg (by rw [Bool.or_eq_true]; exact fun z => z.elim h1 fun z => by cases z)]
      by_cases h2 : vs.all notStar = false
      · rw [if_pos h2] at h; cases h
      · rw [if_neg h2] at h
        rw [hb2 (by simpa using h2), if_neg (by decide)]
        split at h
        · rename_i h3
          cases h
          rw [if_pos h3]
        · rename_i h3
          rw [if_neg h3]
          split at h
          · rename_i h4
            cases h
            rw [if_pos h4]
          · rename_i h4
            rw [if_neg h4]
            split at h
            · cases h
            · rename_i h5
              cases h
              rw [if_neg h5]
  unfold swappedStores
  simp only [hb]
  refine key _ _ _ (fun hs => star_any hs) fun e => ?_
  cases e <;> try rfl
  rename_i n p
  have hl : (ts.head?.map (·.pos.line)).getD 0 = firstLine ts := by cases ts <;> rfl
  show (if (env.scope.names.lookup n == some NameKind.local && p.line == (ts.head?.map (·.pos.line)).getD 0) = true then some n else none) = match sc.names.lookup n == some .local && p.line == firstLine ts with
    | true => some n
    | false => none
  rw [hsc, hl]
  cases (sc.names.lookup n == some NameKind.local && p.line == firstLine ts) <;> rfl
section
variable {Y : Dyn} {R : Rw} {P P' : Addr → Prop} {H H1 H' : Hp} {uq : Bool} {Q : VK} {x y : W} {v : V} {F : List Addr} {c : Sc} {e e1 e2 e3 tg : Expr} {pos : Pos} {en : En} {σ : L2.St} {Fs : Nat → List Addr} {D : Ends} {o : Out}
/-- is = values, each its own -/
def mSets (is : List Nat) (ms : En → T (List W)) : En → T Out := fun en => (ms en).bind fun xs => T.must (Nat.beq xs.length is.length) (.ret (.nx (setsO en (is.zip xs))))
theorem sets_give {is : List Nat} {xs : List W} {vs : List V} {H2 : Hp} (rel : RelF Y R P H en σ Fs) (l : Le R Y.K H H2) (r : RpWs Y R H2 vs xs F) (aw : Away R F) (u : Uniq H F) (kx : KO Y R P H D (.nx (setsO en (is.zip xs)))) : D.nx (setsV σ (is.zip vs)) H2 := by
  obtain ⟨a1, a2⟩ := rel.apart u.2
  exact kx _ H2 (l.toP rel.ri) ((rel.le l).setAll r aw u.1 a1 a2)
theorem ss_par2 {i j : Nat} {n1 n2 : Str} {a b : Expr} {p1 p2 pt pt2 : Pos} {kt k2 : Nat} {ms : En → T (List W)} (h : SA c [a, b] ms true) (hi : c.N[i]? = some n1) (hj : c.N[j]? = some n2) (hij : i ≠ j)
    (h1 : c.sc.names.lookup n1 = some .local) (h2 : c.sc.names.lookup n2 = some .local) (hk : c.sc.kind = .function) (hw : swN c.sc [.Name n1 p1, .Name n2 p2] [a, b] = some (some [n1, n2])) :
    SS c (.Assign [.Tuple [.Name n1 p1, .Name n2 p2] kt pt] (.Tuple [a, b] k2 pt2) pos) (mSets [i, j] ms) := by
  intro Y X sx dy
  obtain ⟨t, p, s⟩ := h Y X sx.sx dy
  refine ⟨_, ps_par sx.sx.calm (by rw [sx.sx.N]; exact sx.sx.nd) (by rw [sx.sx.N]; exact hi) (by rw [sx.sx.N]; exact hj) hij (by rw [sx.sx.sc]; exact h1) (by rw [sx.sx.sc]; exact h2) p (swN_ok sx.sx.sc hk hw), fun R P en σ H D ⟨Fs, rel⟩ k => s R en σ H _ rel.toW ?_⟩
  refine T.wp_mono ((T.wp_bind _ _ _).mp k) fun xs kx => ?_
  intro vs H2 F l r aw u
  obtain ⟨hl, kx⟩ := T.wp_must kx
  have hl : xs.length = 2 := Nat.eq_of_beq_eq_true hl
  match xs, hl with
  | [x, y], _ =>
    match vs, r.length with
    | [v, w], _ => exact ⟨v, w, rfl, sets_give (is := [i, j]) rel l r aw (u rfl) kx⟩
theorem ss_par3 {i j l : Nat} {n1 n2 n3 : Str} {a b d : Expr} {p1 p2 p3 pt pt2 : Pos} {kt k2 : Nat} {ms : En → T (List W)} (h : SA c [a, b, d] ms true) (hi : c.N[i]? = some n1) (hj : c.N[j]? = some n2) (hl : c.N[l]? = some n3) (hij : i ≠ j) (hil : i ≠ l) (hjl : j ≠ l)
    (h1 : c.sc.names.lookup n1 = some .local) (h2 : c.sc.names.lookup n2 = some .local) (h3 : c.sc.names.lookup n3 = some .local) (hk : c.sc.kind = .function) (hw : swN c.sc [.Name n1 p1, .Name n2 p2, .Name n3 p3] [a, b, d] = some (some [n1, n2, n3])) :
    SS c (.Assign [.Tuple [.Name n1 p1, .Name n2 p2, .Name n3 p3] kt pt] (.Tuple [a, b, d] k2 pt2) pos) (mSets [i, j, l] ms) := by
  intro Y X sx dy
  obtain ⟨t, p, s⟩ := h Y X sx.sx dy
  refine ⟨_, ps_par3 sx.sx.calm (by rw [sx.sx.N]; exact sx.sx.nd) (by rw [sx.sx.N]; exact hi) (by rw [sx.sx.N]; exact hj) (by rw [sx.sx.N]; exact hl) hij hil hjl (by rw [sx.sx.sc]; exact h1) (by rw [sx.sx.sc]; exact h2) (by rw [sx.sx.sc]; exact h3) p (swN_ok sx.sx.sc hk hw), fun R P en σ H D ⟨Fs, rel⟩ k => s R en σ H _ rel.toW ?_⟩
  refine T.wp_mono ((T.wp_bind _ _ _).mp k) fun xs kx => ?_
  intro vs H2 F l' r aw u
  obtain ⟨hn, kx⟩ := T.wp_must kx
  have hn : xs.length = 3 := Nat.eq_of_beq_eq_true hn
  match xs, hn with
  | [x, y, z], _ =>
    match vs, r.length with
    | [v, w, q], _ => exact ⟨v, w, q, rfl, sets_give (is := [i, j, l]) rel l' r aw (u rfl) kx⟩
/-- names as targets -/
def SNs (c : Sc) : List Expr → List Nat → Prop
  | [], [] => True
  | .Name n _ :: es, i :: is => c.N[i]? = some n ∧ locB c.sc n = true ∧ n ∈ c.own ∧ SNs c es is
  | _, _ => False
theorem sns_run {X : Cx} (sx : Sx c Y X) : ∀ {es : List Expr} {is : List Nat}, SNs c es is → ∃ t : TGs, PGs X es t ∧ ∀ vs σ H (Q : L2.St → Hp → Prop), vs.length = is.length → Q (setsV σ (is.zip vs)) H → t vs σ H Q
  | [], [], _ => ⟨_, pgs_nil, fun vs σ H Q hl q => by
      have : vs = [] := List.eq_nil_of_length_eq_zero hl
      subst this
      exact ⟨rfl, q⟩⟩
  | [], _ :: _, h => (show False from h).elim
  | .Name n p :: es, i :: is, ⟨hi, hl, ho, h⟩ => by
    obtain ⟨t, pt, s⟩ := sns_run sx h
    refine ⟨_, pgs_cons (pg_name (pos := p) (by rw [sx.N]; exact sx.nd) (by rw [sx.N]; exact hi) (by rw [sx.sc]; exact loc_of hl) (sx.fn n ho)) pt, fun vs σ H Q hl q => ?_⟩
    match vs, hl with
    | v :: vs, hl => exact ⟨v, vs, rfl, s vs _ H Q (Nat.succ.inj hl) q⟩
  | .Name _ _ :: _, [], h => (show False from h).elim
def mUnp (is : List Nat) (m : En → T W) : En → T Out := fun en => (m en).bind fun x => match x with
  | .d (.tuple ds) => T.must (Nat.beq ds.length is.length) (.ret (.nx (setsO en (is.zip (ds.map W.d)))))
  | _ => .fail
theorem sns_len : ∀ {es : List Expr} {is : List Nat}, SNs c es is → es.length = is.length ∧ es.all notStar = true
  | [], [], _ => ⟨rfl, rfl⟩
  | [], _ :: _, h => (show False from h).elim
  | .Name n p :: es, i :: is, ⟨_, _, _, h⟩ => by
    obtain ⟨h1, h2⟩ := sns_len h
    exact ⟨by rw [List.length_cons, List.length_cons, h1], h2⟩
  | .Name _ _ :: _, [], h => (show False from h).elim
theorem ss_unp {es : List Expr} {is : List Nat} {kt : Nat} {pt : Pos} {m : En → T W} (h : SE c e m true) (hn : SNs c es is) (hsw : ∀ env : PySem.Env, env.scope = c.sc → swapsWithSole [.Tuple es kt pt] e pos.line env = pure false) (hw : ∀ env : PySem.Env, env.scope = c.sc → swappedStores [.Tuple es kt pt] e env = pure none) :
    SS c (.Assign [.Tuple es kt pt] e pos) (mUnp is m) := by
  intro Y X sx dy
  obtain ⟨t, p, s⟩ := h Y X sx.sx dy
  obtain ⟨tg, pg, sg⟩ := sns_run sx.sx hn
  obtain ⟨hl, hst⟩ := sns_len hn
  refine ⟨_, ps_asg p (pg_tup sx.sx.calm pg (assignEach_len hst).1 (assignEach_len hst).2) (hsw X.env sx.sx.sc) (hw X.env sx.sx.sc), fun R P en σ H D ⟨Fs, rel⟩ k => s R en σ H _ rel.toW ?_⟩
  refine T.wp_mono ((T.wp_bind _ _ _).mp k) fun x kx => ?_
  intro v H2 F l r aw u
  cases x with
  | row => exact kx.elim
  | lk _ => exact kx.elim
  | d d =>
    cases d with
    | tuple ds =>
      obtain ⟨hn, kx⟩ := T.wp_must kx
      have hn : ds.length = is.length := Nat.eq_of_beq_eq_true hn
      cases r with
      | tup h r =>
        rw [sx.sx.K]
        refine ⟨_, _, rfl, h, by rw [r.length, hn, hl], sg _ _ _ _ (by rw [r.length, hn]) ?_⟩
        exact sets_give rel l (RpWs.ofA r) aw (u rfl) kx
    | _ => exact kx.elim
/-! name op= int -/
def mAug (f : Int → Int → Int) (i : Nat) (m : En → T W) : En → T Out := fun en => match en[i]? with
  | some (some ⟨_, .d (.int a)⟩) => (m en).bind fun y => match y with
    | .d (.int b) => .ret (.nx (en.set i (some ⟨0, .d (.int (f a b))⟩)))
    | _ => .fail
  | _ => .fail
theorem ss_aug {i : Nat} {nm : Str} {p : Pos} {m : En → T W} {op : Operator} {f : Int → Int → Int} (hop : ∀ X, PIp X op (ipI f)) (h : SE c e m uq) (hi : c.N[i]? = some nm) (hl : locB c.sc nm = true) (ho : nm ∈ c.own) : SS c (.AugAssign (.Name nm p) op e pos) (mAug f i m) := by
  intro Y X sx dy
  obtain ⟨t, pe, s⟩ := h Y X sx.sx dy
  refine ⟨_, ps_aug (by rw [sx.sx.N]; exact sx.sx.nd) (by rw [sx.sx.N]; exact hi) (by rw [sx.sx.sc]; exact loc_of hl) pe (hop X) (sx.sx.fn nm ho), fun R P en σ H D ⟨Fs, rel⟩ k => ?_⟩
  unfold mAug at k
  split at k
  · rename_i fl a hs
    obtain ⟨⟨v, e1, rv⟩, aw⟩ := rel.at_ i _ hs
    cases hF : Fs i with
    | cons b bs => rw [hF] at rv; cases rv
    | nil =>
      rw [hF] at rv
      cases rv
      refine ⟨_, e1, s R en σ H _ rel.toW ?_⟩
      refine T.wp_mono ((T.wp_bind _ _ _).mp k) fun y ky => ?_
      intro u H1 F1 l r _ _
      split at ky
      · cases r
        refine ⟨_, _, rfl, rfl, ky _ H1 (l.toP rel.ri) ⟨_, (rel.le l).set (F := []) (.int _) Away.nil (fun _ => ⟨List.nodup_nil, (fun _ h => nomatch h), fun _ _ _ _ _ h => nomatch h⟩) fun _ _ _ _ _ _ _ z => nomatch z⟩⟩
      · exact ky.elim
  · exact k.elim

/-! ### what a def owns is changed in place -/
theorem RelF.mutL (r : RelF Y R P H en σ Fs) {i : Nat} {s : Slot} {p : Addr} {vs vs' : List V} {ds' : List PyData} {F' : List Addr} (hi : en[i]? = some (some s)) (h0 : s.fl = 0) (hv : σ[i]? = some (some (.ref p))) (hp : H p = some (.lst vs)) (hF : p ∈ Fs i)
    (ra : RpA Y.w Y.K H vs' ds' F') (aw : Away R F') (nd : (p :: F').Nodup) (nP : ∀ a ∈ F', ¬ P a) (dis : ∀ (j : Nat) (t : Slot), j ≠ i → en[j]? = some (some t) → ∀ a ∈ F', a ∉ Fs j) :
    RelS Y R P (upd H p (.lst vs')) (en.set i (some ⟨0, .d (.list ds')⟩)) σ ∧ LeP R Y.K P H (upd H p (.lst vs')) := by
  obtain ⟨g1, g2, g3⟩ := r.own i s hi h0
  obtain ⟨_, awi⟩ := r.at_ i s hi
  have hR : R.row ≠ some p := (awi p hF).1
  have hpP : ¬ P p := g2 p hF
  have lp : LeP R Y.K P H (upd H p (.lst vs')) := by
    refine ⟨fun a o ha _ h => (by rw [upd_ne (fun z => hpP (by rw [← z]; exact ha))]; exact h), fun a xs h => by rw [upd_ne (ne_of h hp (by intro z; cases z))]; exact h, fun a o u h => by rw [upd_ne (ne_of h hp (by intro z; cases z))]; exact h, fun a o h => ?_, fun h q hq => ?_⟩
    · by_cases e : a = p
      · exact ⟨_, by rw [e]; exact upd_same⟩
      · exact ⟨o, by rw [upd_ne e]; exact h⟩
    · obtain ⟨i1, j1, k1, h1, h2, h3⟩ := h q hq
      refine ⟨i1, j1, k1, by rw [upd_ne (fun z => hR (by rw [← z]; exact hq))]; exact h1, ?_, h3⟩
      rcases r.scr q hq with hs | hs
      · have hne : R.scr ≠ p := fun z => hpP (by rw [← z]; exact hs)
        rcases h2 with (h2 | ⟨ob, h2⟩) | h2
        · exact .inl (.inl (by rw [upd_ne hne]; exact h2))
        · exact .inl (.inr ⟨ob, by rw [upd_ne hne]; exact h2⟩)
        · exact .inr h2
      · exact hs _
  refine ⟨⟨fun j => if j = i then p :: F' else Fs j, lp.row r.ri, fun a h => let ⟨o, e⟩ := r.live a h; lp.there a o e, r.scr, by rw [List.length_set]; exact r.len, fun j t h => ?_, fun j t h hf => ?_⟩, lp⟩
  · rcases get_set h with ⟨rfl, hl, rfl⟩ | ⟨hj, h⟩
    · rw [if_pos rfl]
      exact ⟨⟨_, hv, .lst upd_same (ra.mut (.inl ⟨_, hp⟩) (List.nodup_cons.mp nd).1)⟩, Away.cons (awi p hF) aw⟩
    · rw [if_neg hj]
      obtain ⟨⟨v, e1, rv⟩, awj⟩ := r.at_ j t h
      refine ⟨⟨v, e1, ?_⟩, awj⟩
      have np : p ∉ Fs j := g3 j t hj h p hF
      cases t with
      | mk fl x =>
        cases x with
        | d d => exact Rp.mut (.inl ⟨_, hp⟩) rv np
        | row => exact rv
        | lk kvs =>
          obtain ⟨d, o, ps, h1, h2, h3, h4, h5⟩ := rv
          exact ⟨d, o, ps, h1, h2, by rw [upd_ne (ne_of h3 hp (by intro z; cases z))]; exact h3, RpD.mut (.inl ⟨_, hp⟩) h4 np, h5⟩
  · have disp : ∀ (j : Nat) (t : Slot), j ≠ i → en[j]? = some (some t) → ∀ a ∈ p :: F', a ∉ Fs j := fun j t hj ht a ha => by
      rcases List.mem_cons.mp ha with rfl | ha
      · exact g3 j t hj ht a hF
      · exact dis j t hj ht a ha
    rcases get_set h with ⟨rfl, hl, rfl⟩ | ⟨hj, hjs⟩
    · rw [if_pos rfl]
      refine ⟨nd, fun a ha => ?_, fun k u hk hu => ?_⟩
      · rcases List.mem_cons.mp ha with rfl | ha
        · exact hpP
        · exact nP a ha
      · rw [if_neg hk]
        rcases get_set hu with ⟨z, _⟩ | ⟨_, hu⟩
        · exact absurd z hk
        · exact disp k u hk hu
    · obtain ⟨k1, k2, k3⟩ := r.own j t hjs hf
      rw [if_neg hj]
      refine ⟨k1, k2, fun k u hk hu => ?_⟩
      rcases get_set hu with ⟨ek, _⟩ | ⟨hki, hu⟩
      · rw [if_pos ek]
        exact fun a ha z => disp j t hj hjs a z ha
      · rw [if_neg hki]
        exact k3 k u hk hu
end
end G

set_option Elab.async false
set_option linter.all false
set_option maxRecDepth 100000
/-! G10: lists changed in place; while, for. -/
namespace G
open PySem PySem.Spec PyProof.Rows L2
section
variable {Y : Dyn} {R : Rw} {P P' : Addr → Prop} {H H1 H' : Hp} {uq : Bool} {Q : VK} {x y : W} {v : V} {F : List Addr} {c : Sc} {e e1 e2 e3 tg : Expr} {pos : Pos} {en : En} {σ : L2.St} {Fs : Nat → List Addr} {D : Ends} {o : Out}
/-- the list that slot i owns -/
theorem own_list (r : RelF Y R P H en σ Fs) {i : Nat} {ds : List PyData} (hi : en[i]? = some (some ⟨0, .d (.list ds)⟩)) :
    ∃ p vs F0, σ[i]? = some (some (.ref p)) ∧ H p = some (.lst vs) ∧ RpA Y.w Y.K H vs ds F0 ∧ Fs i = p :: F0 ∧ (p :: F0).Nodup ∧ (∀ a ∈ p :: F0, ¬ P a) ∧ Away R (p :: F0) ∧ ∀ (j : Nat) (t : Slot), j ≠ i → en[j]? = some (some t) → ∀ a ∈ p :: F0, a ∉ Fs j := by
  obtain ⟨⟨v, e1, rv⟩, aw⟩ := r.at_ i _ hi
  obtain ⟨g1, g2, g3⟩ := r.own i _ hi rfl
  cases hF : Fs i with
  | nil => rw [hF] at rv; cases rv
  | cons b bs =>
    rw [hF] at rv g1 g2 g3 aw
    cases rv with
    | lst h ra => exact ⟨b, _, bs, e1, h, ra, rfl, g1, g2, aw, g3⟩
def mApp (i : Nat) (m : En → T W) : En → T Out := fun en => match en[i]? with
  | some (some ⟨0, .d (.list ds)⟩) => T.must (Nat.ble ds.length 99999) ((m en).bind fun y => (dOf y).bind fun d => .ret (.nx (en.set i (some ⟨0, .d (.list (ds ++ [d]))⟩))))
  | _ => .fail
theorem dOf_wp {x : W} {K : PyData → Prop} (h : (dOf x).wp K) : ∃ d, x = .d d ∧ K d := by
  cases x with
  | d d => exact ⟨d, rfl, h⟩
  | row => exact h.elim
  | lk _ => exact h.elim
theorem ss_app {i : Nat} {nm : Str} {p apos cpos : Pos} {m : En → T W} (h : SE c e m true) (hn : notStar e = true) (hi : c.N[i]? = some nm) (hv : Vis c.sc nm) (hd : (nm == ("__debug__" : Str)) = false) (hcd : (nm == ("__classdict__" : Str)) = false) (hl : (apos.endLine == cpos.line) = true) :
    SS c (.Expr (.Call (.Attribute (.Name nm p) "append" apos) [e] [] cpos) pos) (mApp i m) := by
  intro Y X sx dy
  obtain ⟨t, pe, s⟩ := h Y X sx.sx dy
  refine ⟨_, ps_expr (pe_bm PySem.F.plainAttrs_list PySem.F.slot_list_append PySem.F.type_list_append mt_append (pe_var (by rw [sx.sx.N]; exact hi) (by rw [sx.sx.sc]; exact hv) hd hcd) (pa_cons pe pa_nil (star_eq hn)) rfl (by rw [star_eq hn]; rfl) hl (star_eq hn)), fun R P en σ H D ⟨Fs, rel⟩ k => ?_⟩
  unfold mApp at k
  split at k
  · rename_i ds hs
    obtain ⟨hb, k⟩ := T.wp_must k
    obtain ⟨p, vs, F0, hv, hp, ra, hF, nd, nP, aw, dis⟩ := own_list rel hs
    refine ⟨_, hv, .inl ⟨rfl, vs, SqL.of hp⟩, s R en σ H _ rel.toW ?_⟩
    refine T.wp_mono ((T.wp_bind _ _ _).mp k) fun y ky => ?_
    intro u H1 Fy l r awy uy
    obtain ⟨d, rfl, ky⟩ := dOf_wp ((T.wp_bind _ _ _).mp ky)
    obtain ⟨a1, a2⟩ := rel.apart (uy rfl).2
    have hp1 : H1 p = some (.lst vs) := lst_le l (aw p List.mem_cons_self).1 hp
    have ra1 := ra.le l rel.ri aw.tail
    have nF : ∀ a ∈ Fy, a ∉ p :: F0 := fun a ha z => a2 i _ hs a ha (by rw [hF]; exact z)
    obtain ⟨rel', lp⟩ := (rel.le l).mutL (vs' := vs ++ [u]) (ds' := ds ++ [d]) (F' := F0 ++ (Fy ++ [])) hs rfl hv hp1 (by rw [hF]; exact List.mem_cons_self) (ra1.app (.cons r .nil)) (aw.tail.app (awy.app Away.nil)) (by
        rw [List.append_nil]
        refine List.nodup_cons.mpr ⟨fun z => ?_, List.nodup_append.mpr ⟨(List.nodup_cons.mp nd).2, (uy rfl).1, fun a ha b hb e => nF b hb (by rw [← e]; exact List.mem_cons_of_mem _ ha)⟩⟩
        rcases List.mem_append.mp z with z | z
        · exact (List.nodup_cons.mp nd).1 z
        · exact nF p z List.mem_cons_self) (fun a ha => by
        rw [List.append_nil] at ha
        rcases List.mem_append.mp ha with ha | ha
        · exact nP a (List.mem_cons_of_mem _ ha)
        · exact a1 a ha) (fun j t hj ht a ha => by
        rw [List.append_nil] at ha
        rcases List.mem_append.mp ha with ha | ha
        · exact dis j t hj ht a (List.mem_cons_of_mem _ ha)
        · exact a2 j t ht a ha)
    have lp1 := LeP.trans (l.toP rel.ri) lp
    refine ⟨p, vs, u, rfl, rfl, hp1, by rw [ra.length]; exact lim_size' (by have := bleD hb; unfold lim; omega), ky _ _ lp1 rel'⟩
  · exact k.elim

theorem RpA.setAt {w : World} {K : PySem.W.Frag} {u : V} {d : PyData} {Fy : List Addr} (ru : Rp w K H u d Fy) : ∀ {vs : List V} {ds : List PyData} {F : List Addr} (j : Nat), RpA w K H vs ds F →
    ∃ F', RpA w K H (vs.set j u) (ds.set j d) F' ∧ (∀ a ∈ F', a ∈ F ∨ a ∈ Fy) ∧ (F.Nodup → Fy.Nodup → (∀ a ∈ Fy, a ∉ F) → F'.Nodup)
  | _, _, _, j, .nil => ⟨[], by rw [List.set_nil, List.set_nil]; exact .nil, (fun _ h => nomatch h), fun _ _ _ => List.nodup_nil⟩
  | _, _, _, 0, .cons (F := F1) (F' := F2) h r => by
    refine ⟨Fy ++ F2, .cons ru r, fun a ha => ?_, fun n1 n2 n3 => ?_⟩
    · rcases List.mem_append.mp ha with ha | ha
      · exact .inr ha
      · exact .inl (List.mem_append_right _ ha)
    · exact List.nodup_append.mpr ⟨n2, (List.nodup_append.mp n1).2.1, fun a ha b hb e => n3 a ha (by rw [e]; exact List.mem_append_right _ hb)⟩
  | _, _, _, j + 1, .cons (F := F1) (F' := F2) h r => by
    obtain ⟨F', h1, h2, h3⟩ := RpA.setAt ru j r
    refine ⟨F1 ++ F', .cons h h1, fun a ha => ?_, fun n1 n2 n3 => ?_⟩
    · rcases List.mem_append.mp ha with ha | ha
      · exact .inl (List.mem_append_left _ ha)
      · exact (h2 a ha).imp (List.mem_append_right _) id
    · obtain ⟨m1, m2, m3⟩ := List.nodup_append.mp n1
      refine List.nodup_append.mpr ⟨m1, h3 m2 n2 fun a ha z => n3 a ha (List.mem_append_right _ z), fun a ha b hb e => ?_⟩
      rcases h2 b hb with z | z
      · exact m3 a ha b z e
      · exact n3 b z (by rw [← e]; exact List.mem_append_left _ ha)
/-- name[k] = e -/
def mSub (i : Nat) (mk m : En → T W) : En → T Out := fun en => match en[i]? with
  | some (some ⟨0, .d (.list ds)⟩) => (m en).bind fun y => (dOf y).bind fun d => (mk en).bind fun z => match z with
    | .d (.int k) => match ixN ds.length k with
      | some j => .ret (.nx (en.set i (some ⟨0, .d (.list (ds.set j d))⟩)))
      | none => .fail
    | _ => .fail
  | _ => .fail
def notSlice : Expr → Bool
  | .Slice .. => false
  | _ => true
theorem plainIx_of (h : notSlice e = true) : PlainIx e := by
  intro o i
  cases e <;> first | rfl | cases h
theorem asub_of {b : Expr} {env : PySem.Env} (h : notSlice e = true) (v : Value) : assign (.Subscript b e pos) env v = (do
      let ov ← holding [v] (eval b env)
      let iv ← holding [v, ov] (eval e env)
      standAt pos
      holding [v, ov, iv] (setItem ov iv v)
      release [v, ov, iv] []) := by
  rw [arm_assign_Subscript]
  cases e <;> first | rfl | cases h
theorem aug_of (h : notSlice e = true) (ov iv new : Value) : augStore e ov iv new = (do holding [new, ov, iv] (setItem ov iv new); release [new, ov, iv] []; pure .next) := by
  cases e <;> first | rfl | cases h
theorem sub_give {i : Nat} {ds : List PyData} {d : PyData} {p : Addr} {vs : List V} {F0 Fy : List Addr} {u : V} {j : Nat} (rel : RelF Y R P H1 en σ Fs) (hs : en[i]? = some (some ⟨0, .d (.list ds)⟩)) (hv : σ[i]? = some (some (.ref p))) (hF : Fs i = p :: F0) (nd : (p :: F0).Nodup) (nP : ∀ a ∈ p :: F0, ¬ P a) (aw : Away R (p :: F0))
    (dis : ∀ (j : Nat) (t : Slot), j ≠ i → en[j]? = some (some t) → ∀ a ∈ p :: F0, a ∉ Fs j) (hp : H1 p = some (.lst vs)) (ra : RpA Y.w Y.K H1 vs ds F0) (r : Rp Y.w Y.K H1 u d Fy) (awy : Away R Fy) (ndy : Fy.Nodup) (a1 : ∀ a ∈ Fy, ¬ P a) (a2 : ∀ (j : Nat) (t : Slot), en[j]? = some (some t) → ∀ a ∈ Fy, a ∉ Fs j) :
    RelS Y R P (upd H1 p (.lst (vs.set j u))) (en.set i (some ⟨0, .d (.list (ds.set j d))⟩)) σ ∧ LeP R Y.K P H1 (upd H1 p (.lst (vs.set j u))) := by
  have nF : ∀ a ∈ Fy, a ∉ p :: F0 := fun a ha z => a2 i _ hs a ha (by rw [hF]; exact z)
  obtain ⟨F', h1, h2, h3⟩ := RpA.setAt r j ra
  have m2 : ∀ a ∈ F', a ∈ p :: F0 ∨ a ∈ Fy := fun a ha => (h2 a ha).imp (List.mem_cons_of_mem _) id
  refine rel.mutL hs rfl hv hp (by rw [hF]; exact List.mem_cons_self) h1 (fun a ha => (m2 a ha).elim (aw a) (awy a)) (List.nodup_cons.mpr ⟨fun z => ?_, h3 (List.nodup_cons.mp nd).2 ndy fun a ha z => nF a ha (List.mem_cons_of_mem _ z)⟩) (fun a ha => (m2 a ha).elim (nP a) (a1 a)) fun j t hj ht a ha => (m2 a ha).elim (dis j t hj ht a) (a2 j t ht a)
  rcases h2 p z with z | z
  · exact (List.nodup_cons.mp nd).1 z
  · exact nF p z List.mem_cons_self
theorem ss_sub {i : Nat} {nm : Str} {p pt : Pos} {m mk : En → T W} {u1 : Bool} (h : SE c e m true) (hk : SE c e1 mk u1) (hi : c.N[i]? = some nm) (hv : Vis c.sc nm) (hd : (nm == ("__debug__" : Str)) = false) (hcd : (nm == ("__classdict__" : Str)) = false)
    (hns : notSlice e1 = true) (hsw : ∀ env : PySem.Env, swapsWithSole [.Subscript (.Name nm p) e1 pt] e pos.line env = pure false) (hst : ∀ env : PySem.Env, swappedStores [.Subscript (.Name nm p) e1 pt] e env = pure none) :
    SS c (.Assign [.Subscript (.Name nm p) e1 pt] e pos) (mSub i mk m) := by
  intro Y X sx dy
  obtain ⟨t, pe, s⟩ := h Y X sx.sx dy
  obtain ⟨tk, pk, sk⟩ := hk Y X sx.sx dy
  refine ⟨_, ps_asg pe (pg_sub (pe_var (by rw [sx.sx.N]; exact hi) (by rw [sx.sx.sc]; exact hv) hd hcd) pk set_list (asub_of hns)) (hsw X.env) (hst X.env), fun R P en σ H D ⟨Fs, rel⟩ k => ?_⟩
  unfold mSub at k
  split at k
  · rename_i ds hs
    obtain ⟨p, vs, F0, hv, hp, ra, hF, nd, nP, aw, dis⟩ := own_list rel hs
    refine s R en σ H _ rel.toW ?_
    refine T.wp_mono ((T.wp_bind _ _ _).mp k) fun y ky => ?_
    intro u H1 Fy l r awy uy
    obtain ⟨d, rfl, ky⟩ := dOf_wp ((T.wp_bind _ _ _).mp ky)
    have rel1 := rel.le l
    refine ⟨_, hv, sk R en σ H1 _ rel1.toW ?_⟩
    refine T.wp_mono ((T.wp_bind _ _ _).mp ky) fun z kz => ?_
    intro w H2 Fz l2 rz _ _
    split at kz
    · split at kz
      · rename_i kk j hj
        cases rz
        have l12 := l.trans l2
        have hp2 : H2 p = some (.lst vs) := lst_le l12 (aw p List.mem_cons_self).1 hp
        have ra2 := ra.le l12 rel.ri aw.tail
        obtain ⟨a1, a2⟩ := rel.apart (uy rfl).2
        obtain ⟨rel', lp⟩ := sub_give (j := j) (rel.le l12) hs hv hF nd nP aw dis hp2 ra2 (Rp.le l2 rel1.ri r awy) awy (uy rfl).1 a1 a2
        exact ⟨p, vs, _, j, rfl, rfl, hp2, by rw [ra.length]; exact hj, kz _ _ (LeP.trans (l12.toP rel.ri) lp) rel'⟩
      · exact kz.elim
    · exact kz.elim
  · exact k.elim
/-- name[k] op= e, over ints -/
def mAugS (f : Int → Int → Int) (i : Nat) (mk m : En → T W) : En → T Out := fun en => match en[i]? with
  | some (some ⟨0, .d (.list ds)⟩) => (mk en).bind fun z => match z with
    | .d (.int k) => match ixN ds.length k with
      | some j => match ds[j]? with
        | some (.int a) => (m en).bind fun y => match y with
          | .d (.int b) => .ret (.nx (en.set i (some ⟨0, .d (.list (ds.set j (.int (f a b))))⟩)))
          | _ => .fail
        | _ => .fail
      | none => .fail
    | _ => .fail
  | _ => .fail
def rGetL (K : PySem.W.Frag) : V → V → Hp → VK → Prop := fun o i H Q => ∃ p xs k j u, o = .ref p ∧ i = .int k ∧ H p = some (.lst xs) ∧ ixN xs.length k = some j ∧ xs[j]? = some u ∧ Q u H
theorem get_list {X : Cx} : PGet X (rGetL X.K) := by
  intro pins s σ H o i ov iv Q I ro ri h
  obtain ⟨p, xs, k, j, u, rfl, rfl, hp, hj, hu, q⟩ := h
  cases ro
  obtain ⟨t, rfl⟩ := ri
  obtain ⟨us, rv, pl, hz⟩ := I.list (SqL.of hp)
  obtain ⟨w, hw, rw'⟩ := rv.get hu
  have hl := rv.length
  have hn := line63
  have fin : EP X pins σ Q w s := ⟨u, H, I, rw', q⟩
  obtain ⟨h1, h2, h3, h4⟩ := ixN_seq hj
  by_cases h0 : 0 ≤ k
  · have hj : k.toNat = j := by
      rw [seqIndex_of h0 h4] at h1
      exact Option.some.inj h1
    exact wpAny_getItem_list pl.isList h0 (by omega) (by rw [hj]; simpa using hw) fin
  · have hj : (k + (us.toArray.size : Int)).toNat = j := by
      rw [seqIndex_neg (by omega) h3] at h1
      rw [List.size_toArray, ← hl]
      exact Option.some.inj h1
    exact wpAny_getItem_list_neg pl.isList (by omega) (by rw [List.size_toArray] <;> omega) (by omega) (by rw [hj]; simpa using hw) fin
theorem ss_augS {i : Nat} {nm : Str} {p pt : Pos} {m mk : En → T W} {u1 u2 : Bool} {op : Operator} {f : Int → Int → Int} (hop : ∀ X, PIp X op (ipI f)) (h : SE c e m u2) (hk : SE c e1 mk u1) (hi : c.N[i]? = some nm) (hv : Vis c.sc nm) (hd : (nm == ("__debug__" : Str)) = false) (hcd : (nm == ("__classdict__" : Str)) = false)
    (hns : notSlice e1 = true) : SS c (.AugAssign (.Subscript (.Name nm p) e1 pt) op e pos) (mAugS f i mk m) := by
  intro Y X sx dy
  obtain ⟨t, pe, s⟩ := h Y X sx.sx dy
  obtain ⟨tk, pk, sk⟩ := hk Y X sx.sx dy
  refine ⟨_, ps_augS (pe_var (by rw [sx.sx.N]; exact hi) (by rw [sx.sx.sc]; exact hv) hd hcd) pk get_list pe (hop X) set_list (aug_of hns), fun R P en σ H D ⟨Fs, rel⟩ k => ?_⟩
  unfold mAugS at k
  split at k
  · rename_i ds hs
    obtain ⟨p, vs, F0, hv, hp, ra, hF, nd, nP, aw, dis⟩ := own_list rel hs
    refine ⟨_, hv, sk R en σ H _ rel.toW ?_⟩
    refine T.wp_mono ((T.wp_bind _ _ _).mp k) fun z kz => ?_
    intro w H1 Fz l rz _ _
    split at kz
    · split at kz
      · rename_i kk j hj
        split at kz
        · rename_i a ha
          cases rz
          have hp1 : H1 p = some (.lst vs) := lst_le l (aw p List.mem_cons_self).1 hp
          have ra1 := ra.le l rel.ri aw.tail
          obtain ⟨va, Fa, hva, rva, _⟩ := ra1.get ha
          cases rva
          refine ⟨p, vs, _, j, _, rfl, rfl, hp1, by rw [ra.length]; exact hj, hva, s R en σ H1 _ (rel.le l).toW ?_⟩
          refine T.wp_mono ((T.wp_bind _ _ _).mp kz) fun y ky => ?_
          intro u H2 Fy l2 r _ _
          split at ky
          · cases r
            have l12 := l.trans l2
            have hp2 : H2 p = some (.lst vs) := lst_le l12 (aw p List.mem_cons_self).1 hp
            have ra2 := ra.le l12 rel.ri aw.tail
            obtain ⟨rel', lp⟩ := sub_give (j := j) (Fy := []) (rel.le l12) hs hv hF nd nP aw dis hp2 ra2 (.int _) Away.nil List.nodup_nil (fun _ h => nomatch h) fun _ _ _ _ h => nomatch h
            exact ⟨_, _, rfl, rfl, p, vs, _, j, rfl, rfl, hp2, by rw [ra.length]; exact hj, ky _ _ (LeP.trans (l12.toP rel.ri) lp) rel'⟩
          · exact ky.elim
        · exact kz.elim
      · exact kz.elim
    · exact kz.elim
  · exact k.elim

/-! ### while -/
def wLoop (mt : En → T Bool) (mb : En → T Out) : Nat → En → T Out
  | 0, _ => .fail
  | n + 1, en => (mt en).bind fun b => match b with
    | false => .ret (.nx en)
    | true => (mb en).bind fun o => match o with
      | .nx en' => wLoop mt mb n en'
      | .ct en' => wLoop mt mb n en'
      | .bk en' => .ret (.nx en')
      | .rt x => .ret (.rt x)
theorem ss_while {b : List Stmt} {mt : En → T Bool} {mb : En → T Out} (fuel : Nat) (ht : ST c e mt) (hb : SSs c b mb) : SS c (.While e b [] pos) (wLoop mt mb fuel) := by
  intro Y X sx dy
  obtain ⟨tt, pt, st⟩ := ht Y X sx.sx dy
  obtain ⟨t, p, s⟩ := hb Y X sx dy
  refine ⟨_, ps_while (by rw [sx.xe]; exact PassesOwn.never) pt p, fun R P en σ H0 D rel0 k0 => ?_⟩
  refine ⟨fun n σ H => ∃ en, RelS Y R P H en σ ∧ LeP R Y.K P H0 H ∧ (wLoop mt mb n en).wp (KO Y R P H0 D), ⟨fuel, en, rel0, LeP.refl, k0⟩, ?_⟩
  rintro n σ H ⟨en, ⟨Fs, rel⟩, l0, k⟩
  cases n with
  | zero => exact k.elim
  | succ n =>
    refine st R en σ H _ rel.toW ?_
    refine T.wp_mono ((T.wp_bind _ _ _).mp k) fun b kb => ?_
    intro H1 l
    have lp : LeP R Y.K P H H1 := l.toP rel.ri
    cases b with
    | false =>
      rw [if_neg (by decide)]
      exact kb σ H1 (l0.trans lp) ⟨Fs, rel.le l⟩
    | true =>
      rw [if_pos rfl]
      refine ⟨fun σ H => ∃ en, RelS Y R P H en σ ∧ LeP R Y.K P H0 H ∧ (wLoop mt mb n en).wp (KO Y R P H0 D), fun σ' H' h => ⟨n, Nat.lt_succ_self n, h⟩, ?_⟩
      refine s R P en σ H1 _ ⟨Fs, rel.le l⟩ ?_
      refine T.wp_mono ((T.wp_bind _ _ _).mp kb) fun o ko => ?_
      have l1 := l0.trans lp
      cases o with
      | nx en' => exact fun σ' H' l' r' => ⟨en', r', l1.trans l', ko⟩
      | ct en' => exact fun σ' H' l' r' => ⟨en', r', l1.trans l', ko⟩
      | bk en' => exact fun σ' H' l' r' => ko σ' H' (l1.trans l') r'
      | rt x => exact fun v H' F l' r' => ko v H' F (l1.trans l') r'

/-! ### for -/
def isOwn (s : Slot) : Bool := Nat.beq s.fl 0
def visO (ns : List Nat) (i : Nat) : Option Slot → Option Slot
  | some s => match isOwn s && !(ns.any (Nat.beq i)) with
    | true => none
    | false => some s
  | none => none
/-- the slots that it owns but those of ns: unseen -/
def visE (ns : List Nat) : Nat → En → En
  | _, [] => []
  | i, o :: en => visO ns i o :: visE ns (i + 1) en
def demO (ns : List Nat) (i : Nat) : Option Slot → Option Slot
  | some s => match ns.any (Nat.beq i) with
    | true => some ⟨1, s.w⟩
    | false => some s
  | none => none
/-- the slots of ns: no more its own -/
def demE (ns : List Nat) : Nat → En → En
  | _, [] => []
  | i, o :: en => demO ns i o :: demE ns (i + 1) en
theorem visE_len {ns : List Nat} : ∀ {en : En} {i : Nat}, (visE ns i en).length = en.length
  | [], _ => rfl
  | _ :: en, i => by unfold visE; rw [List.length_cons, List.length_cons, visE_len]
theorem demE_len {ns : List Nat} : ∀ {en : En} {i : Nat}, (demE ns i en).length = en.length
  | [], _ => rfl
  | _ :: en, i => by unfold demE; rw [List.length_cons, List.length_cons, demE_len]
theorem any_mem {ns : List Nat} {i : Nat} : ns.any (Nat.beq i) = true ↔ i ∈ ns := by
  rw [List.any_eq_true]
  constructor
  · rintro ⟨j, hj, e⟩
    rw [Nat.eq_of_beq_eq_true e]; exact hj
  · exact fun h => ⟨i, h, Nat.beq_refl i⟩
theorem visO_get {ns : List Nat} {o : Option Slot} {i : Nat} {s : Slot} (h : visO ns i o = some s) : o = some s ∧ (s.fl = 0 → i ∈ ns) := by
  unfold visO at h
  split at h
  · split at h
    · cases h
    · rename_i hb
      cases h
      refine ⟨rfl, fun h0 => any_mem.mp ?_⟩
      unfold isOwn at hb
      rw [h0] at hb
      cases hq : ns.any (Nat.beq i) with
      | true => rfl
      | false => rw [hq] at hb; cases hb
  · cases h
theorem demO_get {ns : List Nat} {o : Option Slot} {i : Nat} {s : Slot} (h : demO ns i o = some s) : ∃ t, o = some t ∧ s.w = t.w ∧ (s.fl = 0 → t.fl = 0 ∧ i ∉ ns) := by
  unfold demO at h
  split at h
  · rename_i u
    split at h
    · cases h
      exact ⟨u, rfl, rfl, fun z => nomatch z⟩
    · rename_i hb
      cases h
      refine ⟨_, rfl, rfl, fun h0 => ⟨h0, fun z => ?_⟩⟩
      rw [any_mem.mpr z] at hb
      cases hb
  · cases h
theorem visE_get {ns : List Nat} : ∀ {en : En} {i j : Nat} {s : Slot}, (visE ns i en)[j]? = some (some s) → en[j]? = some (some s) ∧ (s.fl = 0 → i + j ∈ ns)
  | [], _, _, _, h => by cases h
  | o :: en, i, 0, s, h => by
    obtain ⟨rfl, h2⟩ := visO_get (show visO ns i o = some s from Option.some.inj h)
    exact ⟨rfl, h2⟩
  | o :: en, i, j + 1, s, h => by
    obtain ⟨h1, h2⟩ := visE_get (en := en) (i := i + 1) (j := j) (s := s) h
    exact ⟨h1, fun h0 => by have := h2 h0; rw [show i + (j + 1) = i + 1 + j by omega]; exact this⟩
theorem demE_get {ns : List Nat} : ∀ {en : En} {i j : Nat} {s : Slot}, (demE ns i en)[j]? = some (some s) → ∃ t, en[j]? = some (some t) ∧ s.w = t.w ∧ (s.fl = 0 → t.fl = 0 ∧ i + j ∉ ns)
  | [], _, _, _, h => by cases h
  | o :: en, i, 0, s, h => by
    obtain ⟨t, rfl, h2, h3⟩ := demO_get (show demO ns i o = some s from Option.some.inj h)
    exact ⟨t, rfl, h2, h3⟩
  | o :: en, i, j + 1, s, h => by
    obtain ⟨t, h1, h2, h3⟩ := demE_get (en := en) (i := i + 1) (j := j) (s := s) h
    exact ⟨t, h1, h2, fun h0 => by rw [show i + (j + 1) = i + 1 + j by omega]; exact h3 h0⟩
/-- what is hidden: what the unseen slots own -/
def hidP (ns : List Nat) (en : En) (Fs : Nat → List Addr) : Addr → Prop := fun a => ∃ i s, en[i]? = some (some s) ∧ s.fl = 0 ∧ i ∉ ns ∧ a ∈ Fs i
theorem RelF.vis (r : RelF Y R P H en σ Fs) (ns : List Nat) : RelW Y (R.hide (hidP ns en Fs)) H (visE ns 0 en) σ := by
  refine ⟨⟨r.ri.row, fun a ha => ?_⟩, by rw [visE_len]; exact r.len, fun i s h => ?_⟩
  · rcases ha with ha | ⟨i, s, h1, h2, h3, h4⟩
    · exact r.ri.hid a ha
    · exact r.tracked h1 a h4
  · obtain ⟨h1, h2⟩ := visE_get h
    obtain ⟨⟨v, e1, rv⟩, aw⟩ := r.at_ i s h1
    refine ⟨v, Fs i, e1, rv.hide, fun a ha => ⟨(aw a ha).1, fun z => ?_⟩⟩
    rcases z with z | ⟨j, t, g1, g2, g3, g4⟩
    · exact (aw a ha).2 z
    · obtain ⟨_, _, k3⟩ := r.own j t g1 g2
      by_cases e : i = j
      · subst e
        rw [g1] at h1
        cases h1
        exact g3 (by have := h2 g2; rwa [Nat.zero_add] at this)
      · exact k3 i s e h1 a g4 ha
theorem RelF.dem (r : RelF Y R P H en σ Fs) (ns : List Nat) : RelF Y R P H (demE ns 0 en) σ Fs := by
  refine ⟨r.ri, r.live, r.scr, by rw [demE_len]; exact r.len, fun i s h => ?_, fun i s h hf => ?_⟩
  · obtain ⟨t, h1, h2, h3⟩ := demE_get h
    rw [h2]
    exact r.at_ i t h1
  · obtain ⟨t, h1, h2, h3⟩ := demE_get h
    obtain ⟨g1, g2, g3⟩ := r.own i t h1 (h3 hf).1
    exact ⟨g1, g2, fun j u hj hu => let ⟨q, q1, _⟩ := demE_get hu; g3 j q hj q1⟩
/-- P and F are kept, for what is not demoted is apart from F -/
theorem RelF.guard (r : RelF Y R P H en σ Fs) (ns : List Nat) (aw : Away (R.hide (hidP ns en Fs)) F) (tr : ∀ a ∈ F, ∃ o, H a = some o) : RelF Y R (fun a => P a ∨ a ∈ F) H (demE ns 0 en) σ Fs := by
  have d := r.dem ns
  refine ⟨d.ri, fun a ha => ha.elim (r.live a) (tr a), fun q hq => (r.scr q hq).imp .inl id, d.len, d.at_, fun i s h hf => ?_⟩
  obtain ⟨g1, g2, g3⟩ := d.own i s h hf
  refine ⟨g1, fun a ha z => z.elim (g2 a ha) fun z => ?_, g3⟩
  obtain ⟨t, h1, _, h3⟩ := demE_get h
  refine (aw a z).2 (.inr ⟨i, t, h1, (h3 hf).1, ?_, ha⟩)
  have := (h3 hf).2
  rwa [Nat.zero_add] at this
theorem RelF.sets (aw : Away R F) : ∀ {bs : List (Nat × W)} {ps : List (Nat × V)} {en : En} {σ : L2.St} {Fs : Nat → List Addr}, BRel Y R H F ps bs → (∀ a ∈ F, P a) → RelF Y R P H en σ Fs → RelS Y R P H (setsE en bs) (setsV σ ps)
  | _, _, _, _, Fs, .nil, _, r => ⟨Fs, r⟩
  | _, _, en, σ, Fs, .cons h1 h2 b, hP, r => RelF.sets aw (en := en.set _ _) (σ := σ.set _ _) b hP (r.set h1 (away_sub aw h2) (fun z => nomatch z) fun j t _ ht hf a ha z => (r.own j t ht hf).2.1 a ha (hP a (h2 a z)))
def fLoop (g : W → T (List (Nat × W))) (mb : En → T Out) : List W → En → T Out
  | [], en => .ret (.nx en)
  | x :: xs, en => (g x).bind fun bs => (mb (setsE en bs)).bind fun o => match o with
    | .nx en' => fLoop g mb xs en'
    | .ct en' => fLoop g mb xs en'
    | .bk en' => .ret (.nx en')
    | .rt x => .ret (.rt x)
def mFor (ns : List Nat) (mi : En → T (List W)) (g : W → T (List (Nat × W))) (mb : En → T Out) : En → T Out := fun en => (mi (visE ns 0 en)).bind fun xs => fLoop g mb xs (demE ns 0 en)
theorem KO.weaken (hP : ∀ a, P a → P' a) (hs : ∀ r, R.row = some r → P R.scr ∨ ∀ H, SqL Y.K H R.scr (R.xs.map V.int)) {D : Ends} (k : KO Y R P H D o) : KO Y R P' H D o := by
  have rs : ∀ {en' : En} {σ' : L2.St} {H' : Hp}, RelS Y R P' H' en' σ' → RelS Y R P H' en' σ' := fun ⟨Fs, r⟩ => ⟨Fs, ⟨r.ri, fun a ha => r.live a (hP a ha), hs, r.len, r.at_, fun i s e f => let ⟨h1, h2, h3⟩ := r.own i s e f; ⟨h1, fun a ha z => h2 a ha (hP a z), h3⟩⟩⟩
  cases o with
  | nx en' => exact fun σ' H' l r => k σ' H' (l.mono hP) (rs r)
  | bk en' => exact fun σ' H' l r => k σ' H' (l.mono hP) (rs r)
  | ct en' => exact fun σ' H' l r => k σ' H' (l.mono hP) (rs r)
  | rt x => exact fun v H' F l r aw nd nP => k v H' F (l.mono hP) r aw nd fun a ha z => nP a ha (hP a z)
theorem ss_for {b : List Stmt} {mi : En → T (List W)} {g : W → T (List (Nat × W))} {mb : En → T Out} (ns : List Nat) (hi : SI c tg e mi) (hg : SG c tg g) (hb : SSs c b mb) (hs : ∀ env x, foldedSetIterable e env x = pure x) : SS c (.For tg e b [] pos) (mFor ns mi g mb) := by
  intro Y X sx dy
  obtain ⟨wi, pi, si⟩ := hi Y X sx.sx dy
  obtain ⟨tg', pg, sg⟩ := hg Y X sx.sx
  obtain ⟨t, p, s⟩ := hb Y X sx dy
  refine ⟨_, ps_for (by rw [sx.xe]; exact PassesOwn.never) sx.sx.calm pi pg p (hs X.env), fun R P en0 σ0 H0 D ⟨Fs, rel0⟩ k0 => ?_⟩
  refine si (R.hide (hidP ns en0 Fs)) _ σ0 H0 _ (rel0.vis ns) ?_
  refine T.wp_mono ((T.wp_bind _ _ _).mp k0) fun xs kx => ?_
  intro J H1 F l0 it
  have l0 : Le R Y.K H0 H1 := l0.unhide
  have rel1 := (rel0.le l0).guard ns it.aw it.tr
  have kx1 : (fLoop g mb xs (demE ns 0 en0)).wp (KO Y R (fun a => P a ∨ a ∈ F) H1 D) := T.wp_mono kx fun o k => KO.weaken (fun a => .inl) rel0.scr (k.back (l0.toP rel0.ri))
  refine ⟨fun i m σ H => m = xs.length - i ∧ ∃ en, RelS Y R (fun a => P a ∨ a ∈ F) H en σ ∧ LeP R Y.K (fun a => P a ∨ a ∈ F) H1 H ∧ (fLoop g mb (xs.drop i) en).wp (KO Y R (fun a => P a ∨ a ∈ F) H1 D), ⟨xs.length, by omega, _, ⟨Fs, rel1⟩, LeP.refl, kx1⟩, ?_⟩
  rintro i m σ H ⟨rfl, en, ⟨Gs, rel⟩, l, kk⟩
  have lF : LeP (R.hide (hidP ns en0 Fs)) Y.K (· ∈ F) H1 H := (l.mono fun a h => .inr h).hide
  cases hx : xs[i]? with
  | none =>
    have hn : xs.drop i = [] := List.drop_eq_nil_of_le (List.getElem?_eq_none_iff.mp hx)
    rw [hn] at kk
    exact .inl ⟨it.stop i H hx lF, kk σ H l ⟨Gs, rel⟩⟩
  | some x =>
    have hi : i < xs.length := (List.getElem?_eq_some_iff.mp hx).1
    rw [drop_get hx] at kk
    obtain ⟨go, yd⟩ := it.go i x H hx lF
    refine .inr ⟨go, fun σ H => ∃ en, RelS Y R (fun a => P a ∨ a ∈ F) H en σ ∧ LeP R Y.K (fun a => P a ∨ a ∈ F) H1 H ∧ (fLoop g mb (xs.drop (i + 1)) en).wp (KO Y R (fun a => P a ∨ a ∈ F) H1 D), fun σ' H' h => ⟨xs.length - (i + 1), by omega, rfl, h⟩, fun v H2 y => ?_⟩
    obtain ⟨l2, Fi, rv, hFi⟩ := yd v H2 y
    have l2 : Le R Y.K H H2 := l2.unhide
    refine sg R v x Fi σ H2 _ rv.unhide ?_
    refine T.wp_mono ((T.wp_bind _ _ _).mp kk) fun bs kb => ?_
    intro ps hps
    have awF : Away R Fi := fun a ha => ⟨(it.aw a (hFi a ha)).1, fun z => (it.aw a (hFi a ha)).2 (.inl z)⟩
    refine s R _ (setsE en bs) _ H2 _ (RelF.sets awF hps (fun a ha => .inr (hFi a ha)) (rel.le l2)) ?_
    refine T.wp_mono ((T.wp_bind _ _ _).mp kb) fun o ko => ?_
    have l12 := l.trans (l2.toP rel.ri)
    cases o with
    | nx en' => exact fun σ' H' l' r' => ⟨en', r', l12.trans l', ko⟩
    | ct en' => exact fun σ' H' l' r' => ⟨en', r', l12.trans l', ko⟩
    | bk en' => exact fun σ' H' l' r' => ko σ' H' (l12.trans l') r'
    | rt x => exact fun v H' F l' r' => ko v H' F (l12.trans l') r'
/-- name = e, whatever e gives: what it may share is shared -/
def mSetS (ns : List Nat) (i : Nat) (m : En → T W) : En → T Out := fun en => (m (visE ns 0 en)).bind fun x => match x.imm with
  | true => .ret (.nx (en.set i (some ⟨0, x⟩)))
  | false => .ret (.nx ((demE ns 0 en).set i (some ⟨1, x⟩)))
theorem ss_setS {i : Nat} {nm : Str} {p : Pos} {m : En → T W} (ns : List Nat) (h : SE c e m uq) (hi : c.N[i]? = some nm) (hl : locB c.sc nm = true) (ho : nm ∈ c.own)
    (hs : ∀ env : PySem.Env, env.scope = c.sc → swapsWith e (some (.Name nm p)) pos.line env = pure false) : SS c (.Assign [.Name nm p] e pos) (mSetS ns i m) := by
  intro Y X sx dy
  obtain ⟨t, pe, s⟩ := h Y X sx.sx dy
  refine ⟨_, ps_set (by rw [sx.sx.N]; exact sx.sx.nd) (by rw [sx.sx.N]; exact hi) (by rw [sx.sx.sc]; exact loc_of hl) pe (hs X.env sx.sx.sc) (sx.sx.fn nm ho), fun R P en σ H D ⟨Fs, rel⟩ k => s _ _ σ H _ (rel.vis ns) ?_⟩
  refine T.wp_mono ((T.wp_bind _ _ _).mp k) fun x kx => ?_
  intro v H1 F l r aw _
  have l : Le R Y.K H H1 := l.unhide
  have r := r.unhide
  have aw0 : Away R F := fun a ha => ⟨(aw a ha).1, fun z => (aw a ha).2 (.inl z)⟩
  split at kx
  · rename_i him
    have e := r.imm him
    subst e
    exact kx _ H1 (l.toP rel.ri) ⟨_, (rel.le l).set r Away.nil (fun _ => ⟨List.nodup_nil, (fun _ h => nomatch h), fun _ _ _ _ _ h => nomatch h⟩) fun _ _ _ _ _ _ _ z => nomatch z⟩
  · refine kx _ H1 (l.toP rel.ri) ⟨_, ((rel.le l).dem ns).set r aw0 (fun z => nomatch z) fun j t _ ht hf a ha z => ?_⟩
    obtain ⟨q, q1, _, q3⟩ := demE_get ht
    refine (aw a z).2 (.inr ⟨j, q, q1, (q3 hf).1, ?_, ha⟩)
    have := (q3 hf).2
    rwa [Nat.zero_add] at this
end
end G

set_option Elab.async false
set_option linter.all false
set_option maxRecDepth 100000
/-! G11: a def keeps its promise. -/
namespace G
open PySem PySem.Spec PyProof.Rows L2
section
variable {Y : Dyn} {R : Rw} {P P' : Addr → Prop} {H H1 H' : Hp} {Q : VK} {x y : W} {v : V} {F : List Addr} {c : Sc}
theorem LeP.toLe (l : LeP R Y.K (fun a => ∃ o, H a = some o) H H') : Le R Y.K H H' := ⟨fun a o hr h => l.keep a o ⟨o, h⟩ hr h, l.there, l.rowR⟩
def enOf (n : Nat) (xs : List W) : En := xs.map (fun x => some ⟨1, x⟩) ++ List.replicate (n - xs.length) none
def fnV (n : Nat) (m : En → T Out) (xs : List W) : T W := (m (enOf n xs)).bind fun o => match o with
  | .rt x => .ret x
  | .nx _ => .ret (.d .none)
  | _ => .fail
theorem RpWs.each : ∀ {xs : List W} {vs : List V} {F : List Addr}, RpWs Y R H vs xs F → ∃ Fs : Nat → List Addr, ∀ i x, xs[i]? = some x → ∃ v, vs[i]? = some v ∧ RpW Y R H v x (Fs i) ∧ ∀ a ∈ Fs i, a ∈ F
  | [], [], _, _ => ⟨fun _ => [], fun i x h => by cases h⟩
  | [], _ :: _, _, h => (show False from h).elim
  | _ :: _, [], _, h => (show False from h).elim
  | x :: xs, v :: vs, _, ⟨F1, F2, e, h, r⟩ => by
    obtain ⟨Fs, hFs⟩ := RpWs.each r
    subst e
    refine ⟨fun i => match i with
      | 0 => F1
      | i + 1 => Fs i, fun i y hy => ?_⟩
    cases i with
    | zero =>
      cases hy
      exact ⟨v, rfl, h, fun a ha => List.mem_append_left _ ha⟩
    | succ i =>
      obtain ⟨u, h1, h2, h3⟩ := hFs i y hy
      exact ⟨u, h1, h2, fun a ha => List.mem_append_right _ (h3 a ha)⟩
theorem enOf_get {n : Nat} {xs : List W} {i : Nat} {s : Slot} (h : (enOf n xs)[i]? = some (some s)) : ∃ x, xs[i]? = some x ∧ s = ⟨1, x⟩ := by
  unfold enOf at h
  rcases Nat.lt_or_ge i xs.length with hi | hi
  · rw [List.getElem?_append_left (by rw [List.length_map]; exact hi), List.getElem?_map] at h
    obtain ⟨x, h1, h2⟩ := Option.map_eq_some_iff.mp h
    cases h2
    exact ⟨x, h1, rfl⟩
  · rw [List.getElem?_append_right (by rw [List.length_map]; exact hi)] at h
    have := List.mem_of_getElem? h
    have := (List.mem_replicate.mp this).2
    cases this
theorem rel_start {N : List Str} {xs : List W} {vs : List V} (ri : RowI R Y.K H) (r : RpWs Y R H vs xs F) (aw : Away R F) (hN : xs.length ≤ N.length) : RelS Y R (fun a => ∃ o, H a = some o) H (enOf N.length xs) (L2.start N vs) := by
  obtain ⟨Fs, hFs⟩ := r.each
  have hl := r.length
  refine ⟨Fs, ri, fun a h => h, fun q hq => ?_, ?_, fun i s h => ?_, fun i s h hf => ?_⟩
  · obtain ⟨_, _, _, _, g, _⟩ := ri.row q hq
    rcases g with (g | ⟨o, g⟩) | g
    · exact .inl ⟨_, g⟩
    · exact .inl ⟨_, g⟩
    · exact .inr fun _ => .inr g
  · unfold enOf L2.start
    rw [List.length_append, List.length_append, List.length_map, List.length_map, List.length_replicate, List.length_replicate, hl]
  · obtain ⟨x, hx, rfl⟩ := enOf_get h
    obtain ⟨v, h1, h2, h3⟩ := hFs i x hx
    refine ⟨⟨v, ?_, h2⟩, away_sub aw h3⟩
    unfold L2.start
    have hi : i < vs.length := (List.getElem?_eq_some_iff.mp h1).1
    rw [List.getElem?_append_left (by rw [List.length_map]; exact hi), List.getElem?_map, h1]
    rfl
  · obtain ⟨x, hx, rfl⟩ := enOf_get h
    cases hf
theorem fn_is {name qual : Str} {params : Arguments} {body : List Stmt} {scope : Scope} {f : Addr} {fd : FuncData} {m : En → T Out} {ps : List Str} (hsc : c.sc = scope)
    (FD : FunD Y.K name qual params body scope [] [] f fd) (hmg : Y.mg name = some (.ref f)) (S : FnScope c.N ps scope) (hb : Binds Y.K fd ps []) (dy : DynOk c Y) (hm : SSs c body m) (hps : ps.length ≤ c.N.length) : FnIs Y ⟨name, ps, c.lv + 1, fnV c.N.length m⟩ := by
  refine ⟨f, fd, hmg, FD.kp, hb, FD.ok S (fun vs H Q E h => h.1) fun cdv A outer s H vs Q E hr h => ?_⟩
  obtain ⟨hl, R, xs, F, ri, rv, aw, k⟩ := h
  have SX : SSx c Y (cxOf CX0 Y.P Y.w Y.K Y.mg Y.base c.N qual scope f cdv A outer s H E).nox := ⟨⟨rfl, rfl, rfl, rfl, rfl, rfl, hsc.symm, rfl, hr, S.nd, fun _ _ => .inl rfl⟩, rfl⟩
  obtain ⟨t, p, s'⟩ := hm Y _ SX dy
  refine ⟨t, PSs.nox p, s' R _ (enOf c.N.length xs) (L2.start c.N vs) H _ (rel_start ri rv aw (by rw [← rv.length, hl]; exact hps)) ?_⟩
  refine T.wp_mono ((T.wp_bind _ _ _).mp k) fun o ko => ?_
  cases o with
  | nx en' => exact fun σ' H' l r => ko .non H' [] l.toLe .non Away.nil fun _ => Uniq.nil
  | bk en' => exact ko.elim
  | ct en' => exact ko.elim
  | rt x => exact fun v H' F l r aw nd nP => ko v H' F l.toLe r aw fun _ => ⟨nd, fun a ha => by
      cases e : H a with
      | none => rfl
      | some o => exact absurd ⟨o, e⟩ (nP a ha)⟩
/-- plain parameters -/
def plainP (p : Arguments) : Bool := match p with
  | ⟨[], _, none, [], [], none, []⟩ => true
  | _ => false
end
theorem look_zip {α : Type} : ∀ {ns : List Str} {us : List α} {n : Str} {v : α}, ns.Nodup → ns.length = us.length → n ∈ ns → ∃ v, (ns.zip us).lookup n = some v
  | n :: ns, u :: us, m, v, nd, hl, hm => by
    rw [List.zip_cons_cons, List.lookup_cons]
    cases h : m == n with
    | true => exact ⟨u, rfl⟩
    | false =>
      have hm : m ∈ ns := (List.mem_cons.mp hm).resolve_left fun e => by rw [e] at h; simp at h
      exact look_zip (v := v) (List.nodup_cons.mp nd).2 (Nat.succ.inj hl) hm
theorem fm_zip {α : Type} : ∀ {ns : List Str} {us : List α} , ns.Nodup → ns.length = us.length → (ns.filterMap fun n => ((ns.zip us).lookup n).map (n, ·)) = ns.zip us
  | [], [], _, _ => rfl
  | n :: ns, u :: us, nd, hl => by
    have ih := fm_zip (List.nodup_cons.mp nd).2 (Nat.succ.inj hl)
    have h0 : ((n :: ns).zip (u :: us)).lookup n = some u := by rw [List.zip_cons_cons, List.lookup_cons, beq_self_eq_true]
    rw [List.filterMap_cons, h0]
    show (n, u) :: _ = _
    rw [List.zip_cons_cons]
    congr 1
    refine Eq.trans ?_ ih
    have key : ∀ ms : List Str, n ∉ ms → (ms.filterMap fun m => (((n :: ns).zip (u :: us)).lookup m).map (m, ·)) = ms.filterMap fun m => ((ns.zip us).lookup m).map (m, ·) := by
      intro ms
      induction ms with
      | nil => intro _; rfl
      | cons m ms ih2 =>
        intro hm
        have hne : (m == n) = false := by
          rw [beq_eq_false_iff_ne]
          exact fun e => hm (by rw [e]; exact List.mem_cons_self)
        rw [List.filterMap_cons, List.filterMap_cons, ih2 fun z => hm (List.mem_cons_of_mem _ z), List.zip_cons_cons, List.lookup_cons, hne]
    exact key ns (List.nodup_cons.mp nd).1
theorem bind_zip {x qual : Str} {as : List Arg} {body : List Stmt} {scope : Scope} {kV doc pm : Value} {an : Option Addr} {cdv ct : Value} {us : List Value} (nd : (as.map (·.arg)).Nodup) (hl : us.length = (as.map (·.arg)).length) :
    bindArgs (PySem.W.fnOf x qual ⟨[], as, none, [], [], none, []⟩ body scope .none kV doc pm an cdv ct) ⟨us, []⟩ = pure ((as.map (·.arg)).zip us) := by
  unfold bindArgs
  have e4 : (as.map (·.arg)).filterMap (fun n => (((as.map (·.arg)).zip us).lookup n).map (n, ·)) = (as.map (·.arg)).zip us := fm_zip nd hl.symm
  have e1 : seqItems? Value.none = pure none := rfl
  have e2 : ((as.map (·.arg)).filter fun n => (((as.map (·.arg)).zip us).lookup n).isNone) = [] := by
    rw [List.filter_eq_nil_iff]
    intro n hn
    obtain ⟨v, hv⟩ := look_zip (v := Value.none) nd hl.symm hn
    rw [hv]
    simp
  have e3 : decide ((as.map (·.arg)).length < us.length) = false := by rw [hl]; simp
  simp only [PySem.W.fnOf, e1, pure_bind, List.map_nil, List.nil_append, List.append_nil, Option.getD_none, List.forIn_nil]
  generalize as.map (·.arg) = ns at *
  simp [e2, e3, e4, hl]

theorem binds_of {K : PySem.W.Frag} {x qual : Str} {params : Arguments} {body : List Stmt} {scope : Scope} {f : Addr} {fd : FuncData} (FD : FunD K x qual params body scope [] [] f fd) (hp : plainP params = true) (nd : (params.args.map (·.arg)).Nodup) : Binds K fd (params.args.map (·.arg)) [] := by
  refine FD.bindsN fun kV doc pm an cdv ct us hl => ?_
  unfold plainP at hp
  split at hp
  · exact bind_zip nd hl
  · cases hp
/-- of any heap -/
theorem bindsA_of {K : PySem.W.Frag} {x qual : Str} {params : Arguments} {body : List Stmt} {scope : Scope} {f : Addr} {fd : FuncData} (FD : FunD K x qual params body scope [] [] f fd) (hp : plainP params = true) (nd : (params.args.map (·.arg)).Nodup) (s : Shared) (us : List Value) (hl : us.length = (params.args.map (·.arg)).length) : BindsTo s fd ⟨us, []⟩ ((params.args.map (·.arg)).zip us) := by
  refine FD.bindsA (ps := params.args.map (·.arg)) (fun kV doc pm an cdv ct us hl => ?_) s us hl
  unfold plainP at hp
  split at hp
  · exact bind_zip nd hl
  · cases hp
/-- a def's scope, checked -/
def scopeB (N ps : List Str) (sc : Scope) : Bool :=
  sc.kind == .function && !sc.isCoroutine && !sc.isGenerator && decide N.Nodup && decide (N.take ps.length = ps) && ps.all (fun x => sc.names.lookup x == some .local || sc.names.lookup x == some .cell) && sc.names.all (fun y => !(y.2 == .free))
theorem scope_of {N ps : List Str} {sc : Scope} (h : scopeB N ps sc = true) : FnScope N ps sc := by
  unfold scopeB at h
  simp only [Bool.and_eq_true, beq_iff_eq, decide_eq_true_eq, Bool.not_eq_true', List.all_eq_true, Bool.or_eq_true, beq_eq_false_iff_ne] at h
  obtain ⟨⟨⟨⟨⟨⟨h1, h2⟩, h3⟩, h4⟩, h5⟩, h6⟩, h7⟩ := h
  exact ⟨h1, h2, h3, h4, h5, h6, h7⟩
end G

set_option Elab.async false
set_option linter.all false
set_option maxRecDepth 100000
/-! G12: from a text to what it is worth. -/
namespace G
open PySem PySem.Spec PyProof.Rows L2
section
variable {Y : Dyn} {R : Rw} {P P' : Addr → Prop} {H H1 H' : Hp} {uq : Bool} {Q : VK} {x y : W} {v : V} {F : List Addr} {c : Sc} {e e1 e2 e3 tg : Expr} {pos : Pos} {en : En} {σ : L2.St} {Fs : Nat → List Addr} {D : Ends} {o : Out}
/-! range: nothing that could change is walked -/
def SI0 (c : Sc) (tg e : Expr) (m : En → T (List W)) : Prop :=
  ∀ (Y : Dyn) (X : Cx), Sx c Y X → DynOk c Y → ∃ wi : TI, PI X tg e wi ∧ ∀ R en σ H (Q : It → Hp → Prop), RelW Y R H en σ → (m en).wp (fun ws => ∀ J H1, Le R Y.K H H1 → ItOk Y R J H1 ws [] → Q J H1) → wi σ H Q
theorem SI0.si {m : En → T (List W)} (h : SI0 c tg e m) : SI c tg e m := fun Y X sx dy => let ⟨wi, p, s⟩ := h Y X sx dy; ⟨wi, p, fun R en σ H Q rel k => s R en σ H Q rel (T.wp_mono k fun ws kw J H1 l it => kw J H1 [] l it)⟩
theorem si0_range1 {a : Expr} {p : Pos} {ms : En → T (List W)} {u1 : Bool} (hb : ("range" : Str) ∈ c.blt) (hg : c.sc.names.lookup ("range" : Str) = some .globalImplicit) (h : SA c [a] ms u1) (hn : notStar a = true) :
    SI0 c tg (.Call (.Name "range" p) [a] [] pos) fun en => (ms en).bind rng1 := by
  intro Y X sx dy
  obtain ⟨t, pt, s⟩ := h Y X sx dy
  refine ⟨_, pi_range1 (show X.env.scope.names.lookup ("range" : Str) = _ by rw [sx.sc]; exact hg) (by rw [sx.mg]; exact dy.blt _ hb) pt (star_eq hn), fun R en σ H Q rel k => s R en σ H _ rel ?_⟩
  refine T.wp_mono ((T.wp_bind _ _ _).mp k) fun xs kx => ?_
  intro vs H1 F l1 r1 aw1 _
  unfold rng1 at kx
  split at kx
  · obtain ⟨hb, kx⟩ := T.wp_must kx
    rw [Bool.and_eq_true, decide_eq_true_eq, decide_eq_true_eq] at hb
    obtain ⟨v, rfl, rv⟩ := r1.one
    cases rv
    exact ⟨_, rfl, by omega, by omega, kx _ H1 l1 it_range⟩
  · exact kx.elim
theorem si0_range2 {a b : Expr} {p : Pos} {ms : En → T (List W)} {u1 : Bool} (hb : ("range" : Str) ∈ c.blt) (hg : c.sc.names.lookup ("range" : Str) = some .globalImplicit) (h : SA c [a, b] ms u1) (hn : notStar a = true) (hn2 : notStar b = true) :
    SI0 c tg (.Call (.Name "range" p) [a, b] [] pos) fun en => (ms en).bind rng2 := by
  intro Y X sx dy
  obtain ⟨t, pt, s⟩ := h Y X sx dy
  refine ⟨_, pi_range2 (show X.env.scope.names.lookup ("range" : Str) = _ by rw [sx.sc]; exact hg) (by rw [sx.mg]; exact dy.blt _ hb) pt (by rw [star_eq hn, star_eq hn2]; rfl) (star_eq hn2), fun R en σ H Q rel k => s R en σ H _ rel ?_⟩
  refine T.wp_mono ((T.wp_bind _ _ _).mp k) fun xs kx => ?_
  intro vs H1 F l1 r1 aw1 _
  unfold rng2 at kx
  split at kx
  · obtain ⟨hb, kx⟩ := T.wp_must kx
    simp only [Bool.and_eq_true, decide_eq_true_eq] at hb
    obtain ⟨v, u, F1, F2, rfl, rfl, r1, r2⟩ := r1.two
    cases r1; cases r2
    exact ⟨_, _, rfl, ⟨by omega, by omega, by omega, by omega⟩, kx _ H1 l1 it_range⟩
  · exact kx.elim
def mFor0 (mi : En → T (List W)) (g : W → T (List (Nat × W))) (mb : En → T Out) : En → T Out := fun en => (mi en).bind fun xs => fLoop g mb xs en
theorem ss_for0 {b : List Stmt} {mi : En → T (List W)} {g : W → T (List (Nat × W))} {mb : En → T Out} (hi : SI0 c tg e mi) (hg : SG c tg g) (hb : SSs c b mb) (hs : ∀ env x, foldedSetIterable e env x = pure x) : SS c (.For tg e b [] pos) (mFor0 mi g mb) := by
  intro Y X sx dy
  obtain ⟨wi, pi, si⟩ := hi Y X sx.sx dy
  obtain ⟨tg', pg, sg⟩ := hg Y X sx.sx
  obtain ⟨t, p, s⟩ := hb Y X sx dy
  refine ⟨_, ps_for (by rw [sx.xe]; exact PassesOwn.never) sx.sx.calm pi pg p (hs X.env), fun R P en0 σ0 H0 D ⟨Fs, rel0⟩ k0 => ?_⟩
  refine si R _ σ0 H0 _ rel0.toW ?_
  refine T.wp_mono ((T.wp_bind _ _ _).mp k0) fun xs kx => ?_
  intro J H1 l0 it
  have rel1 := rel0.le l0
  have kx1 : (fLoop g mb xs en0).wp (KO Y R P H1 D) := T.wp_mono kx fun o k => k.back (l0.toP rel0.ri)
  refine ⟨fun i m σ H => m = xs.length - i ∧ ∃ en, RelS Y R P H en σ ∧ LeP R Y.K P H1 H ∧ (fLoop g mb (xs.drop i) en).wp (KO Y R P H1 D), ⟨xs.length, by omega, _, ⟨Fs, rel1⟩, LeP.refl, kx1⟩, ?_⟩
  rintro i m σ H ⟨rfl, en, ⟨Gs, rel⟩, l, kk⟩
  have lF : LeP R Y.K (· ∈ ([] : List Addr)) H1 H := l.mono fun a h => nomatch h
  cases hx : xs[i]? with
  | none =>
    have hn : xs.drop i = [] := List.drop_eq_nil_of_le (List.getElem?_eq_none_iff.mp hx)
    rw [hn] at kk
    exact .inl ⟨it.stop i H hx lF, kk σ H l ⟨Gs, rel⟩⟩
  | some x =>
    have hi : i < xs.length := (List.getElem?_eq_some_iff.mp hx).1
    rw [drop_get hx] at kk
    obtain ⟨go, yd⟩ := it.go i x H hx lF
    refine .inr ⟨go, fun σ H => ∃ en, RelS Y R P H en σ ∧ LeP R Y.K P H1 H ∧ (fLoop g mb (xs.drop (i + 1)) en).wp (KO Y R P H1 D), fun σ' H' h => ⟨xs.length - (i + 1), by omega, rfl, h⟩, fun v H2 y => ?_⟩
    obtain ⟨l2, Fi, rv, hFi⟩ := yd v H2 y
    have eF : Fi = [] := by
      cases Fi with
      | nil => rfl
      | cons a _ => exact absurd (hFi a List.mem_cons_self) (fun z => nomatch z)
    subst eF
    refine sg R v x [] σ H2 _ rv ?_
    refine T.wp_mono ((T.wp_bind _ _ _).mp kk) fun bs kb => ?_
    intro ps hps
    refine s R _ (setsE en bs) _ H2 _ (RelF.sets Away.nil hps (fun a ha => nomatch ha) (rel.le l2)) ?_
    refine T.wp_mono ((T.wp_bind _ _ _).mp kb) fun o ko => ?_
    have l12 := l.trans (l2.toP rel.ri)
    cases o with
    | nx en' => exact fun σ' H' l' r' => ⟨en', r', l12.trans l', ko⟩
    | ct en' => exact fun σ' H' l' r' => ⟨en', r', l12.trans l', ko⟩
    | bk en' => exact fun σ' H' l' r' => ko σ' H' (l12.trans l') r'
    | rt x => exact fun v H' F l' r' => ko v H' F (l12.trans l') r'

/-! small facts of a text -/
def notSet : Expr → Bool
  | .Set .. => false
  | _ => true
theorem folded_of (h : notSet e = true) : ∀ env x, foldedSetIterable e env x = pure x := by
  intro env x
  cases e <;> first | rfl | cases h
def notComp : Expr → Bool
  | .ListComp .. | .SetComp .. | .DictComp .. => false
  | _ => true
theorem swaps_of (h : notComp e = true) (t : Option Expr) (l : Nat) (env : PySem.Env) : swapsWith e t l env = pure false := by
  cases e <;> first | rfl | cases h
def lcSwap (sc scope : Scope) (nm : Str) (p pos : Pos) : Bool := sc.names.lookup nm == some .local && p.line == pos.line && !(scope.names.any fun (n, k) => n == nm && (k == .local || k == .cell))
theorem lcSwap_of {sc scope : Scope} {nm : Str} {p pos : Pos} {elt : Expr} {gens : List Comprehension} {l : Nat} {env : PySem.Env} (hsc : env.scope = sc) (hk : sc.kind = .function) :
    swapsWith (.ListComp elt gens scope pos) (some (.Name nm p)) l env = pure (lcSwap sc scope nm p pos) := by
  have hb : env.blockKind = .function := by unfold Env.blockKind; rw [hsc, hk]; rfl
  show (pure (env.blockKind == .function && env.kindOf nm == some .local && p.line == pos.line && !(scope.names.any fun (n, k) => n == nm && (k == .local || k == .cell))) : Sem Bool) = _
  rw [hb]
  show (pure (true && env.scope.names.lookup nm == some .local && p.line == pos.line && !(scope.names.any fun (n, k) => n == nm && (k == .local || k == .cell))) : Sem Bool) = _
  rw [hsc, Bool.true_and]
  rfl
theorem swSole_of (h : notComp e = true) (t : Expr) (l : Nat) (env : PySem.Env) : swapsWithSole [t] e l env = pure false := swaps_of h (some t) l env
theorem swNone_tuple {ts : List Expr} {k : Nat} {p : Pos} {env : PySem.Env} (h : ∀ vs k2 p2, e ≠ .Tuple vs k2 p2) : swappedStores [.Tuple ts k p] e env = pure none := by
  cases e <;> first | rfl | exact absurd rfl (h _ _ _)
theorem swNone_sub {a b : Expr} {p : Pos} {env : PySem.Env} : swappedStores [.Subscript a b p] e env = pure none := by
  cases e <;> rfl
def visB (sc : Scope) (x : Str) : Bool := sc.names.lookup x == some .local || sc.names.lookup x == some .cell || sc.names.lookup x == some .free
theorem vis_of {sc : Scope} {x : Str} (h : visB sc x = true) : Vis sc x := by
  unfold visB at h
  rw [Bool.or_eq_true, Bool.or_eq_true, beq_iff_eq, beq_iff_eq, beq_iff_eq] at h
  rcases h with (h | h) | h
  · exact .inl h
  · exact .inr (.inl h)
  · exact .inr (.inr h)
end

end G

set_option Elab.async false
set_option linter.all false
set_option maxRecDepth 100000
/-! G14: enumerate over a tuple, slices, ranges as tuples, sets that are sorted or counted. -/
namespace PySem
set_option maxHeartbeats 1000000 in
theorem meets_enum1 {v : Value} {o : Obj} {Hh : Heap → Prop} (B : Begins v o Hh) :
    Meets (Builtin.«enumerate.__new__» ⟨[.type "enumerate", v], []⟩) (fun _ R s => Hh s.heap ∧
      R (.ok (.ret (.ref (s.heap.push o).objs.size))) { s with heap := (s.heap.push o).push { cls := .type "enumerate", data := .fields #[.none, .bool false, .ref s.heap.objs.size, rawInt 0, .none, .none] } }) := by
  refine .of_wp fun prog w A R s hw => ?_
  obtain ⟨hp, g, d, tk, os⟩ := s
  obtain ⟨hv, hw⟩ := hw
  have sb := sub_enumerate
  have ii : ∀ {A' : Around} {E : Value → Shared → Prop} {Q : Value → Shared → Prop}, Q (.ref hp.objs.size) ⟨hp.push o, g, d, tk, os⟩ → wpAny (model prog w) A' (pyIter v) Q E ⟨hp, g, d, tk, os⟩ :=
    fun q => B.iter prog w _ _ ⟨hp, g, d, tk, os⟩ _ hv q
  wp_walk using ii
  refine wpAny_stack_any fun _ => wpAny_pure ?_
  split
  · rename_i c _ _ _ _ _
    cases (c == Value.type "enumerate") <;> (wp_walk using ii; exact ⟨_, rfl, hw⟩)
  · wp_walk using ii
    exact ⟨_, rfl, hw⟩
end PySem
namespace G
open PySem PySem.Spec PyProof.Rows L2
theorem call_enumT {prog : Program} {w : World} {A : Around} {E : Value → Shared → Prop} {s : Shared} {a : Addr} {items : Array Value} {Q : Value → Shared → Prop} (ht : s.heap.IsTuple a items)
    (h : ∀ h', IsEnum h' (s.heap.objs.size + 1) s.heap.objs.size 0 .none → h'.IsTupleIter s.heap.objs.size a 0 → (∀ b o, s.heap.get? b = some o → h'.get? b = some o) → Q (.ref (s.heap.objs.size + 1)) { s with heap := h' }) :
    wpAny (model prog w) A (call (.type "enumerate") [.ref a]) Q E s := by
  refine callType_new F.called_enumerate (by decide) (F.typeCall_enumerate_1 _) (F.newCall_enumerate_1 _) (fun obj => F.args_object_init_2 obj _) F.entry_enumerate_new (meets_enum1 (begins_tuple a items)) ⟨ht, ?_⟩
  have hz : (s.heap.push { cls := .type "tuple_iterator", data := .fields #[.ref a, .int 0 0] }).objs.size = s.heap.objs.size + 1 := by rw [Heap.size_push]
  have he := Heap.get?_push_size (s.heap.push { cls := .type "tuple_iterator", data := .fields #[.ref a, .int 0 0] }) (o := { cls := .type "enumerate", data := .fields #[.none, .bool false, .ref s.heap.objs.size, rawInt 0, .none, .none] }) rfl
  rw [hz] at he
  show _ ∧ _
  rw [hz]
  exact ⟨⟨_, he, rfl⟩, h _ he ⟨_, Heap.get?_push_of_some _ (Heap.get?_push_size _ rfl), rfl, rfl⟩ fun b o e => Heap.get?_push_of_some _ (Heap.get?_push_of_some _ e)⟩
/-- the tuple at a, each item in a new pair -/
def IteT (K : PySem.W.Frag) (a : Addr) : It where
  go := fun i H => ∃ (xs : List V) (x : V), SqT K H a xs ∧ xs[i]? = some x
  yld := fun i H v H' => ∃ (N : Addr) (x : V), v = .ref N ∧ H N = none ∧ H' = upd H N (.tup [.int (i : Nat), x]) ∧ ∀ xs, SqT K H a xs → xs[i]? = some x
  stop := fun i H => ∃ xs : List V, SqT K H a xs ∧ xs.length ≤ i
theorem turn_enumT {P : Program} {w : World} {K : PySem.W.Frag} {elts : List Expr} {kk : Nat} {tpos : Pos} (a e it : Addr) :
    Turn P w K (.Tuple elts kk tpos) (IteT K a) [e, it] e (fun i h => (∃ old, IsEnum h e it ((i : Nat) : Int) old) ∧ h.IsTupleIter it a i ∧ e ≠ it) where
  mem := List.mem_cons_self
  obj := by
    rintro i h ⟨⟨old, he⟩, ⟨o, ho, _, hd⟩, _⟩ b hb
    rcases List.mem_cons.mp hb with rfl | hb
    · exact ⟨_, he, fun v q => nomatch q⟩
    · rw [List.mem_singleton.mp hb]
      exact ⟨o, ho, fun v q => by rw [hd] at q; cases q⟩
  keep := by
    rintro i h h' ⟨⟨old, he⟩, hi, hne⟩ k
    exact ⟨⟨old, k e List.mem_cons_self _ he⟩, hi.at fun o q => k it (List.mem_cons_of_mem _ List.mem_cons_self) o q, hne⟩
  item := by
    rintro X rfl rfl rfl hc i pins s σ H E I hf ⟨⟨old, he⟩, hit, hne⟩ ⟨xs, x, hq, hx⟩
    obtain ⟨us, rv, pt, hz⟩ := I.tuple hq
    obtain ⟨u, hu, ru⟩ := rv.get hx
    have hi : i < us.toArray.size := by
      rw [List.size_toArray]
      exact (List.getElem?_eq_some_iff.mp hu).1
    have hea : e ≠ a := fun z => by
      obtain ⟨o, ho, hcl, _⟩ := pt
      rw [← z, he] at ho
      cases ho
      exact absurd hcl (by simp)
    have hai : a ≠ it := fun z => by
      obtain ⟨o, ho, hcl, _⟩ := pt
      obtain ⟨o', ho', hcl', _⟩ := hit
      rw [z, ho'] at ho
      cases ho
      rw [hcl] at hcl'
      exact absurd hcl' (by simp)
    have hel : e < s.heap.objs.size := Heap.lt_size he
    have hil : it < s.heap.objs.size := by obtain ⟨_, q, _⟩ := hit; exact Heap.lt_size q
    refine wpAny_pyNext_enum_itemD (i := i) (Draws.tuple (A := X.A.in1) (show X.A.in1.handled = none from I.ok.hd hc) it a hai us.toArray) he ⟨hit, pt⟩ hi hne (fun z => ?_) fun x' h' tk hx' ho hst hT hsz hk => ?_
    · rcases List.mem_cons.mp z with z | z
      · exact hne z
      · exact hea (List.mem_singleton.mp z)
    have ex : x' = u := by
      have h1 : us[i]? = some x' := by simpa using hx'
      rw [hu] at h1
      exact (Option.some.inj h1).symm
    subst ex
    refine ⟨_, rfl, wpAny_letOwnedTupleGo_enum (s := { s with heap := h', toks := tk + 1 }) ho fun g he' sb => ?_⟩
    have hTg : g.get? s.heap.objs.size = some { cls := .type "tuple", data := .seq #[.int i tk, x'] } := (sb.2 _ (Nat.ne_of_gt hel)).trans hT
    have nw : ObjOk X.prog X.w (upd H s.heap.objs.size (.tup [.int (i : Nat), x])) g s.heap.objs.size (.tup [.int (i : Nat), x]) := ⟨show 2 ≤ sizeLine by decide, [.int i tk, x'], .cons ⟨_, rfl⟩ (.cons ru .nil), ⟨_, hTg, rfl, _, rfl⟩⟩
    have I1 : Inv X pins σ (upd H s.heap.objs.size (.tup [.int (i : Nat), x])) { s with heap := g, toks := tk + 1 } := I.turnedNew (t' := tk + 1) (ch := [e, it]) (fun b ob hb q => by
      have b1 : b ≠ e := fun z => hb (by rw [z]; exact List.mem_cons_self)
      have b2 : b ≠ it := fun z => hb (by rw [z]; exact List.mem_cons_of_mem _ List.mem_cons_self)
      exact (sb.2 b b1).trans (hk b ob b1 b2 q)) hf (Nat.le_refl _) nw
    refine ⟨.ref s.heap.objs.size, _, I1, rfl, ⟨_, x, rfl, I.fresh, rfl, fun ys hy => by rw [I.tuple_inj hy hq]; exact hx⟩, ⟨⟨x', ?_⟩, hst.1.at fun o q => (sb.2 it (Ne.symm hne)).trans q, hne⟩, fun b hb => ?_⟩
    · rw [show ((i + 1 : Nat) : Int) = (i : Int) + 1 by omega]; exact he'
    · have hbl : b < s.heap.objs.size := by
        rcases List.mem_cons.mp hb with z | z
        · rw [z]; exact hel
        · rw [List.mem_singleton.mp z]; exact hil
      rw [upd_ne (Nat.ne_of_lt hbl)]
      exact (hf b hb).1
  done := by
    rintro X rfl rfl rfl hc i pins s σ H E I hf ⟨⟨old, he⟩, hit, hne⟩ ⟨xs, hq, hx⟩
    obtain ⟨us, rv, pt, hz⟩ := I.tuple hq
    obtain ⟨f0, f1, f2, f3, f4, f5⟩ := hf it (List.mem_cons_of_mem _ List.mem_cons_self)
    have hl := rv.length
    have hai : a ≠ it := fun z => by
      obtain ⟨o, ho, hcl, _⟩ := pt
      obtain ⟨o', ho', hcl', _⟩ := hit
      rw [z, ho'] at ho
      cases ho
      rw [hcl] at hcl'
      exact absurd hcl' (by simp)
    have hT : s.TypeIs (.ref e) "enumerate" := ⟨_, he, rfl⟩
    unfold pyNext
    have last : wpAny (model X.prog X.w) X.A.in1 (Builtin.SmallTypes.nextOf (.ref it)) (fun _ _ => False) (fun x s1 => (∃ o, s1.heap.get? (match x with | .ref b => b | _ => 0) = some o ∧ o.cls = .type "StopIteration") ∧ (∃ b, x = .ref b) ∧ Inv X pins σ H s1) s :=
      wpAny_nextOf_tuple_end (show X.A.in1.handled = none from I.ok.hd hc) hit pt (by rw [List.getElem?_toArray, List.getElem?_eq_none_iff]; omega) fun h' x eb hs => ⟨hs, ⟨x, rfl⟩, I.turned (t' := s.toks) (fun b o hb q => eb b o hb q) f0 f1 f3 f4 f5⟩
    refine wpAny_bind (wpAny_attempt (wpAny_callSpecial?_slot (name := Str.ofString "__next__") hT F.slot_enumerate_next (wpAny_call_entry F.slot_enumerate_next hT F.entry_enumerate_next ?_ (F.args_enumerate_next_1 _))))
    show wpAny _ _ (field (.ref e) 2 >>= _) _ _ s
    refine wpAny_bind (wpAny_field he rfl (x := .ref it) rfl (wpAny_bind (wpAny_mono last (fun _ _ z => z.elim) ?_)))
    rintro x s1 ⟨hs, ⟨b, rfl⟩, I1⟩
    refine wpAny_bind (wpAny_isInstance (T := "StopIteration") (b := true) hs isSubtype_stop (wpAny_pure ⟨rfl, I1⟩))
  self := fun A i s Q E st h => by
    obtain ⟨⟨_, he⟩, _⟩ := st
    exact wpAny_pyIter_enum he h
end G

set_option Elab.async false
set_option linter.all false
set_option maxRecDepth 100000
/-! G14s: set(xs) of a list of ints (turned from the kit's rule for a tuple). -/
namespace G
open PySem PySem.Spec PyProof.Rows L2
variable {P : Program} {w : World} {A : Around} {E : Value → Shared → Prop} {s : Shared}
set_option maxRecDepth 100000 in
set_option maxHeartbeats 3200000 in
theorem call_setL {L : Addr} {its : Array Value} (ms : List Int) {Qz : Value → Shared → Prop} (gh : A.handled = none) (gl : s.heap.IsList L its) (gi : IntsAre its.toList ms) (gb : ms.length + 1 < scanBound)
    (h : ∀ (h' : Heap) (tk c : Nat), SetR w h' s.heap.objs.size (fun j => decide (j ∈ ms)) c → c ≤ ms.length → (∀ b o, s.heap.get? b = some o → h'.get? b = some o) → Qz (.ref s.heap.objs.size) { s with heap := h', toks := tk }) :
    wpAny (model P w) A (call (.type "set") [.ref L]) Qz E s := by
  have gsz : its.size = ms.length := by
    have q := IntsAre.length gi
    rw [Array.length_toList] at q
    exact q
  obtain ⟨c, tl, gmro⟩ := F.called_set.mro
  have gmade := F.called_set.made
  have gsub := F.called_set.sub
  refine wpAny_call (codeAny_of_tree ?_); show wpAny _ _ (callAny (.type "set") _) _ _ _; refine wpAny_pure ⟨Code.quiet_builtin _ (by decide +kernel), codeAny_builtin F.entry_type_call ?_⟩
  rw [Around.under_plain (weight_type_call_type "set" [.ref L] []) rfl]
  have g1 := F.called_set.notType
  have g2 := F.called_set.canCreate
  have gct := F.typeCall_set_1 (.ref L)
  repeat (any_goals (first | (assumption) | (wp_step)))

  refine codeAny_mono (code_set_led1 (.ref L) (E := E) (Q₁ := fun ob t₁ => ob = .ref s.heap.objs.size ∧ t₁ = { s with heap := s.heap.push { cls := .type "set", dict := none, data := .set #[] 0 (.fresh 0 0 (!w.params.followText "set-order")) } }) ⟨rfl, rfl⟩) fun r t₁ gr => ?_
  cases r with
  | error e => exact gr
  | ok fw =>
    cases fw with
    | ret ob =>
      obtain ⟨rfl, rfl⟩ := gr
      have gS : (s.heap.push { cls := .type "set", dict := none, data := .set #[] 0 (.fresh 0 0 (!w.params.followText "set-order")) }).get? s.heap.objs.size = some { cls := .type "set", dict := none, data := .set #[] 0 (.fresh 0 0 (!w.params.followText "set-order")) } := Heap.get?_push_size _ rfl
      have gT : Shared.TypeIs { s with heap := s.heap.push { cls := .type "set", dict := none, data := .set #[] 0 (.fresh 0 0 (!w.params.followText "set-order")) } } (.ref s.heap.objs.size) "set" := ⟨_, gS, rfl⟩
      have gli := F.called_set.init.lookup
      have gbi := F.called_set.init.bind (.ref s.heap.objs.size)
      repeat (any_goals (first | (assumption) | (wp_step)))

      refine codeAny_mono (codeAny_call_builtin (R := wants (fun r t₂ => r = .none ∧ ∃ h' tk c, t₂ = { s with heap := h', toks := tk } ∧ SetR w h' s.heap.objs.size (fun j => decide (j ∈ ms)) c ∧ c ≤ ms.length ∧
          (∀ b o, s.heap.get? b = some o → h'.get? b = some o)) E) F.called_set.init.plain F.entry_set_init (check_set_init_1 gT ?_)) fun q₂ t₂ gr₂ => ?_
      · obtain ⟨ol, gol, gcl, nl, gdl⟩ := gl
        obtain ⟨oc, odict, odt, oslots⟩ := ol
        simp only at gcl gdl
        subst gcl; subst gdl
        have gol' : (s.heap.push { cls := .type "set", dict := none, data := .set #[] 0 (.fresh 0 0 (!w.params.followText "set-order")) }).get? L = some { cls := .type "list", dict := odict, data := .seq its nl, slots := oslots } := Heap.get?_push_of_some _ gol
        have gsls := F.sub_list_set
        have gslf := F.sub_list_frozenset
        have gne : (Value.type "list" == Value.type "dict") = false := by decide
        have gl1 : (s.heap.push { cls := .type "set", dict := none, data := .set #[] 0 (.fresh 0 0 (!w.params.followText "set-order")) }).IsList L its := ⟨_, gol', rfl, nl, rfl⟩
        (unfold Builtin.«set.__init__» noKeywords Builtin.Frozenset.updateFrom); generalize gPI : pyIter = PI
        wp_walk
        subst gPI

        refine wpAny_pyIter_list gl1 ?_
        refine (wpAny_bind (wpAny_runValue ?_))
        have glS : L < s.heap.objs.size := Heap.lt_size gol
        have gh3 : A.in1.in1.in1.handled = none := by simp [gh]
        have gz1 : (s.heap.push { cls := .type "set", dict := none, data := .set #[] 0 (.fresh 0 0 (!w.params.followText "set-order")) }).objs.size = s.heap.objs.size + 1 := Heap.size_push ..
        have gneI : L ≠ (s.heap.push { cls := .type "set", dict := none, data := .set #[] 0 (.fresh 0 0 (!w.params.followText "set-order")) }).objs.size := by
          rw [Heap.size_push]; exact Nat.ne_of_lt (Nat.lt_succ_of_lt glS)
        have gSf : s.heap.objs.size ∉ [(s.heap.push { cls := .type "set", dict := none, data := .set #[] 0 (.fresh 0 0 (!w.params.followText "set-order")) }).objs.size, L] := by
          rw [Heap.size_push]; simp only [List.mem_cons, List.not_mem_nil, List.mem_singleton, or_false, not_or]
          exact ⟨Nat.ne_of_lt (Nat.lt_succ_self _), Nat.ne_of_gt glS⟩
        have gval : ∀ (i : Nat) (v : Value), its[i]? = some v → ∃ k t, ms[i]? = some k ∧ v = .int k t := fun i v hv => by
          have hi : i < ms.length := by rw [← gsz]; exact (Array.getElem?_eq_some_iff.mp hv).1
          obtain ⟨t, e⟩ := PyProof.Rows.IntsAre.int_at gi i v (by rw [Array.getElem?_toList]; exact hv)
          refine ⟨ms[i], t, List.getElem?_eq_getElem hi, ?_⟩
          rw [e, List.getD_eq_getElem?_getD, List.getElem?_eq_getElem hi]; rfl
        refine set_update_ints ((Walks.list gh3 _ L gneI its).toS) s.heap.objs.size
          gSf ms gsz gb gval (its.size - 0) 0 _ (by omega) (Nat.zero_le _)
          ⟨⟨_, Heap.get?_push_size _ rfl, rfl, rfl⟩, (gl1.push _)⟩ ?hS0 ?hR
        case hS0 =>
          have gget : ((s.heap.push { cls := .type "set", dict := none, data := .set #[] 0 (.fresh 0 0 (!w.params.followText "set-order")) }).push { cls := .type "list_iterator", data := .fields #[.ref L, .int 0 0] }).get? s.heap.objs.size
              = some { cls := .type "set", dict := none, data := .set #[] 0 (.fresh 0 0 (!w.params.followText "set-order")) } := Heap.get?_push_of_some _ gS
          exact ⟨0, Nat.le_refl 0, setR_new_at gget⟩
        case hR =>
          intro s' c' gm gc' gS'
          obtain ⟨h', g3, d', tk', os'⟩ := s'
          have fg : g3 = s.gens := gm.gens
          have fd : d' = s.drawn := gm.drawn
          have fo : os' = s.os := gm.os
          subst fg; subst fd; subst fo
          show wpAny _ _ _ _ _ _
          refine wpAny_pure ?_
          show wpAny _ _ (ret Value.none) _ _ _; skip
          rw [gsz] at gc'
          refine wpAny_pure ⟨rfl, h', tk', c', rfl, gS', gc', fun b o e => ?_⟩
          have gb0 : b < s.heap.objs.size := Heap.lt_size e
          have gb1 : b ≠ s.heap.objs.size := Nat.ne_of_lt gb0
          have gb2 : b ≠ (s.heap.push { cls := .type "set", dict := none, data := .set #[] 0 (.fresh 0 0 (!w.params.followText "set-order")) }).objs.size := by
            rw [Heap.size_push]; exact Nat.ne_of_lt (Nat.lt_succ_of_lt gb0)
          exact gm.heap b o (by simp only [List.mem_cons, List.mem_singleton, List.not_mem_nil, or_false, not_or]; exact ⟨gb1, gb2⟩) (Heap.get?_push_of_some _ (Heap.get?_push_of_some _ e))

      · cases q₂ with
        | error e => exact gr₂
        | ok fw₂ =>
          cases fw₂ with
          | ret r =>
            obtain ⟨rfl, h', tk, c', rfl, gS', gc', gk'⟩ := gr₂
            repeat (any_goals (first | (assumption) | (wp_step)))
            exact h _ _ _ gS' gc' gk'
          | _ => exact gr₂.elim
    | _ => exact gr.elim

end G

set_option Elab.async false
set_option linter.all false
set_option maxRecDepth 100000
/-! G15: sets that are sorted or counted at once; enumerate; slices; ranges. -/
namespace G
open PySem PySem.Spec PyProof.Rows L2

/-! ### rising, each once -/
def insI (x : Int) : List Int → List Int
  | [] => [x]
  | y :: ys => match decide (x < y) with
    | true => x :: y :: ys
    | false => match decide (x = y) with
      | true => y :: ys
      | false => y :: insI x ys
def sortI : List Int → List Int
  | [] => []
  | x :: xs => insI x (sortI xs)
theorem insI_mem {x k : Int} : ∀ {ys : List Int}, k ∈ insI x ys ↔ k = x ∨ k ∈ ys
  | [] => by simp [insI]
  | y :: ys => by
    unfold insI
    split
    · simp
    · split
      · rename_i h
        have h := of_decide_eq_true h
        subst h
        simp
      · simp only [List.mem_cons, insI_mem (ys := ys)]
        constructor <;> (intro h; rcases h with h | h | h <;> simp [h])
theorem sortI_mem {k : Int} : ∀ {xs : List Int}, k ∈ sortI xs ↔ k ∈ xs
  | [] => Iff.rfl
  | x :: xs => by
    show k ∈ insI x (sortI xs) ↔ _
    rw [insI_mem, sortI_mem, List.mem_cons]
theorem insI_rise {x : Int} : ∀ {ys : List Int}, ys.Pairwise (· < ·) → (insI x ys).Pairwise (· < ·)
  | [], _ => by simp [insI]
  | y :: ys, h => by
    have h' := List.pairwise_cons.mp h
    unfold insI
    split
    · rename_i h1
      have h1 := of_decide_eq_true h1
      refine List.pairwise_cons.mpr ⟨fun b hb => ?_, h⟩
      rcases List.mem_cons.mp hb with rfl | hb
      · exact h1
      · have := h'.1 b hb; omega
    · rename_i h1
      have h1 := of_decide_eq_false h1
      split
      · exact h
      · rename_i h2
        have h2 := of_decide_eq_false h2
        refine List.pairwise_cons.mpr ⟨fun b hb => ?_, insI_rise h'.2⟩
        rcases insI_mem.mp hb with rfl | hb
        · omega
        · exact h'.1 b hb
theorem sortI_rise : ∀ xs : List Int, (sortI xs).Pairwise (· < ·)
  | [] => List.Pairwise.nil
  | _ :: xs => insI_rise (sortI_rise xs)
/-- two rising lists of the same members are one -/
theorem rise_ext : ∀ {xs ys : List Int}, xs.Pairwise (· < ·) → ys.Pairwise (· < ·) → (∀ k, k ∈ xs ↔ k ∈ ys) → xs = ys
  | [], [], _, _, _ => rfl
  | [], y :: ys, _, _, h => by have := (h y).mpr List.mem_cons_self; cases this
  | x :: xs, [], _, _, h => by have := (h x).mp List.mem_cons_self; cases this
  | x :: xs, y :: ys, hx, hy, h => by
    have hx' := List.pairwise_cons.mp hx
    have hy' := List.pairwise_cons.mp hy
    have e : x = y := by
      rcases List.mem_cons.mp ((h x).mp List.mem_cons_self) with e | h1
      · exact e
      · rcases List.mem_cons.mp ((h y).mpr List.mem_cons_self) with e | h2
        · exact e.symm
        · have := hx'.1 y h2
          have := hy'.1 x h1
          omega
    subst e
    congr 1
    refine rise_ext hx'.2 hy'.2 fun k => ⟨fun hk => ?_, fun hk => ?_⟩
    · rcases List.mem_cons.mp ((h k).mp (List.mem_cons_of_mem _ hk)) with e | h1
      · have := hx'.1 k hk; omega
      · exact h1
    · rcases List.mem_cons.mp ((h k).mpr (List.mem_cons_of_mem _ hk)) with e | h1
      · have := hy'.1 k hk; omega
      · exact h1
theorem rise_nodup {xs : List Int} (h : xs.Pairwise (· < ·)) : xs.Nodup := h.imp fun h => Int.ne_of_lt h
theorem nodup_len {xs ys : List Int} (hx : xs.Nodup) (hy : ys.Nodup) (h : ∀ k, k ∈ xs ↔ k ∈ ys) : xs.length = ys.length :=
  ((List.perm_ext_iff_of_nodup hx hy).mpr h).length_eq

/-! ### the set of some ints, tracked -/
theorem ints_are : ∀ {ns : List Int} {us : List Value}, Vals (ns.map V.int) us → IntsAre us ns
  | [], _, .nil => .nil
  | n :: _, _, .cons ⟨t, e⟩ r => by
    subst e
    exact .cons n t (ints_are r)
theorem setR_len {w : World} {h : Heap} {a : Addr} {ns : List Int} {c : Nat} (r : SetR w h a (fun j => decide (j ∈ ns)) c) : c = (sortI ns).length := by
  obtain ⟨o, es, ep, t, ho, _, _, g, nd, hm, _, _, hn, _⟩ := r
  rw [← hn, ← Array.length_toList, ← List.length_map (f := L2.keyOf)]
  refine nodup_len nd (rise_nodup (sortI_rise ns)) fun k => ?_
  rw [sortI_mem, ← hm k]
  simp
abbrev setOf (w : World) (a : Addr) (ns : List Int) : HO := SetO w a (fun j => decide (j ∈ ns)) (sortI ns).length
theorem call_setI {X : Cx} (hc : X.calm = true) : CallR X (.type "set") fun xs H Q => ∃ p ns, xs = [.ref p] ∧ (SqL X.K H p (ns.map V.int) ∨ SqT X.K H p (ns.map V.int)) ∧ ns.length ≤ 1000 ∧ ∀ l, H l = none → Q (.ref l) (upd H l (setOf X.w l ns)) := by
  rintro pins s σ H xs us Q I r ⟨p, ns, rfl, hq, hn, q⟩
  obtain ⟨u, rfl, ru⟩ := vals1 r
  cases ru
  have hh : X.A.handled = none := I.ok.hd hc
  have hb : ns.length + 1 < scanBound := Nat.lt_of_le_of_lt (Nat.succ_le_succ hn) (by decide)
  have fin : ∀ (h' : Heap) (tk c : Nat), SetR X.w h' s.heap.objs.size (fun j => decide (j ∈ ns)) c → c ≤ ns.length → (∀ b o, s.heap.get? b = some o → h'.get? b = some o) → EP X pins σ Q (.ref s.heap.objs.size) { s with heap := h', toks := tk } :=
    fun h' tk c hS hc' k => ⟨.ref s.heap.objs.size, _, I.laid (t' := tk) k (Nat.le_refl _) (setO_new (by rw [← setR_len hS]; exact hS)), rfl, q _ I.fresh⟩
  rcases hq with hq | hq
  · obtain ⟨us, rv, pl, hz⟩ := I.list hq
    exact call_setL ns hh pl.isList (by simpa using ints_are rv) hb fin
  · obtain ⟨us, rv, pl, hz⟩ := I.tuple hq
    exact call_set_tupI ns hh pl (by simpa using ints_are rv) hb fin
theorem call_lenSet {X : Cx} : CallR X (.builtin "len") fun xs H Q => ∃ a ns, xs = [.ref a] ∧ H a = some (setOf X.w a ns) ∧ ns.length ≤ 1000 ∧ Q (.int ((sortI ns).length : Nat)) H := by
  rintro pins s σ H xs us Q I r ⟨a, ns, rfl, ha, hn, q⟩
  obtain ⟨u, rfl, ru⟩ := vals1 r
  cases ru
  obtain ⟨o, es, ep, t, ho, hx, hd, g, nd, hm, hb, hf, hl, _⟩ := setO_get I ha
  have hb' : es.size < 2 ^ 62 := Nat.lt_trans hb (by decide)
  refine call_len_set ho hx hd hf (by omega) ⟨.int (es.size : Nat), H, I.tok _, ⟨_, rfl⟩, ?_⟩
  rw [hl]; exact q
section
variable {Y : Dyn} {R : Rw} {H H1 H' : Hp} {uq : Bool} {Q : VK} {x y : W} {v : V} {F : List Addr} {c : Sc} {e e1 e2 e3 tg : Expr} {pos : Pos}
def intsIn : W → Option (List Int)
  | .d (.list ds) => intsOf ds
  | .d (.tuple ds) => intsOf ds
  | _ => none
theorem intsIn_rel {ns : List Int} (r : RpW Y R H v x F) (h : intsIn x = some ns) : ∃ p, v = .ref p ∧ (SqL Y.K H p (ns.map V.int) ∨ SqT Y.K H p (ns.map V.int)) := by
  unfold intsIn at h
  split at h
  · have e := intsOf_eq h
    subst e
    cases r with
    | lst h r =>
      obtain ⟨rfl, rfl⟩ := r.ints
      exact ⟨_, rfl, .inl (SqL.of h)⟩
  · have e := intsOf_eq h
    subst e
    cases r with
    | tup h r =>
      obtain ⟨rfl, rfl⟩ := r.ints
      exact ⟨_, rfl, .inr h⟩
  · cases h
def oSortSet (x : W) : T W := (T.ofO (intsIn x)).bind fun ns => T.must (Nat.ble ns.length 1000 && Nat.ble (sortI ns).length 63) (.ret (.d (.list ((sortI ns).map PyData.int))))
def oLenSet (x : W) : T W := (T.ofO (intsIn x)).bind fun ns => T.must (Nat.ble ns.length 1000) (.ret (.d (.int ((sortI ns).length : Nat))))
theorem se_setOf {m : En → T W} {u1 : Bool} {id : String} {nm : Str} {p q p2 : Pos} {op : W → T W} (hv : bootBuiltins nm = some (.builtin id)) (hn : nm ≠ "__name__") (hd : (nm == ("__debug__" : Str)) = false)
    (rr : ∀ (Y : Dyn) (X : Cx), Sx c Y X → ∃ r : List V → Hp → VK → Prop, CallR X (.builtin id) r ∧ ∀ R H v x F Q, RowI R Y.K H → RpW Y R H v x F → (op x).wp (Kv Y R H true Q) → ∃ p ns, v = .ref p ∧ (SqL Y.K H p (ns.map V.int) ∨ SqT Y.K H p (ns.map V.int)) ∧ ns.length ≤ 1000 ∧ ∀ l, H l = none → r [.ref l] (upd H l (setOf Y.w l ns)) Q)
    (hb : nm ∈ c.blt) (hg : c.sc.names.lookup nm = some .globalImplicit) (hb2 : ("set" : Str) ∈ c.blt) (hg2 : c.sc.names.lookup ("set" : Str) = some .globalImplicit) (h : SE c e m u1) (hs : notStar e = true) :
    SE c (.Call (.Name nm p) [.Call (.Name "set" p2) [e] [] q] [] pos) (m1 op m) true := by
  intro Y X sx dy
  obtain ⟨t, pe, s⟩ := h Y X sx dy
  obtain ⟨r, pr, g⟩ := rr Y X sx
  have ps := pe_callTy (p := p2) (pos := q) (call_setI sx.calm) (show X.env.scope.names.lookup ("set" : Str) = _ by rw [sx.sc]; exact hg2) (by rw [sx.mg]; exact dy.blt _ hb2) boot_set (pa_cons pe pa_nil (star_eq hs)) (by decide) (by decide) (star_eq hs) rfl
  refine ⟨_, pe_callB pr (show X.env.scope.names.lookup nm = _ by rw [sx.sc]; exact hg) (by rw [sx.mg]; exact dy.blt nm hb) hv (pa_cons ps pa_nil) hn hd rfl rfl, fun R en σ H Q rel k => s R en σ H _ rel ?_⟩
  refine T.wp_mono ((T.wp_bind _ _ _).mp k) fun x kx => ?_
  intro v H1 F l r1 aw _
  obtain ⟨p, ns, rfl, hq, hn, hr⟩ := g R H1 v x F Q (l.row rel.ri) r1 (T.wp_mono kx fun z kz => kz.back l rel.ri)
  refine ⟨p, ns, rfl, by rw [sx.K]; exact hq, hn, fun a ha => ?_⟩
  rw [sx.w]
  exact hr a ha
theorem se_sortSet {m : En → T W} {u1 : Bool} {p q p2 : Pos} (hb : ("sorted" : Str) ∈ c.blt) (hg : c.sc.names.lookup ("sorted" : Str) = some .globalImplicit) (hb2 : ("set" : Str) ∈ c.blt) (hg2 : c.sc.names.lookup ("set" : Str) = some .globalImplicit) (h : SE c e m u1) (hs : notStar e = true) :
    SE c (.Call (.Name "sorted" p) [.Call (.Name "set" p2) [e] [] q] [] pos) (m1 oSortSet m) true := by
  refine se_setOf boot_sorted (by decide) (by decide) (fun Y X sx => ⟨_, cr_sortedSet sx.calm, fun R H v x F Q ri r k => ?_⟩) hb hg hb2 hg2 h hs
  obtain ⟨ns, hi, k⟩ := T.wp_ofO ((T.wp_bind _ _ _).mp k)
  obtain ⟨hb, k⟩ := T.wp_must k
  rw [Bool.and_eq_true] at hb
  obtain ⟨p, rfl, hq⟩ := intsIn_rel r hi
  refine ⟨p, ns, rfl, hq, bleD hb.1, fun l hl => ⟨l, _, _, rfl, by rw [sx.w]; exact upd_same, Nat.lt_succ_of_le (bleD hb.2), fun ms a h1 h2 h3 ha => ?_⟩⟩
  have e : ms = sortI ns := rise_ext h1 (sortI_rise ns) fun k => by rw [h2 k, sortI_mem]; simp
  subst e
  have l1 : Le R Y.K H (upd H l (setOf Y.w l ns)) := Le.new hl
  exact newL (l1.row ri) (k.back l1 ri) ha (RpA.ofInts _)
theorem se_lenSet {m : En → T W} {u1 : Bool} {p q p2 : Pos} (hb : ("len" : Str) ∈ c.blt) (hg : c.sc.names.lookup ("len" : Str) = some .globalImplicit) (hb2 : ("set" : Str) ∈ c.blt) (hg2 : c.sc.names.lookup ("set" : Str) = some .globalImplicit) (h : SE c e m u1) (hs : notStar e = true) :
    SE c (.Call (.Name "len" p) [.Call (.Name "set" p2) [e] [] q] [] pos) (m1 oLenSet m) true := by
  refine se_setOf boot_len (by decide) (by decide) (fun Y X sx => ⟨_, call_lenSet, fun R H v x F Q ri r k => ?_⟩) hb hg hb2 hg2 h hs
  obtain ⟨ns, hi, k⟩ := T.wp_ofO ((T.wp_bind _ _ _).mp k)
  obtain ⟨hb, k⟩ := T.wp_must k
  obtain ⟨p, rfl, hq⟩ := intsIn_rel r hi
  refine ⟨p, ns, rfl, hq, bleD hb, fun l hl => ⟨l, ns, rfl, by rw [sx.w]; exact upd_same, bleD hb, ?_⟩⟩
  exact Kv.here (k.back (Le.new hl) ri) (.int _)

/-! ### enumerate -/
def iEnumA (K : PySem.W.Frag) (ta : TA) : TI := fun σ H R => ta σ H fun vs H1 => ∃ a, vs = [.ref a] ∧ ((∃ xs, SqL K H1 a xs ∧ R (Ite K a) H1) ∨ ∃ xs, SqT K H1 a xs ∧ R (IteT K a) H1)
theorem pi_enumA {X : Cx} {e : Expr} {ta : TA} {p pos tpos : Pos} {elts : List Expr} {kk : Nat} (hg : Gl X "enumerate") (hm : X.mg "enumerate" = none) (ha : PA X [e] ta) (hs : starEach [e] X.env = [(false, eval e X.env)]) :
    PI X (.Tuple elts kk tpos) (.Call (.Name "enumerate" p) [e] [] pos) (iEnumA X.K ta) := by
  refine ⟨fun pins s0 σ H Rk Iv hw => ?_⟩
  refine Call_ (ld_blt Iv hg hm boot_enumerate (PyProof.Rows.callWith_type1 (thn (ha.run pos pins s0 σ H _ Iv hw) ?_) hs rfl))
  rintro us t1 ⟨vs, H2, I2, r2, a, rfl, hq⟩
  obtain ⟨u, rfl, ru⟩ := vals1 r2
  cases ru
  have fp : ∀ b ∈ [t1.heap.objs.size + 1, t1.heap.objs.size], FpOk X pins H2 b := fun b hb => by
    have hle : t1.heap.objs.size ≤ b := by
      rcases List.mem_cons.mp hb with z | z
      · rw [z]; exact Nat.le_succ _
      · rw [List.mem_singleton.mp z]; exact Nat.le_refl _
    exact I2.fpOk hle (I2.hok.fresh hle)
  rcases hq with ⟨xs, hq, q⟩ | ⟨xs, hq, q⟩
  · obtain ⟨us, _, pl, _⟩ := I2.list hq
    refine call_enumerate_list pl.isList fun h' he hit _ hk => wpAny_pyIter_enum he ?_
    exact ⟨_, _, _, _, H2, rfl, I2.kept (t' := t1.toks) hk, turn_enum a _ _, ⟨⟨.none, he⟩, hit, Nat.succ_ne_self _⟩, fp, q⟩
  · obtain ⟨us, _, pl, _⟩ := I2.tuple hq
    refine call_enumT pl fun h' he hit hk => wpAny_pyIter_enum he ?_
    exact ⟨_, _, _, _, H2, rfl, I2.kept (t' := t1.toks) hk, turn_enumT a _ _, ⟨⟨.none, he⟩, hit, Nat.succ_ne_self _⟩, fp, q⟩
/-- pairs of place and item -/
def enumD : Nat → List PyData → List W
  | _, [] => []
  | i, d :: ds => .d (.tuple [.int (i : Nat), d]) :: enumD (i + 1) ds
theorem enumD_get : ∀ {ds : List PyData} {i j : Nat} {x : W}, (enumD i ds)[j]? = some x → ∃ d, ds[j]? = some d ∧ x = .d (.tuple [.int ((i + j : Nat) : Int), d])
  | [], _, _, _, h => by cases h
  | d :: ds, i, 0, x, h => ⟨d, rfl, (Option.some.inj h).symm⟩
  | d :: ds, i, j + 1, x, h => by
    obtain ⟨d', h1, h2⟩ := enumD_get (ds := ds) (i := i + 1) (j := j) h
    exact ⟨d', h1, by rw [h2, show i + 1 + j = i + (j + 1) by omega]⟩
theorem enumD_none : ∀ {ds : List PyData} {i j : Nat}, (enumD i ds)[j]? = none → ds.length ≤ j
  | [], _, _, _ => Nat.zero_le _
  | d :: ds, i, 0, h => by cases h
  | d :: ds, i, j + 1, h => Nat.succ_le_succ (enumD_none (ds := ds) (i := i + 1) (j := j) h)
theorem pair_rel {H2 : Hp} {N : Addr} {u : V} {d : PyData} {Fi : List Addr} {i : Nat} (hN : H2 N = none) (l : LeP R Y.K (· ∈ F) H H2) (rv : Rp Y.w Y.K H2 u d Fi) : RpW Y R (upd H2 N (.tup [.int (i : Nat), u])) (.ref N) (.d (.tuple [.int (i : Nat), d])) (Fi ++ []) := by
  have new : Rp Y.w Y.K (upd H2 N (.tup [.int (i : Nat), u])) u d Fi := by
    have l0 : LeP ⟨none, 0, [], fun _ => False, none⟩ Y.K (fun _ => True) H2 (upd H2 N (.tup [.int (i : Nat), u])) :=
      ⟨fun a o _ _ h => (by rw [upd_ne (ne_of_none h hN)]; exact h), fun a xs h => by rw [upd_ne (ne_of_none h hN)]; exact h, fun a o u h => by rw [upd_ne (ne_of_none h hN)]; exact h, fun a o h => ⟨o, by rw [upd_ne (ne_of_none h hN)]; exact h⟩, fun _ r h => nomatch h⟩
    exact Rp.leP l0 rv (fun a _ => ⟨(fun z => nomatch z), fun z => z⟩) fun _ _ => True.intro
  exact .tup (SqT.of upd_same) (.cons (F := []) (.int _) (.cons new .nil))
theorem it_enumL {a : Addr} {vs : List V} {ds : List PyData} (h : H a = some (.lst vs)) (r : RpA Y.w Y.K H vs ds F) (aw : Away R (a :: F)) : ItOk Y R (Ite Y.K a) H (enumD 0 ds) (a :: F) where
  aw := aw
  tr := fun b hb => (List.mem_cons.mp hb).elim (fun e => ⟨.lst vs, by rw [e]; exact h⟩) (r.tracked b)
  go := fun i x H' hx l => by
    obtain ⟨d, hd, rfl⟩ := enumD_get hx
    rw [Nat.zero_add]
    have ha := l.lst List.mem_cons_self (not_row aw) h
    obtain ⟨v, Fi, hv, rv, hs⟩ := r.get hd
    refine ⟨⟨vs, v, SqL.of ha, hv⟩, fun u H'' ⟨N, z, e1, hN, e2, hu⟩ => ?_⟩
    subst e1 e2
    have e := (hu vs (SqL.of ha)).symm.trans hv
    cases e
    have rv' := Rp.leP l rv (away_sub aw.tail hs) fun b hb => List.mem_cons_of_mem _ (hs b hb)
    exact ⟨Le.new hN, Fi ++ [], pair_rel hN l rv', fun b hb => by rw [List.append_nil] at hb; exact List.mem_cons_of_mem _ (hs b hb)⟩
  stop := fun i H' hx l => ⟨vs, SqL.of (l.lst List.mem_cons_self (not_row aw) h), by rw [r.length]; exact enumD_none hx⟩
theorem it_enumT {a : Addr} {vs : List V} {ds : List PyData} (h : SqT Y.K H a vs) (r : RpA Y.w Y.K H vs ds F) (aw : Away R F) : ItOk Y R (IteT Y.K a) H (enumD 0 ds) F where
  aw := aw
  tr := r.tracked
  go := fun i x H' hx l => by
    obtain ⟨d, hd, rfl⟩ := enumD_get hx
    rw [Nat.zero_add]
    have ha := l.sqT h
    obtain ⟨v, Fi, hv, rv, hs⟩ := r.get hd
    refine ⟨⟨vs, v, ha, hv⟩, fun u H'' ⟨N, z, e1, hN, e2, hu⟩ => ?_⟩
    subst e1 e2
    have e := (hu vs ha).symm.trans hv
    cases e
    have rv' := Rp.leP l rv (away_sub aw hs) hs
    exact ⟨Le.new hN, Fi ++ [], pair_rel hN l rv', fun b hb => by rw [List.append_nil] at hb; exact hs b hb⟩
  stop := fun i H' hx l => ⟨vs, l.sqT h, by rw [r.length]; exact enumD_none hx⟩
def enumOf : List W → T (List W)
  | [.d (.list ds)] => .ret (enumD 0 ds)
  | [.d (.tuple ds)] => .ret (enumD 0 ds)
  | _ => .fail
theorem si_enum {a : Expr} {p tpos : Pos} {elts : List Expr} {kk : Nat} {ms : En → T (List W)} {u1 : Bool} (hb : ("enumerate" : Str) ∈ c.blt) (hg : c.sc.names.lookup ("enumerate" : Str) = some .globalImplicit) (h : SA c [a] ms u1) (hn : notStar a = true) :
    SI c (.Tuple elts kk tpos) (.Call (.Name "enumerate" p) [a] [] pos) fun en => (ms en).bind enumOf := by
  intro Y X sx dy
  obtain ⟨t, pt, s⟩ := h Y X sx dy
  refine ⟨_, pi_enumA (show X.env.scope.names.lookup ("enumerate" : Str) = _ by rw [sx.sc]; exact hg) (by rw [sx.mg]; exact dy.blt _ hb) pt (star_eq hn), fun R en σ H Q rel k => s R en σ H _ rel ?_⟩
  refine T.wp_mono ((T.wp_bind _ _ _).mp k) fun xs kx => ?_
  intro vs H1 F l1 r1 aw1 _
  unfold enumOf at kx
  rw [sx.K]
  split at kx
  · obtain ⟨v, rfl, rv⟩ := r1.one
    cases rv with
    | lst h r => exact ⟨_, rfl, .inl ⟨_, SqL.of h, kx _ H1 _ l1 (it_enumL h r aw1)⟩⟩
  · obtain ⟨v, rfl, rv⟩ := r1.one
    cases rv with
    | tup h r => exact ⟨_, rfl, .inr ⟨_, h, kx _ H1 _ l1 (it_enumT h r aw1)⟩⟩
  · exact kx.elim
end
end G

set_option Elab.async false
set_option linter.all false
set_option maxRecDepth 100000
/-! G16: slices; ranges as lists and tuples. -/
namespace G
open PySem PySem.Spec PyProof.Rows L2
section
variable {Y : Dyn} {R : Rw} {H H1 H' : Hp} {uq : Bool} {Q : VK} {x y : W} {v : V} {F : List Addr} {c : Sc} {e e1 e2 e3 tg : Expr} {pos : Pos}
/-! ### parts -/
def SO (c : Sc) (o : Option Expr) (m : En → T (Option Int)) : Prop :=
  ∀ (Y : Dyn) (X : Cx), Sx c Y X → DynOk c Y → ∃ t : TO, PO X o t ∧ ∀ R en σ H (Q : Option Int → Hp → Prop), RelW Y R H en σ → (m en).wp (fun i => ∀ H', Le R Y.K H H' → Q i H') → t σ H Q
theorem so_none : SO c none fun _ => .ret none := fun Y X sx dy => ⟨_, po_none, fun R en σ H Q rel k => k H Le.refl⟩
def mPart (m : En → T W) : En → T (Option Int) := fun en => (m en).bind fun x => match x with
  | .d (.int i) => .ret (some i)
  | _ => .fail
theorem so_some {m : En → T W} {u1 : Bool} (h : SE c e m u1) : SO c (some e) (mPart m) := by
  intro Y X sx dy
  obtain ⟨t, p, s⟩ := h Y X sx dy
  refine ⟨_, po_some p, fun R en σ H Q rel k => s R en σ H _ rel ?_⟩
  refine T.wp_mono ((T.wp_bind _ _ _).mp k) fun x kx => ?_
  intro v H1 F l r _ _
  split at kx
  · cases r
    exact ⟨_, rfl, kx H1 l⟩
  · exact kx.elim
def cutD (xs : List PyData) (lo hi : Option Int) : List PyData := (xs.drop (HT.sIx xs.length 0 lo)).take (HT.sIx xs.length xs.length hi - HT.sIx xs.length 0 lo)
theorem RpA.drop0 {w : World} {K : PySem.W.Frag} : ∀ {vs : List V} {ds : List PyData} (n : Nat), RpA w K H vs ds [] → RpA w K H (vs.drop n) (ds.drop n) []
  | vs, ds, 0, r => r
  | [], [], n + 1, r => r
  | _ :: _, [], n + 1, r => by cases r
  | [], _ :: _, n + 1, r => by cases r
  | v :: vs, d :: ds, n + 1, r => by
    generalize hF : ([] : List Addr) = F at r
    cases r with
    | cons h r =>
      obtain ⟨e1, e2⟩ := List.append_eq_nil_iff.mp hF.symm
      subst e1 e2
      exact RpA.drop0 n r
theorem RpA.take0 {w : World} {K : PySem.W.Frag} : ∀ {vs : List V} {ds : List PyData} (n : Nat), RpA w K H vs ds [] → RpA w K H (vs.take n) (ds.take n) []
  | vs, ds, 0, r => .nil
  | [], [], n + 1, r => r
  | _ :: _, [], n + 1, r => by cases r
  | [], _ :: _, n + 1, r => by cases r
  | v :: vs, d :: ds, n + 1, r => by
    generalize hF : ([] : List Addr) = F at r
    cases r with
    | cons h r =>
      obtain ⟨e1, e2⟩ := List.append_eq_nil_iff.mp hF.symm
      subst e1 e2
      exact .cons (F := []) h (RpA.take0 n r)
theorem RpA.cut {w : World} {K : PySem.W.Frag} {vs : List V} {ds : List PyData} {lo hi : Option Int} (r : RpA w K H vs ds []) : RpA w K H (cutV vs lo hi) (cutD ds lo hi) [] := by
  unfold cutV cutD
  rw [r.length]
  exact (r.drop0 _).take0 _
theorem whole_cut {ds : List PyData} {lo hi : Option Int} (hw : HT.sIx ds.length 0 lo = 0 ∧ HT.sIx ds.length ds.length hi = ds.length) : cutD ds lo hi = ds := by
  unfold cutD
  rw [hw.1, hw.2, List.drop_zero, Nat.sub_zero, List.take_length]
def oCut (x : W) (lo hi : Option Int) : T W := match x with
  | .d (.list ds) => T.must (immAll ds) (.ret (.d (.list (cutD ds lo hi))))
  | .d (.tuple ds) => T.must (immAll ds) (.ret (.d (.tuple (cutD ds lo hi))))
  | _ => .fail
def mCut (m : En → T W) (ml mh : En → T (Option Int)) : En → T W := fun en => (m en).bind fun x => (ml en).bind fun lo => (mh en).bind fun hi => oCut x lo hi
theorem se_slice {lo hi : Option Expr} {p2 : Pos} {m : En → T W} {ml mh : En → T (Option Int)} {u1 : Bool} (h : SE c e m u1) (hl : SO c lo ml) (hh : SO c hi mh) : SE c (.Subscript e (.Slice lo hi none p2) pos) (mCut m ml mh) true := by
  intro Y X sx dy
  obtain ⟨t, p, s⟩ := h Y X sx dy
  obtain ⟨tl, pl, sl⟩ := hl Y X sx dy
  obtain ⟨th, ph, sh⟩ := hh Y X sx dy
  refine ⟨_, pe_slice (sl_list.or sl_tupA) p pl ph, fun R en σ H Q rel k => s R en σ H _ rel ?_⟩
  refine T.wp_mono ((T.wp_bind _ _ _).mp k) fun x kx => ?_
  intro v H1 F l1 r1 aw1 _
  refine sl R en σ H1 _ (rel.le l1) ?_
  refine T.wp_mono ((T.wp_bind _ _ _).mp kx) fun lo kl => ?_
  intro H2 l2
  have ri1 := l1.row rel.ri
  refine sh R en σ H2 _ (rel.le (l1.trans l2)) ?_
  refine T.wp_mono ((T.wp_bind _ _ _).mp kl) fun hi kh => ?_
  intro H3 l3
  have l := (l1.trans l2).trans l3
  have r3 := r1.le (l2.trans l3) ri1 aw1
  have ri3 := l.row rel.ri
  unfold oCut at kh
  split at kh
  · obtain ⟨hb, kh⟩ := T.wp_must kh
    cases r3 with
    | lst h r => exact .inl ⟨_, _, rfl, SqL.of h, fun q hq => newL ri3 (kh.back l rel.ri) hq (r.imm0 hb).cut⟩
  · obtain ⟨hb, kh⟩ := T.wp_must kh
    cases r3 with
    | tup h r =>
      rw [sx.K]
      refine .inr ⟨_, _, rfl, h, fun hw => ?_, fun _ q hq => newT ri3 (kh.back l rel.ri) hq (r.imm0 hb).cut Away.nil fun _ => Uniq.nil⟩
      refine Kv.here (kh.back l rel.ri) (.tup h ?_)
      rw [whole_cut (by rw [← r.length]; exact hw)]
      exact r.imm0 hb
  · exact kh.elim

/-! ### list(range(..)), tuple(range(..)) -/
def rngD (a b : Int) : List PyData := (List.range (b - a).toNat).map fun i => .int (a + (i : Nat))
theorem rng_rel {w : World} {K : PySem.W.Frag} (a b : Int) : RpA w K H (rgV a b) (rngD a b) [] := by
  have e1 : rgV a b = ((List.range (b - a).toNat).map fun i => a + ((i : Nat) : Int)).map V.int := by rw [List.map_map]; rfl
  have e2 : rngD a b = ((List.range (b - a).toNat).map fun i => a + ((i : Nat) : Int)).map PyData.int := by rw [List.map_map]; rfl
  rw [e1, e2]
  exact RpA.ofInts _
def rngB (a b : Int) : Bool := decide (b ≤ 100000) && decide (-100000 ≤ b) && decide (a ≤ 100000) && decide (-100000 ≤ a)
theorem rngB_of {a b : Int} (h : rngB a b = true) : RgOk a b := by
  unfold rngB at h
  simp only [Bool.and_eq_true, decide_eq_true_eq] at h
  exact ⟨by omega, by omega, by omega, by omega, by omega⟩
def oRng (f : List PyData → PyData) : List W → T W
  | [.d (.int b)] => T.must (rngB 0 b) (.ret (.d (f (rngD 0 b))))
  | [.d (.int a), .d (.int b)] => T.must (rngB a b) (.ret (.d (f (rngD a b))))
  | _ => .fail
theorem se_tupRng1 {a : Expr} {p q p2 : Pos} {m : En → T W} {u1 : Bool} (hb : ("tuple" : Str) ∈ c.blt) (hg : c.sc.names.lookup ("tuple" : Str) = some .globalImplicit) (hb2 : ("range" : Str) ∈ c.blt) (hg2 : c.sc.names.lookup ("range" : Str) = some .globalImplicit) (h : SE c a m u1) (hs : notStar a = true) :
    SE c (.Call (.Name "tuple" p) [.Call (.Name "range" p2) [a] [] q] [] pos) (mArgs (oRng .tuple) (mCons m mNil)) true := by
  intro Y X sx dy
  obtain ⟨t, pe, s⟩ := h Y X sx dy
  refine ⟨_, pe_tupRg sx.calm (show X.env.scope.names.lookup ("tuple" : Str) = _ by rw [sx.sc]; exact hg) (by rw [sx.mg]; exact dy.blt _ hb) (prg_1 (show X.env.scope.names.lookup ("range" : Str) = _ by rw [sx.sc]; exact hg2) (by rw [sx.mg]; exact dy.blt _ hb2) pe (star_eq hs)), fun R en σ H Q rel k => s R en σ H _ rel ?_⟩
  refine T.wp_mono ((T.wp_bind _ _ _).mp ((T.wp_bind _ _ _).mp k)) fun x kx => ?_
  intro v H1 F l r _ _
  have kx : (oRng .tuple [x]).wp (Kv Y R H true Q) := kx
  unfold oRng at kx
  split at kx
  · rename_i b e
    cases e
    obtain ⟨hb, kx⟩ := T.wp_must kx
    cases r
    exact ⟨_, rfl, rngB_of hb, fun q hq => newT (l.row rel.ri) (kx.back l rel.ri) hq (rng_rel 0 b) Away.nil fun _ => Uniq.nil⟩
  · rename_i e; cases e
  · exact kx.elim
theorem se_tupRng2 {a b : Expr} {p q p2 : Pos} {ma mb : En → T W} {u1 u2 : Bool} (hb : ("tuple" : Str) ∈ c.blt) (hg : c.sc.names.lookup ("tuple" : Str) = some .globalImplicit) (hb2 : ("range" : Str) ∈ c.blt) (hg2 : c.sc.names.lookup ("range" : Str) = some .globalImplicit) (h : SE c a ma u1) (h2 : SE c b mb u2) (hs : notStar a = true) (hs2 : notStar b = true) :
    SE c (.Call (.Name "tuple" p) [.Call (.Name "range" p2) [a, b] [] q] [] pos) (mArgs (oRng .tuple) (mCons ma (mCons mb mNil))) true := by
  intro Y X sx dy
  obtain ⟨ta, pa, sa⟩ := h Y X sx dy
  obtain ⟨tb, pb, sb⟩ := h2 Y X sx dy
  refine ⟨_, pe_tupRg sx.calm (show X.env.scope.names.lookup ("tuple" : Str) = _ by rw [sx.sc]; exact hg) (by rw [sx.mg]; exact dy.blt _ hb) (prg_2 (show X.env.scope.names.lookup ("range" : Str) = _ by rw [sx.sc]; exact hg2) (by rw [sx.mg]; exact dy.blt _ hb2) pa pb (by rw [star_eq hs]) (star_eq hs2) (by rw [star_eq hs2]; rfl)), fun R en σ H Q rel k => sa R en σ H _ rel ?_⟩
  refine T.wp_mono ((T.wp_bind _ _ _).mp ((T.wp_bind _ _ _).mp k)) fun x kx => ?_
  intro v H1 F l r aw _
  refine sb R en σ H1 _ (rel.le l) ?_
  refine T.wp_mono ((T.wp_bind _ _ _).mp ((T.wp_bind _ _ _).mp kx)) fun y ky => ?_
  intro u H2 F2 l2 r2 _ _
  have ky : (oRng .tuple [x, y]).wp (Kv Y R H true Q) := ky
  have l12 := l.trans l2
  unfold oRng at ky
  split at ky
  · rename_i e; cases e
  · rename_i i j e
    cases e
    obtain ⟨hb, ky⟩ := T.wp_must ky
    cases r; cases r2
    exact ⟨_, _, rfl, rfl, rngB_of hb, fun q hq => newT (l12.row rel.ri) (ky.back l12 rel.ri) hq (rng_rel i j) Away.nil fun _ => Uniq.nil⟩
  · exact ky.elim
theorem se_lstRng1 {a : Expr} {p q p2 : Pos} {m : En → T W} {u1 : Bool} (hb : ("list" : Str) ∈ c.blt) (hg : c.sc.names.lookup ("list" : Str) = some .globalImplicit) (hb2 : ("range" : Str) ∈ c.blt) (hg2 : c.sc.names.lookup ("range" : Str) = some .globalImplicit) (h : SE c a m u1) (hs : notStar a = true) :
    SE c (.Call (.Name "list" p) [.Call (.Name "range" p2) [a] [] q] [] pos) (mArgs (oRng .list) (mCons m mNil)) true := by
  intro Y X sx dy
  obtain ⟨t, pe, s⟩ := h Y X sx dy
  refine ⟨_, pe_listRg sx.calm (show X.env.scope.names.lookup ("list" : Str) = _ by rw [sx.sc]; exact hg) (by rw [sx.mg]; exact dy.blt _ hb) (prg_1 (show X.env.scope.names.lookup ("range" : Str) = _ by rw [sx.sc]; exact hg2) (by rw [sx.mg]; exact dy.blt _ hb2) pe (star_eq hs)), fun R en σ H Q rel k => s R en σ H _ rel ?_⟩
  refine T.wp_mono ((T.wp_bind _ _ _).mp ((T.wp_bind _ _ _).mp k)) fun x kx => ?_
  intro v H1 F l r _ _
  have kx : (oRng .list [x]).wp (Kv Y R H true Q) := kx
  unfold oRng at kx
  split at kx
  · rename_i b e
    cases e
    obtain ⟨hb, kx⟩ := T.wp_must kx
    cases r
    exact ⟨_, rfl, rngB_of hb, fun q hq => newL (l.row rel.ri) (kx.back l rel.ri) hq (rng_rel 0 b)⟩
  · rename_i e; cases e
  · exact kx.elim
end
end G

set_option Elab.async false
set_option linter.all false
set_option maxRecDepth 100000
/-! G17: dicts by their entries: whole numbers as keys, tuples as keys. -/
namespace G
open PySem PySem.Spec PyProof.Rows L2

/-! ### values -/
def isI : PyData → Bool
  | .int _ => true
  | _ => false
def isK : PyData → Bool
  | .tuple ds => immAll ds && Nat.ble (keyN (.tuple ds)).depth 8
  | _ => false
def allI : List (PyData × PyData) → Bool
  | [] => true
  | (k, _) :: r => isI k && allI r
def allK : List (PyData × PyData) → Bool
  | [] => true
  | (k, _) :: r => isK k && allK r
def kindB (kvs : List (PyData × PyData)) (k : PyData) : Bool := (isI k && allI kvs) || (isK k && allK kvs)
def sameK (a b : PyData) : Bool := NestedKey.beq (keyN a) (keyN b)
def dget : List (PyData × PyData) → PyData → Option PyData
  | [], _ => none
  | (k', d) :: r, k => match sameK k' k with
    | true => some d
    | false => dget r k
def dhas : List (PyData × PyData) → PyData → Bool
  | [], _ => false
  | (k', _) :: r, k => sameK k' k || dhas r k
def drep : List (PyData × PyData) → PyData → PyData → List (PyData × PyData)
  | [], _, _ => []
  | (k', d') :: r, k, d => (match sameK k' k with
    | true => (k', d)
    | false => (k', d')) :: drep r k d
def dput (kvs : List (PyData × PyData)) (k d : PyData) : List (PyData × PyData) := match dhas kvs k with
  | true => drep kvs k d
  | false => kvs ++ [(k, d)]
theorem sameK_iff {a b : PyData} : sameK a b = true ↔ keyN a = keyN b := by
  unfold sameK
  rw [← NestedKey.decide_eq, decide_eq_true_eq]

/-! ### entries -/
abbrev Ent := NestedKey × V × V
def pget (ps : List Ent) (n : NestedKey) : Option V := (ps.find? fun p => decide (p.1 = n)).map (·.2.2)
def phas (ps : List Ent) (n : NestedKey) : Bool := ps.any fun p => decide (p.1 = n)
def prep (ps : List Ent) (n : NestedKey) (v : V) : List Ent := ps.map fun p => if p.1 = n then (p.1, p.2.1, v) else p
def pput (ps : List Ent) (n : NestedKey) (u v : V) : List Ent := if phas ps n = true then prep ps n v else ps ++ [(n, u, v)]
theorem prep_keys (ps : List Ent) (n : NestedKey) (v : V) : (prep ps n v).map (·.1) = ps.map (·.1) := by
  unfold prep
  rw [List.map_map]
  refine List.map_congr_left fun p _ => ?_
  show (if p.1 = n then (p.1, p.2.1, v) else p).1 = p.1
  split <;> rfl
theorem prep_none {ps : List Ent} {n : NestedKey} {v : V} (h : n ∉ ps.map (·.1)) : prep ps n v = ps := by
  unfold prep
  conv => rhs; rw [← List.map_id ps]
  refine List.map_congr_left fun p hp => ?_
  have : p.1 ≠ n := fun e => h (by rw [← e]; exact List.mem_map.mpr ⟨p, hp, rfl⟩)
  show (if p.1 = n then (p.1, p.2.1, v) else p) = p
  rw [if_neg this]
theorem phas_mem {ps : List Ent} {n : NestedKey} : phas ps n = true ↔ n ∈ ps.map (·.1) := by
  unfold phas
  rw [List.any_eq_true, List.mem_map]
  constructor
  · rintro ⟨p, hp, e⟩; exact ⟨p, hp, of_decide_eq_true e⟩
  · rintro ⟨p, hp, e⟩; exact ⟨p, hp, decide_eq_true e⟩
theorem pput_nodup {ps : List Ent} {n : NestedKey} {u v : V} (h : (ps.map (·.1)).Nodup) : ((pput ps n u v).map (·.1)).Nodup := by
  unfold pput
  split
  · rw [prep_keys]; exact h
  · rename_i hn
    rw [List.map_append]
    refine List.nodup_append.mpr ⟨h, by simp, fun a ha b hb e => hn (phas_mem.mpr ?_)⟩
    have : b = n := by simpa using hb
    rw [← this, ← e]; exact ha
theorem pput_len (ps : List Ent) (n : NestedKey) (u v : V) : (pput ps n u v).length ≤ ps.length + 1 := by
  unfold pput prep
  split
  · rw [List.length_map]; omega
  · rw [List.length_append]; exact Nat.le_refl _
section
variable {w : World} {K : PySem.W.Frag} {H : Hp} {F : List Addr}
theorem RpD.has {k : PyData} : ∀ {ps : List Ent} {kvs : List (PyData × PyData)} {F : List Addr}, RpD w K H ps kvs F → dhas kvs k = phas ps (keyN k)
  | _, _, _, .nil => rfl
  | _, _, _, .cons (k := k') e _ _ r => by
    show (sameK k' k || dhas _ k) = _
    rw [RpD.has r]
    show _ = (decide (_ = keyN k) || phas _ (keyN k))
    rw [e, NestedKey.decide_eq]
    rfl
theorem RpD.get {k d : PyData} : ∀ {ps : List Ent} {kvs : List (PyData × PyData)} {F : List Addr}, RpD w K H ps kvs F → dget kvs k = some d → ∃ z Fz, pget ps (keyN k) = some z ∧ Rp w K H z d Fz ∧ ∀ a ∈ Fz, a ∈ F
  | _, _, _, .nil, h => by cases h
  | _, _, _, .cons (n := n) (v := v) (k := k') (d := d') (F := F1) e hk hv r, h => by
    subst e
    unfold dget at h
    cases hs : sameK k' k with
    | true =>
      rw [hs] at h
      cases h
      refine ⟨v, F1, ?_, hv, fun a ha => List.mem_append_left _ ha⟩
      unfold pget
      rw [List.find?_cons, decide_eq_true (sameK_iff.mp hs)]
      rfl
    | false =>
      rw [hs] at h
      obtain ⟨z, Fz, h1, h2, h3⟩ := RpD.get r h
      refine ⟨z, Fz, ?_, h2, fun a ha => List.mem_append_right _ (h3 a ha)⟩
      unfold pget at h1 ⊢
      rw [List.find?_cons, decide_eq_false (fun e => by rw [sameK_iff.mpr e] at hs; cases hs)]
      exact h1
theorem dget_none {k : PyData} : ∀ {kvs : List (PyData × PyData)}, dget kvs k = none ↔ dhas kvs k = false
  | [] => by simp [dget, dhas]
  | (k', d) :: r => by
    unfold dget dhas
    cases sameK k' k with
    | true => simp
    | false => simp [dget_none (kvs := r)]
theorem pget_none {n : NestedKey} : ∀ {ps : List Ent}, pget ps n = none ↔ phas ps n = false
  | [] => by simp [pget, phas]
  | p :: r => by
    have ih := pget_none (n := n) (ps := r)
    unfold pget phas at ih ⊢
    rw [List.find?_cons, List.any_cons]
    cases h : decide (p.1 = n) with
    | true => simp
    | false => simpa using ih
theorem RpD.getN {k : PyData} {ps : List Ent} {kvs : List (PyData × PyData)} (r : RpD w K H ps kvs F) (h : dget kvs k = none) : pget ps (keyN k) = none := by
  rw [pget_none, ← r.has, ← dget_none]; exact h
theorem RpD.app : ∀ {ps qs : List Ent} {kvs lvs : List (PyData × PyData)} {F F' : List Addr}, RpD w K H ps kvs F → RpD w K H qs lvs F' → RpD w K H (ps ++ qs) (kvs ++ lvs) (F ++ F')
  | _, _, _, _, _, _, .nil, s => s
  | _, _, _, _, _, _, .cons (F := F1) (F' := F2) e k h r, s => by
    rw [List.append_assoc]
    exact .cons e k h (RpD.app r s)
theorem drep_none {k d : PyData} : ∀ {kvs : List (PyData × PyData)}, dhas kvs k = false → drep kvs k d = kvs
  | [], _ => rfl
  | (k', d') :: r, h => by
    unfold dhas at h
    rw [Bool.or_eq_false_iff] at h
    unfold drep
    rw [h.1, drep_none h.2]
theorem RpD.rep {k d : PyData} {v : V} {Fy : List Addr} (rv : Rp w K H v d Fy) : ∀ {ps : List Ent} {kvs : List (PyData × PyData)} {F : List Addr}, RpD w K H ps kvs F → (ps.map (·.1)).Nodup →
    ∃ F', RpD w K H (prep ps (keyN k) v) (drep kvs k d) F' ∧ (∀ a ∈ F', a ∈ F ∨ a ∈ Fy) ∧ (F.Nodup → Fy.Nodup → (∀ a ∈ Fy, a ∉ F) → F'.Nodup)
  | _, _, _, .nil, _ => ⟨[], .nil, (fun _ h => nomatch h), fun _ _ _ => List.nodup_nil⟩
  | _, _, _, .cons (n := n) (u := u) (v := v') (k := k') (d := d') (ps := ps) (kvs := kvs) (F := F1) (F' := F2) e hk hv r, nd => by
    subst e
    have nd' := List.nodup_cons.mp nd
    cases hs : sameK k' k with
    | true =>
      have ek := sameK_iff.mp hs
      have hn : keyN k ∉ ps.map (·.1) := by rw [← ek]; exact nd'.1
      have hd : dhas kvs k = false := by
        rw [r.has]
        cases h : phas ps (keyN k) with
        | false => rfl
        | true => exact absurd (phas_mem.mp h) hn
      refine ⟨Fy ++ F2, ?_, fun a ha => ?_, fun n1 n2 n3 => ?_⟩
      · have e1 : prep ((keyN k', u, v') :: ps) (keyN k) v = (keyN k', u, v) :: ps := by
          show (if keyN k' = keyN k then _ else _) :: prep ps (keyN k) v = _
          rw [if_pos ek, prep_none hn]
        have e2 : drep ((k', d') :: kvs) k d = (k', d) :: kvs := by
          unfold drep
          rw [hs, drep_none hd]
        rw [e1, e2]
        exact .cons rfl hk rv r
      · rcases List.mem_append.mp ha with ha | ha
        · exact .inr ha
        · exact .inl (List.mem_append_right _ ha)
      · exact List.nodup_append.mpr ⟨n2, (List.nodup_append.mp n1).2.1, fun a ha b hb e => n3 a ha (by rw [e]; exact List.mem_append_right _ hb)⟩
    | false =>
      obtain ⟨F', h1, h2, h3⟩ := RpD.rep rv r nd'.2 (k := k)
      refine ⟨F1 ++ F', ?_, fun a ha => ?_, fun n1 n2 n3 => ?_⟩
      · have e1 : prep ((keyN k', u, v') :: ps) (keyN k) v = (keyN k', u, v') :: prep ps (keyN k) v := by
          show (if keyN k' = keyN k then _ else _) :: prep ps (keyN k) v = _
          rw [if_neg fun e => by rw [sameK_iff.mpr e] at hs; cases hs]
        have e2 : drep ((k', d') :: kvs) k d = (k', d') :: drep kvs k d := by
          show (match sameK k' k with | true => _ | false => _) :: _ = _
          rw [hs]
        rw [e1, e2]
        exact .cons rfl hk hv h1
      · rcases List.mem_append.mp ha with ha | ha
        · exact .inl (List.mem_append_left _ ha)
        · exact (h2 a ha).imp (List.mem_append_right _) id
      · obtain ⟨m1, m2, m3⟩ := List.nodup_append.mp n1
        refine List.nodup_append.mpr ⟨m1, h3 m2 n2 fun a ha z => n3 a ha (List.mem_append_right _ z), fun a ha b hb e => ?_⟩
        rcases h2 b hb with z | z
        · exact m3 a ha b z e
        · exact n3 b z (by rw [← e]; exact List.mem_append_left _ ha)
theorem RpD.put {k d : PyData} {u v : V} {Fy : List Addr} (rk : Rp w K H u k []) (rv : Rp w K H v d Fy) {ps : List Ent} {kvs : List (PyData × PyData)} (r : RpD w K H ps kvs F) (nd : (ps.map (·.1)).Nodup) :
    ∃ F', RpD w K H (pput ps (keyN k) u v) (dput kvs k d) F' ∧ (∀ a ∈ F', a ∈ F ∨ a ∈ Fy) ∧ (F.Nodup → Fy.Nodup → (∀ a ∈ Fy, a ∉ F) → F'.Nodup) := by
  unfold pput dput
  rw [r.has]
  cases h : phas ps (keyN k) with
  | true =>
    rw [if_pos rfl]
    exact RpD.rep rv r nd
  | false =>
    rw [if_neg (by decide)]
    refine ⟨F ++ (Fy ++ []), r.app (.cons rfl rk rv .nil), fun a ha => ?_, fun n1 n2 n3 => ?_⟩
    · rw [List.append_nil] at ha
      exact List.mem_append.mp ha
    · rw [List.append_nil]
      exact List.nodup_append.mpr ⟨n1, n2, fun a ha b hb e => n3 b hb (by rw [← e]; exact ha)⟩
end

/-! ### keys as the model sees them -/
def numKind (prog : Program) (w : World) : PySem.KeyKind prog w NestedKey where
  is := fun k v => match k with
    | .num i => Value.isInt i v
    | _ => false
  hash := fun k => k.hash w
  inj := fun v a b ha hb => by
    cases a <;> cases b <;> first | (cases ha; done) | (cases hb; done) | skip
    exact congrArg NestedKey.num ((intKind prog w).inj v _ _ ha hb)
  byValue := fun k v h => by
    cases k <;> first | (cases h; done) | skip
    exact (intKind prog w).byValue _ _ h
  pyHash := fun {A E s k v Q} hv h => by
    cases k <;> first | (cases hv; done) | skip
    exact (intKind prog w).pyHash hv h
  eqBool := fun {A E s a b u v Q} hu hv h => by
    cases a <;> first | (cases hu; done) | skip
    cases b <;> first | (cases hv; done) | skip
    rename_i i j
    refine (intKind prog w).eqBool hu hv ?_
    rw [show decide (i = j) = decide (NestedKey.num i = NestedKey.num j) by
      by_cases e : i = j
      · rw [e]; simp
      · rw [decide_eq_false e, decide_eq_false fun z => e (NestedKey.num.inj z)]]
    exact h
  «strs» := fun k x t v h => by
    cases k <;> (cases h; done)
end G

set_option Elab.async false
set_option linter.all false
set_option maxRecDepth 100000
/-! G18: what is done with a dict's object. -/
namespace G
open PySem PySem.Spec PyProof.Rows L2
section
variable {X : Cx} {pins : List (Addr × Obj)} {σ : L2.St} {H : Hp} {s : Shared} {a : Addr} {A : Around} {E : Value → Shared → Prop}
mutual
/-- a datum that does not change, as a key -/
theorem Rp.nested (I : Inv X pins σ H s) : ∀ {v : V} {d : PyData} {F : List Addr} {u : Value}, Rp X.w X.K H v d F → imm d = true → RelV v u → NestedIs s.heap (keyN d) u
  | _, _, _, u, .non, _, r => by
    cases (show u = Value.none from r)
    exact .none
  | _, _, _, u, .bl b, _, r => by
    cases (show u = Value.bool b from r)
    exact .bool rfl
  | _, _, _, u, .int i, _, r => by
    obtain ⟨t, rfl⟩ := r
    exact .int i t
  | _, _, _, u, .str x, _, r => by
    obtain ⟨t, rfl⟩ := r
    exact .text x t
  | _, _, _, u, .lst h q, i, r => by simp [G.imm] at i
  | _, _, _, u, .tup (a := a) (ds := ds) h q, i, r => by
    cases (show u = Value.ref a from r)
    obtain ⟨us, rv, ⟨o, ho, hc, n, hd⟩, _⟩ := I.tuple h
    exact .tup ho hc hd (RpA.nested I q (by simpa [G.imm] using i) rv)
  | _, _, _, u, .dct h q e, i, r => by simp [G.imm] at i
theorem RpA.nested (I : Inv X pins σ H s) : ∀ {vs : List V} {ds : List PyData} {F : List Addr} {us : List Value}, RpA X.w X.K H vs ds F → immAll ds = true → Vals vs us → NestedAll s.heap (keyN.go ds) us
  | _, _, _, us, .nil, _, r => by cases r; exact .nil
  | _, d :: ds, _, us, .cons h q, i, r => by
    have i' : G.imm d = true ∧ immAll ds = true := by simpa [immAll] using i
    cases r with
    | cons r rs => exact .cons (Rp.nested I h i'.1 r) (RpA.nested I q i'.2 rs)
end
theorem isK_of {w : World} {K : PySem.W.Frag} {v : V} {d : PyData} {F : List Addr} (h : isK d = true) (r : Rp w K H v d F) : ∃ b, v = .ref b ∧ imm d = true ∧ (keyN d).depth ≤ 8 := by
  unfold isK at h
  split at h
  · rw [Bool.and_eq_true] at h
    cases r with
    | tup h1 r1 => exact ⟨_, rfl, by simpa [G.imm] using h.1, bleD h.2⟩
  · cases h
theorem isI_of {w : World} {K : PySem.W.Frag} {v : V} {d : PyData} {F : List Addr} (h : isI d = true) (r : Rp w K H v d F) : ∃ i, d = .int i ∧ v = .int i := by
  unfold isI at h
  split at h
  · cases r; exact ⟨_, rfl, rfl⟩
  · cases h

/-- keys and values -/
abbrev KVp : List Ent → List (NestedKey × Value) → Prop := Paired fun (p : Ent) (q : NestedKey × Value) => p.1 = q.1 ∧ RelV p.2.2 q.2
abbrev PT : List Ent → List (NestedKey × Addr × Value) → Prop := Paired fun (p : Ent) (x : NestedKey × Addr × Value) => p.1 = x.1 ∧ p.2.1 = V.ref x.2.1 ∧ RelV p.2.2 x.2.2
theorem KVp.keys : ∀ {ps : List Ent} {vs : List (NestedKey × Value)}, KVp ps vs → vs.map (·.1) = ps.map (·.1)
  | _, _, .nil => rfl
  | _, _, .cons h r => by rw [List.map_cons, List.map_cons, KVp.keys r, h.1]
theorem KVp.get {n : NestedKey} : ∀ {ps : List Ent} {vs : List (NestedKey × Value)}, KVp ps vs → RelO (pget ps n) (valueAt vs n)
  | _, _, .nil => trivial
  | p :: ps, q :: vs, .cons h r => by
    have ih := KVp.get (n := n) r
    unfold pget valueAt at ih ⊢
    rw [List.find?_cons, List.find?_cons, h.1]
    cases decide (q.1 = n) with
    | true => exact h.2
    | false => exact ih
theorem KVp.put {n : NestedKey} {u : V} {z : V} {w : Value} (rz : RelV z w) {ps : List Ent} {vs : List (NestedKey × Value)} (r : KVp ps vs) : KVp (pput ps n u z) (stored vs n w) := by
  have ha : ∀ {ps : List Ent} {vs : List (NestedKey × Value)}, KVp ps vs → phas ps n = vs.any fun kv => decide (kv.1 = n) := by
    intro ps vs r
    induction r with
    | nil => rfl
    | cons h r ih =>
      unfold phas at ih ⊢
      rw [List.any_cons, List.any_cons, ih, h.1]
  have hm : ∀ {ps : List Ent} {vs : List (NestedKey × Value)}, KVp ps vs → KVp (prep ps n z) (vs.map fun kv => if kv.1 = n then (kv.1, w) else kv) := by
    intro ps vs r
    induction r with
    | nil => exact .nil
    | @cons p q ps vs h r ih =>
      refine .cons ?_ ih
      show (if p.1 = n then (p.1, p.2.1, z) else p).1 = (if q.1 = n then (q.1, w) else q).1 ∧ RelV (if p.1 = n then (p.1, p.2.1, z) else p).2.2 (if q.1 = n then (q.1, w) else q).2
      rw [h.1]
      by_cases e : q.1 = n
      · rw [if_pos e, if_pos e]; exact ⟨rfl, rz⟩
      · rw [if_neg e, if_neg e]; exact h
  have happ : ∀ {ps : List Ent} {vs : List (NestedKey × Value)}, KVp ps vs → KVp (ps ++ [(n, u, z)]) (vs ++ [(n, w)]) := by
    intro ps vs r
    induction r with
    | nil => exact .cons ⟨rfl, rz⟩ .nil
    | cons h r ih => exact .cons h ih
  unfold pput stored
  rw [ha r]
  split
  · exact hm r
  · exact happ r
theorem PT.get {n : NestedKey} : ∀ {ps : List Ent} {xs : List (NestedKey × Addr × Value)}, PT ps xs → RelO (pget ps n) ((atKey xs n).map (·.2))
  | _, _, .nil => trivial
  | p :: ps, x :: xs, .cons h r => by
    have ih := PT.get (n := n) r
    unfold pget atKey at ih ⊢
    rw [List.find?_cons, List.find?_cons, h.1]
    cases decide (x.1 = n) with
    | true => exact h.2.2
    | false => exact ih
theorem PT.put {n : NestedKey} {b : Addr} {z : V} {w : Value} (rz : RelV z w) {ps : List Ent} {xs : List (NestedKey × Addr × Value)} (r : PT ps xs) : PT (pput ps n (.ref b) z) (storedH xs n b w) := by
  have ha : ∀ {ps : List Ent} {xs : List (NestedKey × Addr × Value)}, PT ps xs → phas ps n = (atKey xs n).isSome := by
    intro ps vs r
    induction r with
    | nil => rfl
    | @cons p x ps xs h r ih =>
      unfold phas atKey at ih ⊢
      rw [List.any_cons, List.find?_cons, h.1]
      cases decide (x.1 = n) with
      | true => rfl
      | false => rw [Bool.false_or]; exact ih
  have hm : ∀ {ps : List Ent} {xs : List (NestedKey × Addr × Value)}, PT ps xs → PT (prep ps n z) (xs.map (putAt n w)) := by
    intro ps vs r
    induction r with
    | nil => exact .nil
    | @cons p x ps xs h r ih =>
      refine .cons ?_ ih
      show (if p.1 = n then (p.1, p.2.1, z) else p).1 = (if x.1 = n then (x.1, x.2.1, w) else x).1 ∧ (if p.1 = n then (p.1, p.2.1, z) else p).2.1 = V.ref (if x.1 = n then (x.1, x.2.1, w) else x).2.1 ∧ RelV (if p.1 = n then (p.1, p.2.1, z) else p).2.2 (if x.1 = n then (x.1, x.2.1, w) else x).2.2
      rw [h.1]
      by_cases e : x.1 = n
      · rw [if_pos e, if_pos e]; exact ⟨rfl, h.2.1, rz⟩
      · rw [if_neg e, if_neg e]; exact h
  have happ : ∀ {ps : List Ent} {xs : List (NestedKey × Addr × Value)}, PT ps xs → PT (ps ++ [(n, .ref b, z)]) (xs ++ [(n, b, w)]) := by
    intro ps vs r
    induction r with
    | nil => exact .cons ⟨rfl, rfl, rz⟩ .nil
    | cons h r ih => exact .cons h ih
  unfold pput storedH
  rw [ha r]
  split
  · exact hm r
  · exact happ r

/-- the dict's object opened -/
structure Opn (X : Cx) (s : Shared) (a : Addr) (ps : List Ent) (o : Obj) (es : Array DictEntry) (ep : Nat) : Prop where
  at_ : s.heap.get? a = some o
  ex : o.ExactDict
  data : o.data = .dict es ep
  es : EsR (hs X.w ps) es.toList
  len : ps.length ≤ sizeLine
  sys : (a == sysModules) = false
theorem dx_open (I : Inv X pins σ H s) {ps : List Ent} (h : Rd H a (DX a (hs X.w ps))) : ∃ o es ep, Opn X s a ps o es ep := by
  obtain ⟨⟨es, ep, ⟨o, h1, h2, h3⟩, h4, h5, h6⟩, _⟩ := h.ok I.hok
  exact ⟨o, es, ep, h1, h2, h3, h4, by unfold hs at h5; rwa [List.length_map] at h5, h6⟩
theorem dx_new {P : Program} {w : World} {H' : Hp} {h' : Heap} {ps : List Ent} {o : Obj} {es : Array DictEntry} {ep : Nat} (h1 : h'.get? a = some o) (h2 : o.ExactDict) (h3 : o.data = .dict es ep) (h4 : EsR (hs w ps) es.toList) (h5 : ps.length ≤ sizeLine) (h6 : (a == sysModules) = false) : ObjOk P w H' h' a (DX a (hs w ps)) := by
  refine ⟨⟨es, ep, ⟨o, h1, h2, h3⟩, h4, by unfold hs; rw [List.length_map]; exact h5, h6⟩, ⟨o, h1⟩, fun h1' h2' ⟨es, ep, ⟨o, k1, k2⟩, k3⟩ k => ⟨es, ep, ⟨o, k o k1, k2⟩, k3⟩⟩
/-- whole numbers as keys -/
theorem num_of {w : World} {K : PySem.W.Frag} {P : Program} : ∀ {ps : List Ent} {kvs : List (PyData × PyData)} {F : List Addr} {es : List DictEntry}, RpD w K H ps kvs F → allI kvs = true → EsR (hs w ps) es →
    ∃ vs, KVp ps vs ∧ Pairs (numKind P w) es vs ∧ (∀ e ∈ es, ∃ k, (numKind P w).is k e.key = true ∧ e.hash = (numKind P w).hash k) ∧ ∀ p ∈ ps, ∃ i, p.1 = .num i ∧ p.2.1 = .int i
  | _, _, _, _, .nil, _, .nil => ⟨[], .nil, .nil, (fun _ h => nomatch h), fun _ h => nomatch h⟩
  | _, _, _, _, .cons (k := k) (v := v) e hk hv r, hi, .cons (b := b) he res => by
    unfold allI at hi
    rw [Bool.and_eq_true] at hi
    obtain ⟨vs, h1, h2, h3, h4⟩ := num_of (P := P) r hi.2 res
    obtain ⟨i, rfl, rfl⟩ := isI_of hi.1 hk
    subst e
    obtain ⟨e1, e2, e3⟩ := he
    obtain ⟨t, e2⟩ := e2
    have his : (numKind P w).is (.num i) b.key = true := by
      rw [e2]
      show Value.isInt i (.int i t) = true
      exact intKind_is P w i t
    refine ⟨(.num i, b.val) :: vs, .cons ⟨rfl, e3⟩ h1, .cons his rfl h2, fun x hx => ?_, fun p hp => ?_⟩
    · rcases List.mem_cons.mp hx with rfl | hx
      · exact ⟨.num i, his, e1⟩
      · exact h3 x hx
    · rcases List.mem_cons.mp hp with rfl | hp
      · exact ⟨i, rfl, rfl⟩
      · exact h4 p hp
theorem Opn.num {ps : List Ent} {kvs : List (PyData × PyData)} {F : List Addr} {o : Obj} {es : Array DictEntry} {ep : Nat} (op : Opn X s a ps o es ep) (r : RpD X.w X.K H ps kvs F) (nd : (ps.map (·.1)).Nodup) (hi : allI kvs = true) :
    ∃ vs, KVp ps vs ∧ s.heap.DictOf (numKind X.prog X.w) a vs ∧ ∀ p ∈ ps, ∃ i, p.1 = .num i ∧ p.2.1 = .int i := by
  obtain ⟨vs, h1, h2, h3, h4⟩ := num_of (P := X.prog) r hi op.es
  exact ⟨vs, h1, ⟨o, es, ep, op.at_, op.ex, op.data, fun e he => h3 e (by simpa using he), h2, by rw [h1.keys]; exact nd⟩, h4⟩
theorem num_back {P : Program} {w : World} : ∀ {ps : List Ent} {vs : List (NestedKey × Value)} {es : List DictEntry}, KVp ps vs → Pairs (numKind P w) es vs → (∀ e ∈ es, ∃ k, (numKind P w).is k e.key = true ∧ e.hash = (numKind P w).hash k) → (∀ p ∈ ps, ∃ i, p.1 = .num i ∧ p.2.1 = .int i) → EsR (hs w ps) es
  | _, _, _, .nil, .nil, _, _ => .nil
  | p :: ps, q :: vs, e :: es, .cons h r, .cons h1 h2 r2, h3, h4 => by
    refine .cons ?_ (num_back r r2 (fun x hx => h3 x (List.mem_cons_of_mem _ hx)) fun x hx => h4 x (List.mem_cons_of_mem _ hx))
    obtain ⟨i, e1, e2⟩ := h4 p List.mem_cons_self
    obtain ⟨k, k1, k2⟩ := h3 e List.mem_cons_self
    have hq : q.1 = .num i := by rw [← h.1, e1]
    have ek : k = q.1 := (numKind P w).inj e.key k q.1 k1 h1
    rw [hq] at h1 ek
    obtain ⟨t, ht⟩ := Value.isInt_shape (show Value.isInt i e.key = true from h1)
    refine ⟨?_, ?_, by rw [h2]; exact h.2⟩
    · show e.hash = p.1.hash w
      rw [k2, ek, e1]; rfl
    show RelV p.2.1 e.key
    rw [e2, ht]
    exact ⟨t, rfl⟩
/-- tuples as keys -/
theorem tup_of (I : Inv X pins σ H s) : ∀ {ps : List Ent} {kvs : List (PyData × PyData)} {F : List Addr} {es : List DictEntry}, RpD X.w X.K H ps kvs F → allK kvs = true → EsR (hs X.w ps) es →
    ∃ xs, PT ps xs ∧ es = xs.map (entryOfKey (nestedKind X.prog X.w)) ∧ ∀ x ∈ xs, (nestedKind X.prog X.w).is s.heap x.1 x.2.1
  | _, _, _, _, .nil, _, .nil => ⟨[], .nil, rfl, fun _ h => nomatch h⟩
  | _, _, _, _, .cons (k := k) (v := v) e hk hv r, hi, .cons (b := b) he res => by
    unfold allK at hi
    rw [Bool.and_eq_true] at hi
    obtain ⟨xs, h1, h2, h3⟩ := tup_of I r hi.2 res
    obtain ⟨c, rfl, him, hdp⟩ := isK_of hi.1 hk
    subst e
    obtain ⟨e1, e2, e3⟩ := he
    have e2 : b.key = .ref c := e2
    refine ⟨(keyN k, c, b.val) :: xs, .cons ⟨rfl, rfl, e3⟩ h1, ?_, fun x hx => ?_⟩
    · rw [List.map_cons, h2]
      congr 1
      obtain ⟨bh, bk, bv⟩ := b
      have e1 : bh = (keyN k).hash X.w := e1
      have e2 : bk = .ref c := e2
      rw [e1, e2]
      rfl
    · rcases List.mem_cons.mp hx with rfl | hx
      · exact ⟨hk.nested I him rfl, hdp⟩
      · exact h3 x hx
theorem PT.keys : ∀ {ps : List Ent} {xs : List (NestedKey × Addr × Value)}, PT ps xs → xs.map (·.1) = ps.map (·.1)
  | _, _, .nil => rfl
  | _, _, .cons h r => by rw [List.map_cons, List.map_cons, PT.keys r, h.1]
theorem Opn.tup {ps : List Ent} {kvs : List (PyData × PyData)} {F : List Addr} {o : Obj} {es : Array DictEntry} {ep : Nat} (I : Inv X pins σ H s) (op : Opn X s a ps o es ep) (r : RpD X.w X.K H ps kvs F) (nd : (ps.map (·.1)).Nodup) (hi : allK kvs = true) :
    ∃ xs, PT ps xs ∧ s.heap.DictOfH (nestedKind X.prog X.w) a xs := by
  obtain ⟨xs, h1, h2, h3⟩ := tup_of I r hi op.es
  exact ⟨xs, h1, o, es, ep, op.at_, op.ex, op.data, h2, h3, by rw [h1.keys]; exact nd⟩
theorem tup_back {P : Program} {w : World} : ∀ {ps : List Ent} {xs : List (NestedKey × Addr × Value)}, PT ps xs → EsR (hs w ps) (xs.map (entryOfKey (nestedKind P w)))
  | _, _, .nil => .nil
  | p :: ps, x :: xs, .cons h r => by
    refine .cons ⟨?_, ?_, h.2.2⟩ (tup_back r)
    · show (nestedKind P w).hash x.1 = p.1.hash w
      rw [h.1]; rfl
    · show RelV p.2.1 (Value.ref x.2.1)
      rw [h.2.1]
      rfl
/-- d[k], there -/
theorem dx_get (hu : A.units + 10 < cLine) (I : Inv X pins σ H s) {ps : List Ent} {kvs : List (PyData × PyData)} {F : List Addr} {k : PyData} {kv : V} {ku : Value} {z : V} {Q : Value → Shared → Prop} (h : Rd H a (DX a (hs X.w ps))) (r : RpD X.w X.K H ps kvs F) (nd : (ps.map (·.1)).Nodup)
    (rk : Rp X.w X.K H kv k []) (ru : RelV kv ku) (kb : kindB kvs k = true) (hz : pget ps (keyN k) = some z) (q : ∀ u t, RelV z u → Q u { s with toks := t }) : wpAny (model X.prog X.w) A (getItem (.ref a) ku) Q E s := by
  obtain ⟨o, es, ep, op⟩ := dx_open I h
  unfold kindB at kb
  rw [Bool.or_eq_true, Bool.and_eq_true, Bool.and_eq_true] at kb
  rcases kb with ⟨k1, k2⟩ | ⟨k1, k2⟩
  · obtain ⟨vs, h1, h2, _⟩ := op.num r nd k2
    obtain ⟨i, rfl, rfl⟩ := isI_of k1 rk
    obtain ⟨t, rfl⟩ := ru
    have ro : RelO (some z) (valueAt vs (keyN (.int i))) := by rw [← hz]; exact h1.get
    obtain ⟨u, e, rz⟩ := ro.some_of
    exact wpAny_getItem_of (knd := numKind X.prog X.w) (k := .num i) (intKind_is X.prog X.w i t) h2.mapOf e (q u _ rz)
  · obtain ⟨xs, h1, h2⟩ := op.tup I r nd k2
    obtain ⟨b, rfl, him, hdp⟩ := isK_of k1 rk
    cases (show ku = Value.ref b from ru)
    have ro : RelO (some z) ((atKey xs (keyN k)).map (·.2)) := by rw [← hz]; exact h1.get
    obtain ⟨u, e, rz⟩ := ro.some_of
    obtain ⟨p, hp, rfl⟩ := Option.map_eq_some_iff.mp e
    exact wpAny_getItem_heap (knd := nestedKind X.prog X.w) (k := keyN k) (show A.in1.units + 8 < cLine by show A.units + 1 + 8 < cLine; omega) ⟨rk.nested I him rfl, hdp⟩ h2 hp (q _ _ rz)
end
end G

set_option Elab.async false
set_option linter.all false
set_option maxRecDepth 100000
/-! G19: dicts: in, len, list, [], {}, stores. -/
namespace G
open PySem PySem.Spec PyProof.Rows L2
section
variable {X : Cx} {pins : List (Addr × Obj)} {σ : L2.St} {H : Hp} {s : Shared} {a : Addr} {A : Around} {E : Value → Shared → Prop}
theorem pget_some {ps : List Ent} {n : NestedKey} : (pget ps n).isSome = phas ps n := by
  cases h : pget ps n with
  | none => rw [pget_none.mp h]; rfl
  | some z =>
    cases h2 : phas ps n with
    | true => rfl
    | false => rw [pget_none.mpr h2] at h; cases h
theorem roSome : ∀ {o : Option V} {u : Option Value}, RelO o u → o.isSome = u.isSome
  | some _, some _, _ => rfl
  | none, none, _ => rfl
/-- the two kinds -/
theorem kind_cases {kvs : List (PyData × PyData)} {k : PyData} (h : kindB kvs k = true) : (isI k = true ∧ allI kvs = true) ∨ (isK k = true ∧ allK kvs = true) := by
  unfold kindB at h
  rw [Bool.or_eq_true, Bool.and_eq_true, Bool.and_eq_true] at h
  exact h
def inOp : Bool → CmpOp
  | true => .NotIn
  | false => .In
theorem dx_in (neg : Bool) (hu : A.units + 10 < cLine) (I : Inv X pins σ H s) {ps : List Ent} {kvs : List (PyData × PyData)} {F : List Addr} {k : PyData} {kv : V} {ku : Value} {Q : Value → Shared → Prop} (h : Rd H a (DX a (hs X.w ps))) (r : RpD X.w X.K H ps kvs F) (nd : (ps.map (·.1)).Nodup)
    (rk : Rp X.w X.K H kv k []) (ru : RelV kv ku) (kb : kindB kvs k = true) (q : ∀ t, Q (.bool (xor neg (dhas kvs k))) { s with toks := t }) : wpAny (model X.prog X.w) A (compareOp (inOp neg) ku (.ref a)) Q E s := by
  obtain ⟨o, es, ep, op⟩ := dx_open I h
  have hA : A.in1.units + 8 < cLine := by show A.units + 1 + 8 < cLine; omega
  rcases kind_cases kb with ⟨k1, k2⟩ | ⟨k1, k2⟩
  · obtain ⟨vs, h1, h2, _⟩ := op.num r nd k2
    obtain ⟨i, rfl, rfl⟩ := isI_of k1 rk
    obtain ⟨t, rfl⟩ := ru
    have e : dhas kvs (.int i) = (valueAt vs (.num i)).isSome := by
      rw [r.has, ← pget_some]
      exact roSome (h1.get (n := .num i))
    rw [e] at q
    cases neg with
    | false => exact wpAny_in_of (knd := numKind X.prog X.w) (k := .num i) (intKind_is X.prog X.w i t) op.sys h2.mapOf (by simpa using q _)
    | true => exact wpAny_notIn_of (knd := numKind X.prog X.w) (k := .num i) (intKind_is X.prog X.w i t) op.sys h2.mapOf (by simpa using q _)
  · obtain ⟨xs, h1, h2⟩ := op.tup I r nd k2
    obtain ⟨b, rfl, him, hdp⟩ := isK_of k1 rk
    cases (show ku = Value.ref b from ru)
    have e : dhas kvs k = (atKey xs (keyN k)).isSome := by
      rw [r.has, ← pget_some, roSome (h1.get (n := keyN k)), Option.isSome_map]
    rw [e] at q
    cases neg with
    | false => exact wpAny_in_heap (knd := nestedKind X.prog X.w) (k := keyN k) hA ⟨rk.nested I him rfl, hdp⟩ op.sys h2 (by simpa using q _)
    | true => exact wpAny_notIn_heap (knd := nestedKind X.prog X.w) (k := keyN k) hA ⟨rk.nested I him rfl, hdp⟩ op.sys h2 (by simpa using q _)
/-- d[k] = v -/
theorem dx_set (hu : A.units + 10 < cLine) (I : Inv X pins σ H s) {ps : List Ent} {kvs : List (PyData × PyData)} {F : List Addr} {k : PyData} {kv z : V} {ku zu : Value} {Q : Unit → Shared → Prop} (h : H a = some (DX a (hs X.w ps))) (r : RpD X.w X.K H ps kvs F) (nd : (ps.map (·.1)).Nodup)
    (rk : Rp X.w X.K H kv k []) (ru : RelV kv ku) (rz : RelV z zu) (kb : kindB kvs k = true) (hl : ps.length < sizeLine) (q : ∀ s', Inv X pins σ (upd H a (DX a (hs X.w (pput ps (keyN k) kv z)))) s' → Q () s') : wpAny (model X.prog X.w) A (setItem (.ref a) ku zu) Q E s := by
  obtain ⟨o, es, ep, op⟩ := dx_open I (.inl h)
  have hA : A.in1.units + 8 < cLine := by show A.units + 1 + 8 < cLine; omega
  have hl2 : (pput ps (keyN k) kv z).length ≤ sizeLine := Nat.le_trans (pput_len ps (keyN k) kv z) hl
  have mu : Mut (H a) := by rw [h]; exact True.intro
  have wr : ∀ {h' : Heap} {t' : Nat} {o' : Obj} {es' : Array DictEntry} {ep' : Nat}, Heap.SameBut a s.heap h' → h'.get? a = some o' → o'.ExactDict → o'.data = .dict es' ep' → EsR (hs X.w (pput ps (keyN k) kv z)) es'.toList → Q () { s with heap := h', toks := t' } :=
    fun {h' t' o' es' ep'} sb h1 h2 h3 h4 => q _ (I.write (x := a) (e := a) (t' := t') mu (.inl rfl) (fun b u hb e => (sb.2 b hb).trans e) ⟨o', h1⟩ (dx_new h1 h2 h3 h4 hl2 op.sys))
  rcases kind_cases kb with ⟨k1, k2⟩ | ⟨k1, k2⟩
  · obtain ⟨vs, h1, h2, h4⟩ := op.num r nd k2
    obtain ⟨i, rfl, rfl⟩ := isI_of k1 rk
    obtain ⟨t, rfl⟩ := ru
    have hz : vs.length ≤ sizeLine := by rw [← Paired.length h1]; exact Nat.le_of_lt hl
    refine wpAny_setItem_pairs (hsz := hz) (knd := numKind X.prog X.w) (k := .num i) (intKind_is X.prog X.w i t) h2 fun h' dd' sb => ?_
    obtain ⟨o', es', ep', g1, g2, g3, g4, g5, _⟩ := dd'
    refine wr sb g1 g2 g3 (num_back (P := X.prog) (h1.put (n := .num i) (u := .int i) rz) g5 (fun e he => g4 e (by simpa using he)) fun p hp => ?_)
    have hp : p ∈ pput ps (.num i) (.int i) z := hp
    unfold pput prep at hp
    split at hp
    · obtain ⟨p0, hp0, e⟩ := List.mem_map.mp hp
      obtain ⟨j, e1, e2⟩ := h4 p0 hp0
      refine ⟨j, ?_, ?_⟩ <;> (rw [← e]; split <;> assumption)
    · rcases List.mem_append.mp hp with hp | hp
      · exact h4 p hp
      · rw [List.mem_singleton.mp hp]
        exact ⟨i, rfl, rfl⟩
  · obtain ⟨xs, h1, h2⟩ := op.tup I r nd k2
    obtain ⟨b, rfl, him, hdp⟩ := isK_of k1 rk
    cases (show ku = Value.ref b from ru)
    have hz : xs.length ≤ sizeLine := by rw [← Paired.length h1]; exact Nat.le_of_lt hl
    refine wpAny_setItem_heap (hsz := hz) (knd := nestedKind X.prog X.w) (k := keyN k) hA ⟨rk.nested I him rfl, hdp⟩ h2 fun h' dd' sb => ?_
    obtain ⟨o', es', ep', g1, g2, g3, g4, _⟩ := dd'
    exact wr sb g1 g2 g3 (by rw [g4]; exact tup_back (h1.put rz))
theorem Opn.size {ps : List Ent} {o : Obj} {es : Array DictEntry} {ep : Nat} (op : Opn X s a ps o es ep) : es.size = ps.length := by
  have := Paired.length op.es
  unfold hs at this
  rw [List.length_map, Array.length_toList] at this
  exact this.symm
theorem esr_get {w : World} : ∀ {ps : List Ent} {es : List DictEntry} {i : Nat} {e : DictEntry}, EsR (hs w ps) es → es[i]? = some e → ∃ p, ps[i]? = some p ∧ RelV p.2.1 e.key ∧ RelV p.2.2 e.val
  | [], _, i, e, .nil, h => by simp at h
  | p :: ps, _ :: es, 0, e, .cons h1 r, h => by
    cases h
    exact ⟨p, rfl, h1.2.1, h1.2.2⟩
  | p :: ps, _ :: es, i + 1, e, .cons h1 r, h => by
    obtain ⟨q, h2, h3⟩ := esr_get (ps := ps) r (show es[i]? = some e from h)
    exact ⟨q, h2, h3⟩
end
theorem vals_at : ∀ {xs : List V} {us : List Value}, xs.length = us.length → (∀ (j : Nat) (x : V) (u : Value), xs[j]? = some x → us[j]? = some u → RelV x u) → Vals xs us := vals_of_at
/-- list(d): the keys -/
theorem call_listDX {X : Cx} (hc : X.calm = true) : CallR X (.type "list") fun xs H Q => ∃ a ps, xs = [.ref a] ∧ Rd H a (DX a (hs X.w ps)) ∧ ∀ l, H l = none → Q (.ref l) (upd H l (.lst (ps.map fun p => p.2.1))) := by
  rintro pins s σ H xs us Q I r ⟨a, ps, rfl, h, q⟩
  obtain ⟨u, rfl, ru⟩ := vals1 r
  cases ru
  obtain ⟨o, es, ep, op⟩ := dx_open I h
  refine PySem.W.kdl_call (kdl_raw op.sys op.ex op.data) (I.ok.hd hc) op.at_ (by rw [op.size]; exact op.len) fun h' tk acc c kp e it => ?_
  refine ⟨.ref s.heap.objs.size, _, I.laid (t' := tk) (o := .lst (ps.map fun p => p.2.1)) kp (Nat.le_refl _) ⟨by rw [List.length_map]; exact op.len, acc.toList, c, ?_, by rw [Array.toArray_toList]; exact e⟩, rfl, q _ I.fresh⟩
  refine vals_at (by rw [List.length_map, ← op.size, ← it.1, Array.length_toList]) fun j x u h1 h2 => ?_
  obtain ⟨en, hen, rfl⟩ := it.2 j u (by rw [← Array.getElem?_toList]; exact h2)
  obtain ⟨p, hp, hk, _⟩ := esr_get op.es (by rw [Array.getElem?_toList]; exact hen)
  rw [List.getElem?_map, hp] at h1
  cases h1
  exact hk
section
variable {Y : Dyn} {R : Rw} {P : Addr → Prop} {H H1 H' : Hp} {uq : Bool} {Q : VK} {x y : W} {v : V} {F : List Addr} {c : Sc} {e e1 e2 e3 tg : Expr} {pos : Pos} {en : En} {σ : L2.St} {Fs : Nat → List Addr} {D : Ends}
/-- {} -/
theorem dx_empty {P : Program} {w : World} {H : Hp} (h : Heap) (hb : sysModules < h.objs.size) : ObjOk P w H (h.push { cls := .type "dict", data := .dict #[] }) h.objs.size (DX h.objs.size (hs w [])) :=
  dx_new (Heap.get?_push_size _ rfl) ⟨rfl, rfl, rfl⟩ rfl .nil (Nat.zero_le _) (beq_eq_false_iff_ne.mpr (Ne.symm (Nat.ne_of_lt hb)))
theorem pe_dict0 {X : Cx} : PE X (.Dict [] [] pos) (fun _ H Q => ∀ p, H p = none → Q (.ref p) (upd H p (DX p (hs X.w [])))) := ⟨fun pins s σ H Q I h =>
  wpAny_Dict_empty ⟨.ref s.heap.objs.size, _, I.laid (o := DX s.heap.objs.size (hs X.w [])) (t' := s.toks) (fun _ _ q => Heap.get?_push_of_some _ q) (Nat.le_refl _) (dx_empty s.heap I.big), rfl, h _ I.fresh⟩⟩
theorem newD {p : Addr} {ps : List Ent} {kvs : List (PyData × PyData)} (ri : RowI R Y.K H) (k : Kv Y R H uq Q (.d (.dict kvs))) (hp : H p = none) (r : RpD Y.w Y.K H ps kvs F) (nd : (ps.map (·.1)).Nodup) (aw : Away R F) (u : uq = true → Uniq H F) : Q (.ref p) (upd H p (DX p (hs Y.w ps))) := by
  have l : Le R Y.K H (upd H p (DX p (hs Y.w ps))) := Le.new hp
  refine k _ _ (p :: F) l (.dct upd_same (RpD.le l ri r aw) nd) (Away.cons (ri.away hp) aw) fun h => ⟨List.nodup_cons.mpr ⟨fun z => ?_, (u h).1⟩, fun a ha => ?_⟩
  · obtain ⟨o, e⟩ := r.tracked p z
    rw [hp] at e; cases e
  · rcases List.mem_cons.mp ha with rfl | ha
    · exact hp
    · exact (u h).2 a ha
theorem se_dict0 : SE c (.Dict [] [] pos) (mC (.dict [])) true := by
  intro Y X sx dy
  refine ⟨_, pe_dict0, fun R en σ H Q rel k p hp => ?_⟩
  rw [sx.w]
  exact newD rel.ri k hp .nil List.nodup_nil Away.nil fun _ => Uniq.nil
/-- x[k], of dicts too -/
def oGet : W → W → T W
  | .d (.dict kvs), .d k => T.must (kindB kvs k && imm k) (T.ofO ((dget kvs k).map W.d))
  | x, y => oIdx x y
def rDX (X : Cx) : R2 := fun x y H Q => ∃ a ps kvs F k z, x = .ref a ∧ Rd H a (DX a (hs X.w ps)) ∧ RpD X.w X.K H ps kvs F ∧ (ps.map (·.1)).Nodup ∧ Rp X.w X.K H y k [] ∧ kindB kvs k = true ∧ pget ps (keyN k) = some z ∧ Q z H
theorem ix_dx {X : Cx} (hu : X.A.units + 64 < cLine) : IxR X (rDX X) := by
  rintro value slice pins s σ H x y v u Q I rx ry ⟨a, ps, kvs, F, k, z, rfl, h, r, nd, rk, kb, hz, q⟩ hs'
  cases rx
  obtain ⟨o, es, ep, op⟩ := dx_open I h
  have hT : s.TypeIs (.ref a) "dict" := ⟨o, op.at_, op.ex.1⟩
  refine tail_any (ops := [.ref a, u]) hT PySem.F.slot_dict_getitem.lookup ?_ hs'
  exact dx_get (by omega) I h r nd rk ry kb hz fun w t rz => ⟨z, H, I.tok t, rz, q⟩
theorem se_get {ma mb : En → T W} {u1 u2 : Bool} (ha : SE c e1 ma u1) (hb : SE c e2 mb u2) (hs' : PlainIx e2) : SE c (.Subscript e1 e2 pos) (m2 oGet ma mb) false := by
  intro Y X sx dy
  obtain ⟨ta, pa, sa⟩ := ha Y X sx dy
  obtain ⟨tb, pb, sb⟩ := hb Y X sx dy
  refine ⟨_, pe_ix ((ix_list.or ix_tup).or (ix_dx (sx_units sx))) pa pb hs', fun R en σ H Q rel k => sa R en σ H _ rel ?_⟩
  refine T.wp_mono ((T.wp_bind _ _ _).mp k) fun x kx => ?_
  intro v H1 F l1 r1 aw1 _
  refine sb R en σ H1 _ (rel.le l1) ?_
  refine T.wp_mono ((T.wp_bind _ _ _).mp kx) fun y ky => ?_
  intro u H2 F' l2 r2 aw2 _
  have r1 := r1.le l2 (l1.row rel.ri) aw1
  have l12 := l1.trans l2
  unfold oGet at ky
  split at ky
  · obtain ⟨hb, ky⟩ := T.wp_must ky
    rw [Bool.and_eq_true] at hb
    obtain ⟨z, hz, kz⟩ := T.wp_ofO ky
    obtain ⟨d, hd, rfl⟩ := Option.map_eq_some_iff.mp hz
    have e := Rp.imm r2 hb.2
    subst e
    cases r1 with
    | @dct _ _ _ Fd h r nd =>
      obtain ⟨z, Fz, h1, h2, h3⟩ := r.get hd
      refine .inr ⟨_, _, _, Fd, _, z, rfl, ?_, ?_, nd, ?_, hb.1, h1, kz z H2 Fz l12 h2 (away_sub aw1.tail h3) fun q => nomatch q⟩
      · rw [sx.w]; exact .inl h
      · rw [sx.w, sx.K]; exact r
      · rw [sx.w, sx.K]; exact r2
  · refine .inl ?_
    unfold oIdx at ky
    split at ky
    · obtain ⟨z, hz, kz⟩ := T.wp_ofO ky
      obtain ⟨d, hd, rfl⟩ := Option.map_eq_some_iff.mp hz
      cases r2
      cases r1 with
      | lst ha ra =>
        obtain ⟨vz, Fz, h1, h2, h3⟩ := ra.atI hd
        exact .inl ⟨_, _, _, _, rfl, rfl, SqL.of ha, h1, kz vz H2 Fz l12 h2 (away_sub aw1.tail h3) fun z => nomatch z⟩
    · obtain ⟨z, hz, kz⟩ := T.wp_ofO ky
      obtain ⟨d, hd, rfl⟩ := Option.map_eq_some_iff.mp hz
      cases r2
      cases r1 with
      | tup ha ra =>
        obtain ⟨vz, Fz, h1, h2, h3⟩ := ra.atI hd
        rw [sx.K]
        exact .inr ⟨_, _, _, _, rfl, rfl, ha, h1, kz vz H2 Fz l12 h2 (away_sub aw1 h3) fun z => nomatch z⟩
    · exact ky.elim
/-- in, of dicts too -/
def oInX (neg : Bool) : W → W → T W
  | .d k, .d (.dict kvs) => T.must (kindB kvs k && imm k) (.ret (.d (.bool (xor neg (dhas kvs k)))))
  | x, y => oIn neg x y
def rInD (X : Cx) (neg : Bool) : R2 := fun y x H Q => ∃ a ps kvs F k, x = .ref a ∧ Rd H a (DX a (hs X.w ps)) ∧ RpD X.w X.K H ps kvs F ∧ (ps.map (·.1)).Nodup ∧ Rp X.w X.K H y k [] ∧ kindB kvs k = true ∧ Q (.bl (xor neg (dhas kvs k))) H
theorem opr_inD {X : Cx} (neg : Bool) (hu : X.A.units + 64 < cLine) : OpR X (compareOp (inOp neg)) (rInD X neg) := by
  rintro pins s σ H x y v u Q I rx ry ⟨a, ps, kvs, F, k, rfl, h, r, nd, rk, kb, q⟩
  cases ry
  have hu' : X.A.units + 10 < cLine := by omega
  exact dx_in neg hu' I h r nd rk rx kb fun t => ⟨.bl _, H, I.tok t, rfl, q⟩
theorem inX_give {neg : Bool} {X : Cx} {u : V} {F' : List Addr} (sx : Sx c Y X) (rx : RpW Y R H v x F) (ry : RpW Y R H u y F') (k : (oInX neg x y).wp (Kv Y R H true Q)) : rInP X.K neg v u H Q ∨ rInD X neg v u H Q := by
  unfold oInX at k
  split at k
  · obtain ⟨hb, k⟩ := T.wp_must k
    rw [Bool.and_eq_true] at hb
    have e := Rp.imm rx hb.2
    subst e
    cases ry with
    | @dct _ _ _ Fd h r nd => exact .inr ⟨_, _, _, Fd, _, rfl, by rw [sx.w]; exact .inl h, by rw [sx.w, sx.K]; exact r, nd, by rw [sx.w, sx.K]; exact rx, hb.1, Kv.here k (.bl _)⟩
  · exact .inl (in_give sx.K.symm rx ry k)
theorem ok_inX : OpOk c (compareOp .In) (oInX false) true := fun Y X sx => ⟨_, OpR.or (opr_in (sx_units sx)) (opr_inD false (sx_units sx)), fun R H v u x y F F' Q ri rx ax ry ay k => inX_give sx rx ry k⟩
theorem ok_notInX : OpOk c (compareOp .NotIn) (oInX true) true := fun Y X sx => ⟨_, OpR.or (opr_notIn (sx_units sx)) (opr_inD true (sx_units sx)), fun R H v u x y F F' Q ri rx ax ry ay k => inX_give sx rx ry k⟩
/-- list(x), of dicts too -/
def keysOf : List (PyData × PyData) → List PyData
  | [] => []
  | (k, _) :: r => k :: keysOf r
theorem RpD.keysR {w : World} {K : PySem.W.Frag} : ∀ {ps : List Ent} {kvs : List (PyData × PyData)} {F : List Addr}, RpD w K H ps kvs F → RpA w K H (ps.map fun p => p.2.1) (keysOf kvs) []
  | _, _, _, .nil => .nil
  | _, _, _, .cons _ hk _ r => .cons (F := []) hk (RpD.keysR r)
def oListX : W → T W
  | .d (.dict kvs) => .ret (.d (.list (keysOf kvs)))
  | x => oList x
theorem ok_listX : CallOk c (.type "list") (o1 oListX) true := call_one fun Y X sx => by
  refine ⟨_, CallR.or call_list_of (call_listDX sx.calm), fun R H v x F Q ri rx aw k => ?_⟩
  unfold oListX at k
  split at k
  · cases rx with
    | dct h r nd => exact .inr ⟨_, _, rfl, by rw [sx.w]; exact .inl h, fun p hp => newL ri k hp r.keysR⟩
  · unfold oList at k
    split at k
    · obtain ⟨hb, k⟩ := T.wp_must k
      cases rx with
      | lst h r => exact .inl ⟨_, _, rfl, .inl (SqL.of h), fun p hp => newL ri k hp (r.imm0 hb)⟩
    · obtain ⟨hb, k⟩ := T.wp_must k
      cases rx with
      | tup h r => exact .inl ⟨_, _, rfl, .inr (by rw [sx.K]; exact h), fun p hp => newL ri k hp (r.imm0 hb)⟩
    · exact k.elim

/-! ### stores -/
def rSetX (X : Cx) : V → V → V → Hp → (Hp → Prop) → Prop := fun o i v H Q => ∃ a ps kvs F k, o = .ref a ∧ H a = some (DX a (hs X.w ps)) ∧ RpD X.w X.K H ps kvs F ∧ (ps.map (·.1)).Nodup ∧ Rp X.w X.K H i k [] ∧ kindB kvs k = true ∧ ps.length < sizeLine ∧ Q (upd H a (DX a (hs X.w (pput ps (keyN k) i v))))
theorem set_dx {X : Cx} (hu : X.A.units + 64 < cLine) : PSet X (rSetX X) := by
  rintro pins s σ H o i v ov iv u Q I ro ri rv ⟨a, ps, kvs, F, k, rfl, h, r, nd, rk, kb, hl, q⟩
  cases ro
  exact dx_set (by omega) I h r nd rk ri rv kb hl fun s' I' => ⟨_, I', q⟩
theorem PSet.or {X : Cx} {r r' : TSet} (h : PSet X r) (h' : PSet X r') : PSet X (fun o i v H Q => r o i v H Q ∨ r' o i v H Q) := by
  intro pins s σ H o i v ov iv u Q I ro ri rv q
  rcases q with q | q
  · exact h pins s σ H o i v ov iv u Q I ro ri rv q
  · exact h' pins s σ H o i v ov iv u Q I ro ri rv q
end
end G

set_option Elab.async false
set_option linter.all false
set_option maxRecDepth 100000
/-! G20: stores into lists and dicts that a def owns, one or two deep. -/
namespace G
open PySem PySem.Spec PyProof.Rows L2
section
variable {Y : Dyn} {R : Rw} {P : Addr → Prop} {H H1 H' : Hp} {uq : Bool} {Q : VK} {x y : W} {v : V} {F : List Addr} {c : Sc} {e e1 e2 e3 tg : Expr} {pos : Pos} {en : En} {σ : L2.St} {Fs : Nat → List Addr} {D : Ends}
abbrev Chg (H : Hp) (p : Addr) : Prop := (∃ xs, H p = some (.lst xs)) ∨ ∃ ps, H p = some (DX p ps)
theorem RelF.mutG (r : RelF Y R P H en σ Fs) {i : Nat} {s : Slot} {p : Addr} {o : HO} {x' : W} {F' : List Addr} (hi : en[i]? = some (some s)) (h0 : s.fl = 0) (hv : σ[i]? = some (some v)) (hp : Chg H p) (hF : p ∈ Fs i)
    (hnew : RpW Y R (upd H p o) v x' F') (aw : Away R F') (nd : F'.Nodup) (nP : ∀ a ∈ F', ¬ P a) (dis : ∀ (j : Nat) (t : Slot), j ≠ i → en[j]? = some (some t) → ∀ a ∈ F', a ∉ Fs j) :
    RelS Y R P (upd H p o) (en.set i (some ⟨0, x'⟩)) σ ∧ LeP R Y.K P H (upd H p o) := by
  obtain ⟨g1, g2, g3⟩ := r.own i s hi h0
  obtain ⟨_, awi⟩ := r.at_ i s hi
  have hR : R.row ≠ some p := (awi p hF).1
  have hpP : ¬ P p := g2 p hF
  have nt : ∀ {a : Addr} {u : HO}, H a = some u → (∀ xs, u ≠ .lst xs) → (∀ ps, u ≠ DX p ps) → a ≠ p := fun {a u} h h1 h2 e => by
    subst e
    rcases hp with ⟨xs, hp⟩ | ⟨ps, hp⟩ <;> rw [h] at hp
    · exact h1 xs (Option.some.inj hp)
    · exact h2 ps (Option.some.inj hp)
  have lp : LeP R Y.K P H (upd H p o) := by
    refine ⟨fun a u ha _ h => (by rw [upd_ne (fun z => hpP (by rw [← z]; exact ha))]; exact h), fun a xs h => by rw [upd_ne (nt h (fun _ z => by cases z) fun _ z => DX_ne_tup z.symm)]; exact h, fun a ob u h => by rw [upd_ne (nt h (fun _ z => by cases z) fun _ z => DX_ne_frz (b := a) z.symm)]; exact h, fun a u h => ?_, fun h q hq => ?_⟩
    · by_cases e : a = p
      · exact ⟨_, by rw [e]; exact upd_same⟩
      · exact ⟨u, by rw [upd_ne e]; exact h⟩
    · obtain ⟨i1, j1, k1, h1, h2, h3⟩ := h q hq
      refine ⟨i1, j1, k1, by rw [upd_ne (fun z => hR (by rw [← z]; exact hq))]; exact h1, ?_, h3⟩
      rcases r.scr q hq with hs | hs
      · have hne : R.scr ≠ p := fun z => hpP (by rw [← z]; exact hs)
        rcases h2 with (h2 | ⟨ob, h2⟩) | h2
        · exact .inl (.inl (by rw [upd_ne hne]; exact h2))
        · exact .inl (.inr ⟨ob, by rw [upd_ne hne]; exact h2⟩)
        · exact .inr h2
      · exact hs _
  refine ⟨⟨fun j => if j = i then F' else Fs j, lp.row r.ri, fun a h => let ⟨u, e⟩ := r.live a h; lp.there a u e, r.scr, by rw [List.length_set]; exact r.len, fun j t h => ?_, fun j t h hf => ?_⟩, lp⟩
  · rcases get_set h with ⟨rfl, hl, rfl⟩ | ⟨hj, h⟩
    · rw [if_pos rfl]
      exact ⟨⟨_, hv, hnew⟩, aw⟩
    · rw [if_neg hj]
      obtain ⟨⟨u, e1, rv⟩, awj⟩ := r.at_ j t h
      refine ⟨⟨u, e1, ?_⟩, awj⟩
      have np : p ∉ Fs j := g3 j t hj h p hF
      cases t with
      | mk fl x =>
        cases x with
        | d d => exact Rp.mut hp rv np
        | row => exact rv
        | lk kvs =>
          obtain ⟨d, o, ps, h1, h2, h3, h4, h5⟩ := rv
          exact ⟨d, o, ps, h1, h2, by rw [upd_ne (nt h3 (fun _ z => by cases z) fun _ z => DX_ne_frz (b := d) z.symm)]; exact h3, RpD.mut hp h4 np, h5⟩
  · rcases get_set h with ⟨rfl, hl, rfl⟩ | ⟨hj, hjs⟩
    · rw [if_pos rfl]
      refine ⟨nd, nP, fun k u hk hu => ?_⟩
      rw [if_neg hk]
      rcases get_set hu with ⟨z, _⟩ | ⟨_, hu⟩
      · exact absurd z hk
      · exact dis k u hk hu
    · obtain ⟨k1, k2, k3⟩ := r.own j t hjs hf
      rw [if_neg hj]
      refine ⟨k1, k2, fun k u hk hu => ?_⟩
      rcases get_set hu with ⟨ek, _⟩ | ⟨hki, hu⟩
      · rw [if_pos ek]
        exact fun a ha z => dis j t hj hjs a z ha
      · rw [if_neg hki]
        exact k3 k u hk hu
/-- a store into a list or a dict, by values -/
def oPut (x k d : PyData) : Option PyData := match x, k with
  | .list ds, .int i => (ixN ds.length i).map fun j => .list (ds.set j d)
  | .dict kvs, k => match kindB kvs k && imm k && Nat.ble kvs.length 99999 with
    | true => some (.dict (dput kvs k d))
    | false => none
  | _, _ => none
theorem RpD.length {w : World} {K : PySem.W.Frag} : ∀ {ps : List Ent} {kvs : List (PyData × PyData)} {F : List Addr}, RpD w K H ps kvs F → ps.length = kvs.length
  | _, _, _, .nil => rfl
  | _, _, _, .cons _ _ _ r => by rw [List.length_cons, List.length_cons, RpD.length r]
/-- the store is done: p: what is changed, o: what it becomes -/
theorem put_give {X : Cx} (sx : Sx c Y X) {x k d x' : PyData} {vx vk vd : V} {F Fk Fy : List Addr} (hx : Rp Y.w Y.K H vx x F) (hk : Rp Y.w Y.K H vk k Fk) (hd : Rp Y.w Y.K H vd d Fy) (h : oPut x k d = some x') (nd : F.Nodup) (ndy : Fy.Nodup) (dj : ∀ a ∈ Fy, a ∉ F) :
    ∃ p o F', vx = .ref p ∧ p ∈ F ∧ Chg H p ∧ Rp Y.w Y.K (upd H p o) vx x' F' ∧ (∀ a ∈ F', a ∈ F ∨ a ∈ Fy) ∧ F'.Nodup ∧ ∀ Q : Hp → Prop, Q (upd H p o) → rSetL vx vk vd H Q ∨ rSetX X vx vk vd H Q := by
  unfold oPut at h
  split at h
  · obtain ⟨j, hj, rfl⟩ := Option.map_eq_some_iff.mp h
    cases hk
    cases hx with
    | @lst p vs ds F0 hp ra =>
      obtain ⟨F', h1, h2, h3⟩ := RpA.setAt hd j ra
      have hpF : p ∉ F0 := (List.nodup_cons.mp nd).1
      have hpy : p ∉ Fy := fun z => dj p z List.mem_cons_self
      have hp' : p ∉ F' := fun z => (h2 p z).elim hpF hpy
      refine ⟨p, .lst (vs.set j vd), p :: F', rfl, List.mem_cons_self, .inl ⟨_, hp⟩, .lst upd_same (h1.mut (.inl ⟨_, hp⟩) hp'), fun a ha => ?_, List.nodup_cons.mpr ⟨hp', h3 (List.nodup_cons.mp nd).2 ndy fun a ha z => dj a ha (List.mem_cons_of_mem _ z)⟩, fun Q q => .inl ⟨p, vs, _, j, rfl, rfl, hp, by rw [ra.length]; exact hj, q⟩⟩
      rcases List.mem_cons.mp ha with rfl | ha
      · exact .inl List.mem_cons_self
      · exact (h2 a ha).imp (List.mem_cons_of_mem _) id
  · split at h
    · rename_i hb
      simp only [Bool.and_eq_true] at hb
      obtain ⟨⟨b1, b2⟩, b3⟩ := hb
      cases h
      have ek := Rp.imm hk b2
      subst ek
      cases hx with
      | @dct p ps kvs F0 hp r ndk =>
        have hpe : H p = some (DX p (hs Y.w ps)) := hp
        obtain ⟨F', h1, h2, h3⟩ := RpD.put hk hd r ndk
        have hpF : p ∉ F0 := (List.nodup_cons.mp nd).1
        have hpy : p ∉ Fy := fun z => dj p z List.mem_cons_self
        have hp' : p ∉ F' := fun z => (h2 p z).elim hpF hpy
        refine ⟨p, DX p (hs Y.w (pput ps (keyN k) vk vd)), p :: F', rfl, List.mem_cons_self, .inr ⟨_, hpe⟩, .dct upd_same (h1.mut (.inr ⟨_, hpe⟩) hp') (pput_nodup ndk), fun a ha => ?_, List.nodup_cons.mpr ⟨hp', h3 (List.nodup_cons.mp nd).2 ndy fun a ha z => dj a ha (List.mem_cons_of_mem _ z)⟩, fun Q q => .inr ⟨p, ps, _, F0, k, rfl, by rw [sx.w]; exact hpe, by rw [sx.w, sx.K]; exact r, ndk, by rw [sx.w, sx.K]; exact hk, b1, by rw [r.length]; exact lim_size' (by have := bleD b3; unfold lim; omega), by rw [sx.w]; exact q⟩⟩
        rcases List.mem_cons.mp ha with rfl | ha
        · exact .inl List.mem_cons_self
        · exact (h2 a ha).imp (List.mem_cons_of_mem _) id
    · cases h
  · cases h
/-- name[k] = e -/
def mSubX (i : Nat) (mk m : En → T W) : En → T Out := fun en => match en[i]? with
  | some (some ⟨0, .d x⟩) => (m en).bind fun y => (dOf y).bind fun d => (mk en).bind fun z => (dOf z).bind fun k => (T.ofO (oPut x k d)).bind fun x' => .ret (.nx (en.set i (some ⟨0, .d x'⟩)))
  | _ => .fail
theorem put_stmt {X : Cx} (sx : Sx c Y X) {i : Nat} {x k d x' : PyData} {vx vk vd : V} {Fk Fy : List Addr} (rel : RelF Y R P H en σ Fs) (hi : en[i]? = some (some ⟨0, .d x⟩)) (hv : σ[i]? = some (some vx)) (hx : Rp Y.w Y.K H vx x (Fs i)) (hk : Rp Y.w Y.K H vk k Fk) (hd : Rp Y.w Y.K H vd d Fy) (h : oPut x k d = some x')
    (awy : Away R Fy) (ndy : Fy.Nodup) (a1 : ∀ a ∈ Fy, ¬ P a) (a2 : ∀ (j : Nat) (t : Slot), en[j]? = some (some t) → ∀ a ∈ Fy, a ∉ Fs j) {H0 : Hp} (l : LeP R Y.K P H0 H) (k : KO Y R P H0 D (.nx (en.set i (some ⟨0, .d x'⟩)))) :
    rSetL vx vk vd H (fun H => D.nx σ H) ∨ rSetX X vx vk vd H (fun H => D.nx σ H) := by
  obtain ⟨g1, g2, g3⟩ := rel.own i _ hi rfl
  obtain ⟨_, aw⟩ := rel.at_ i _ hi
  obtain ⟨p, o, F', e1, hp, ch, hn, hs, ndF, give⟩ := put_give sx hx hk hd h g1 ndy (a2 i _ hi)
  obtain ⟨rel', lp⟩ := rel.mutG (x' := .d x') hi rfl hv ch hp hn (fun a ha => (hs a ha).elim (aw a) (awy a)) ndF (fun a ha => (hs a ha).elim (g2 a) (a1 a)) fun j t hj ht a ha => (hs a ha).elim (g3 j t hj ht a) (a2 j t ht a)
  exact give _ (k _ _ (l.trans lp) rel')
theorem ss_subX {i : Nat} {nm : Str} {p pt : Pos} {m mk : En → T W} {u1 : Bool} (h : SE c e m true) (hk : SE c e1 mk u1) (hi : c.N[i]? = some nm) (hv : Vis c.sc nm) (hd : (nm == ("__debug__" : Str)) = false) (hcd : (nm == ("__classdict__" : Str)) = false)
    (hns : notSlice e1 = true) (hsw : ∀ env : PySem.Env, swapsWithSole [.Subscript (.Name nm p) e1 pt] e pos.line env = pure false) (hst : ∀ env : PySem.Env, swappedStores [.Subscript (.Name nm p) e1 pt] e env = pure none) :
    SS c (.Assign [.Subscript (.Name nm p) e1 pt] e pos) (mSubX i mk m) := by
  intro Y X sx dy
  obtain ⟨t, pe, s⟩ := h Y X sx.sx dy
  obtain ⟨tk, pk, sk⟩ := hk Y X sx.sx dy
  refine ⟨_, ps_asg pe (pg_sub (pe_var (by rw [sx.sx.N]; exact hi) (by rw [sx.sx.sc]; exact hv) hd hcd) pk (PSet.or set_list (set_dx (sx_units sx.sx))) (asub_of hns)) (hsw X.env) (hst X.env), fun R P en σ H D ⟨Fs, rel⟩ k => ?_⟩
  unfold mSubX at k
  split at k
  · rename_i x hs
    obtain ⟨⟨vx, hv, rx⟩, aw⟩ := rel.at_ i _ hs
    refine s R en σ H _ rel.toW ?_
    refine T.wp_mono ((T.wp_bind _ _ _).mp k) fun y ky => ?_
    intro u H1 Fy l r awy uy
    obtain ⟨d, rfl, ky⟩ := dOf_wp ((T.wp_bind _ _ _).mp ky)
    have rel1 := rel.le l
    refine ⟨vx, hv, sk R en σ H1 _ rel1.toW ?_⟩
    refine T.wp_mono ((T.wp_bind _ _ _).mp ky) fun z kz => ?_
    intro w H2 Fz l2 rz _ _
    obtain ⟨k, rfl, kz⟩ := dOf_wp ((T.wp_bind _ _ _).mp kz)
    obtain ⟨x', hx', kz⟩ := T.wp_ofO ((T.wp_bind _ _ _).mp kz)
    obtain ⟨a1, a2⟩ := rel.apart (uy rfl).2
    have l12 := l.trans l2
    exact put_stmt sx.sx (rel.le l12) hs hv (Rp.le l12 rel.ri rx aw) rz (Rp.le l2 rel1.ri r awy) hx' awy (uy rfl).1 a1 a2 (l12.toP rel.ri) kz
  · exact k.elim

/-! ### two deep -/
theorem RpA.mutAt {w : World} {K : PySem.W.Frag} : ∀ {vs : List V} {ds : List PyData} {F : List Addr} (j : Nat) {d : PyData}, RpA w K H vs ds F → F.Nodup → ds[j]? = some d → ∃ v Fj, vs[j]? = some v ∧ Rp w K H v d Fj ∧ (∀ a ∈ Fj, a ∈ F) ∧ Fj.Nodup ∧
    ∀ (q : Addr) (o : HO) (d' : PyData) (Fj' : List Addr), q ∈ Fj → Chg H q → Rp w K (upd H q o) v d' Fj' → Fj'.Nodup → (∀ a ∈ Fj', a ∈ Fj ∨ a ∉ F) → ∃ F', RpA w K (upd H q o) vs (ds.set j d') F' ∧ (∀ a ∈ F', a ∈ F ∨ a ∈ Fj') ∧ F'.Nodup
  | _, _, _, j, d, .nil, _, h => by simp at h
  | _, _, _, 0, d, .cons (v := v) (F := F1) (F' := F2) h r, nd, hd => by
    cases hd
    obtain ⟨n1, n2, n3⟩ := List.nodup_append.mp nd
    refine ⟨v, F1, rfl, h, fun a ha => List.mem_append_left _ ha, n1, fun q o d' Fj' hq hc hr nj hj => ⟨Fj' ++ F2, .cons hr (RpA.mut hc r fun z => n3 q hq q z rfl), fun a ha => ?_, List.nodup_append.mpr ⟨nj, n2, fun a ha b hb e => ?_⟩⟩⟩
    · rcases List.mem_append.mp ha with ha | ha
      · exact .inr ha
      · exact .inl (List.mem_append_right _ ha)
    · subst e
      rcases hj a ha with z | z
      · exact n3 a z a hb rfl
      · exact z (List.mem_append_right _ hb)
  | _, _, _, j + 1, d, .cons (v := v) (F := F1) (F' := F2) h r, nd, hd => by
    obtain ⟨n1, n2, n3⟩ := List.nodup_append.mp nd
    obtain ⟨u, Fj, g1, g2, g3, g4, g5⟩ := RpA.mutAt j r n2 hd
    refine ⟨u, Fj, g1, g2, fun a ha => List.mem_append_right _ (g3 a ha), g4, fun q o d' Fj' hq hc hr nj hj => ?_⟩
    obtain ⟨F', k1, k2, k3⟩ := g5 q o d' Fj' hq hc hr nj fun a ha => (hj a ha).imp id fun z w => z (List.mem_append_right _ w)
    refine ⟨F1 ++ F', .cons (Rp.mut hc h fun z => n3 q z q (g3 q hq) rfl) k1, fun a ha => ?_, List.nodup_append.mpr ⟨n1, k3, fun a ha b hb e => ?_⟩⟩
    · rcases List.mem_append.mp ha with ha | ha
      · exact .inl (List.mem_append_left _ ha)
      · exact (k2 a ha).imp (List.mem_append_right _) id
    · subst e
      rcases k2 a hb with z | z
      · exact n3 a ha a z rfl
      · rcases hj a z with z | z
        · exact n3 a ha a (g3 a z) rfl
        · exact z (List.mem_append_left _ ha)
/-- name[i][k] = e -/
def mSub2 (i : Nat) (mj mk m : En → T W) : En → T Out := fun en => match en[i]? with
  | some (some ⟨0, .d (.list ds)⟩) => (m en).bind fun y => (dOf y).bind fun d => (mj en).bind fun z => match z with
    | .d (.int n) => match ixN ds.length n with
      | some j => match ds[j]? with
        | some x => (mk en).bind fun z => (dOf z).bind fun k => (T.ofO (oPut x k d)).bind fun x' => .ret (.nx (en.set i (some ⟨0, .d (.list (ds.set j x'))⟩)))
        | none => .fail
      | none => .fail
    | _ => .fail
  | _ => .fail
theorem ss_sub2 {i : Nat} {nm : Str} {p pt pt2 : Pos} {m mj mk : En → T W} {u1 u2 : Bool} (h : SE c e m true) (hj : SE c e1 mj u1) (hk : SE c e2 mk u2) (hi : c.N[i]? = some nm) (hv : Vis c.sc nm) (hd : (nm == ("__debug__" : Str)) = false) (hcd : (nm == ("__classdict__" : Str)) = false)
    (hns : notSlice e1 = true) (hns2 : notSlice e2 = true) (hsw : ∀ env : PySem.Env, swapsWithSole [.Subscript (.Subscript (.Name nm p) e1 pt2) e2 pt] e pos.line env = pure false) (hst : ∀ env : PySem.Env, swappedStores [.Subscript (.Subscript (.Name nm p) e1 pt2) e2 pt] e env = pure none) :
    SS c (.Assign [.Subscript (.Subscript (.Name nm p) e1 pt2) e2 pt] e pos) (mSub2 i mj mk m) := by
  intro Y X sx dy
  obtain ⟨t, pe, s⟩ := h Y X sx.sx dy
  obtain ⟨tj, pj, sj⟩ := hj Y X sx.sx dy
  obtain ⟨tk, pk, sk⟩ := hk Y X sx.sx dy
  refine ⟨_, ps_asg pe (pg_sub (pe_ix ix_list (pe_var (by rw [sx.sx.N]; exact hi) (by rw [sx.sx.sc]; exact hv) hd hcd) pj (plainIx_of hns)) pk (PSet.or set_list (set_dx (sx_units sx.sx))) (asub_of hns2)) (hsw X.env) (hst X.env), fun R P en σ H D ⟨Fs, rel⟩ k => ?_⟩
  unfold mSub2 at k
  split at k
  · rename_i ds hs
    obtain ⟨p, vs, F0, hv, hp, ra, hF, nd, nP, aw, dis⟩ := own_list rel hs
    refine s R en σ H _ rel.toW ?_
    refine T.wp_mono ((T.wp_bind _ _ _).mp k) fun y ky => ?_
    intro u H1 Fy l r awy uy
    obtain ⟨d, rfl, ky⟩ := dOf_wp ((T.wp_bind _ _ _).mp ky)
    have rel1 := rel.le l
    refine ⟨_, hv, sj R en σ H1 _ rel1.toW ?_⟩
    refine T.wp_mono ((T.wp_bind _ _ _).mp ky) fun z kz => ?_
    intro w H2 Fz l2 rz _ _
    split at kz
    · rename_i n
      split at kz
      · rename_i j hj
        split at kz
        · rename_i x hx
          cases rz
          have l12 := l.trans l2
          have hp2 : H2 p = some (.lst vs) := lst_le l12 (aw p List.mem_cons_self).1 hp
          have ra2 := ra.le l12 rel.ri aw.tail
          obtain ⟨vx, _, hvx, _⟩ := ra2.get hx
          refine ⟨p, vs, n, vx, rfl, rfl, SqL.of hp2, by unfold L2.atI; rw [ra.length, hj]; exact hvx, sk R en σ H2 _ (rel.le l12).toW ?_⟩
          refine T.wp_mono ((T.wp_bind _ _ _).mp kz) fun z kz => ?_
          intro w2 H3 Fw l3 rw2 _ _
          obtain ⟨kd, rfl, kz⟩ := dOf_wp ((T.wp_bind _ _ _).mp kz)
          obtain ⟨x', hx', kz⟩ := T.wp_ofO ((T.wp_bind _ _ _).mp kz)
          have l13 := l12.trans l3
          have rel3 := rel.le l13
          have hp3 : H3 p = some (.lst vs) := lst_le l13 (aw p List.mem_cons_self).1 hp
          have ra3 := ra.le l13 rel.ri aw.tail
          obtain ⟨a1, a2⟩ := rel.apart (uy rfl).2
          have nF : ∀ a ∈ Fy, a ∉ p :: F0 := fun a ha z => a2 i _ hs a ha (by rw [hF]; exact z)
          have ndF0 := (List.nodup_cons.mp nd).2
          have hpF0 := (List.nodup_cons.mp nd).1
          obtain ⟨vx', Fj, g1, g2, g3, g4, g5⟩ := RpA.mutAt j ra3 ndF0 hx
          have ev : vx' = vx := Option.some.inj (g1.symm.trans hvx)
          subst ev
          have ry := Rp.le (l2.trans l3) rel1.ri r awy
          obtain ⟨q, o, F', e1, hq, ch, hn, hs2, ndF, give⟩ := put_give sx.sx g2 rw2 ry hx' g4 (uy rfl).1 fun a ha z => nF a ha (List.mem_cons_of_mem _ (g3 a z))
          have hqF := g3 q hq
          have hqp : p ≠ q := fun z => hpF0 (by rw [z]; exact hqF)
          obtain ⟨F2, k1, k2, k3⟩ := g5 q o x' F' hq ch hn ndF fun a ha => (hs2 a ha).imp id fun z w => nF a z (List.mem_cons_of_mem _ w)
          have sub : ∀ a ∈ F2, a ∈ F0 ∨ a ∈ Fy := fun a ha => (k2 a ha).elim .inl fun z => (hs2 a z).imp (g3 a) id
          have hnew : RpW Y R (upd H3 q o) (.ref p) (.d (.list (ds.set j x'))) (p :: F2) := .lst (by rw [upd_ne hqp]; exact hp3) k1
          have sub2 : ∀ a ∈ p :: F2, a ∈ p :: F0 ∨ a ∈ Fy := fun a ha => by
            rcases List.mem_cons.mp ha with rfl | ha
            · exact .inl List.mem_cons_self
            · exact (sub a ha).imp (List.mem_cons_of_mem _) id
          obtain ⟨rel', lp⟩ := rel3.mutG (x' := .d (.list (ds.set j x'))) hs rfl hv ch (by rw [hF]; exact List.mem_cons_of_mem _ hqF) hnew (fun a ha => (sub2 a ha).elim (aw a) (awy a)) (List.nodup_cons.mpr ⟨fun z => (sub p z).elim hpF0 fun z => nF p z List.mem_cons_self, k3⟩) (fun a ha => (sub2 a ha).elim (nP a) (a1 a)) fun j t hj ht a ha => (sub2 a ha).elim (dis j t hj ht a) (a2 j t ht a)
          exact give _ (kz _ _ (LeP.trans (l13.toP rel.ri) lp) rel')
        · exact kz.elim
      · exact kz.elim
    · exact kz.elim
  · exact k.elim
end
end G

set_option Elab.async false
set_option linter.all false
set_option maxRecDepth 100000
/-! G20s: sum of a tuple. -/
namespace G
open PySem PySem.Spec PyProof.Rows L2
theorem call_sumT {X : Cx} (hc : X.calm = true) : CallR X (.builtin "sum") fun xs H Q => ∃ (a : Addr) (ns : List Int), xs = [V.ref a] ∧ SqT X.K H a (ns.map V.int) ∧ Q (.int ns.sum) H := by
  rintro pins s σ H xs us Q I r ⟨a, ns, rfl, h, q⟩
  obtain ⟨u, rfl, ru⟩ := vals1 r
  cases ru
  obtain ⟨us, rv, pt, _⟩ := I.tuple h
  have hi : IntsAre us ns := ints_are rv
  obtain ⟨xs, hx⟩ := hi.allInts.items
  have hn : numsOf us.toArray.toList = ns := by rw [show us.toArray.toList = us from rfl, hi.numsOf]
  have hl : s.heap.IsTuple a us.toArray := pt
  rw [hx] at hl hn
  rw [nums_intItems] at hn
  refine PySem.W.ktm_sumG (I.ok.hd hc) hl fun h' tk t' hk => ⟨.int ns.sum, H, I.kept hk, ⟨t', ?_⟩, q⟩
  rw [preSum_eq, List.take_of_length_le (by simp), hn]
section
variable {c : Sc}
def oSumX : W → T W
  | .d (.tuple xs) => (T.ofO (intsOf xs)).bind fun ns => .ret (.d (.int ns.sum))
  | x => oSum x
theorem ok_sumX : CallOk c (.builtin "sum") (o1 oSumX) true := call_one fun Y X sx => by
  refine ⟨_, CallR.or (cr_sum sx.calm) (call_sumT sx.calm), fun R H v x F Q ri rx aw k => ?_⟩
  unfold oSumX at k
  split at k
  · obtain ⟨ns, h, k2⟩ := T.wp_ofO ((T.wp_bind _ _ _).mp k)
    clear k
    have e := intsOf_eq h
    subst e
    cases rx with
    | tup h r =>
      obtain ⟨rfl, rfl⟩ := r.ints
      exact .inr ⟨_, ns, rfl, by rw [sx.K]; exact h, Kv.here k2 (.int _)⟩
  · unfold oSum at k
    split at k
    · obtain ⟨ns, h, k2⟩ := T.wp_ofO ((T.wp_bind _ _ _).mp k)
      clear k
      have e := intsOf_eq h
      subst e
      cases rx with
      | lst h r =>
        obtain ⟨rfl, rfl⟩ := r.ints
        exact .inl ⟨_, ns, rfl, SqL.of h, Kv.here k2 (.int _)⟩
    · exact k.elim
end
end G

set_option Elab.async false
set_option linter.all false
set_option maxRecDepth 100000
/-! G30: {k: v}, displays with stars. -/
namespace G
open PySem PySem.Spec PyProof.Rows L2
section
variable {X : Cx} {pins : List (Addr × Obj)} {σ : L2.St} {H : Hp} {s : Shared} {a : Addr} {A : Around} {E : Value → Shared → Prop}
/-- a new dict's first entry -/
theorem dx_first (hu : A.units + 10 < cLine) (I : Inv X pins σ H s) {k : PyData} {kv z : V} {ku zu : Value} {Q : Unit → Shared → Prop} (h : H a = some (DX a (hs X.w [])))
    (rk : Rp X.w X.K H kv k []) (ru : RelV kv ku) (rz : RelV z zu) (kb : (isI k || isK k) = true) (q : ∀ s', Inv X pins σ (upd H a (DX a (hs X.w [(keyN k, kv, z)]))) s' → Q () s') : wpAny (model X.prog X.w) A (dictSet a ku zu) Q E s := by
  obtain ⟨o, es, ep, op⟩ := dx_open I (.inl h)
  have hA : A.units + 8 < cLine := by omega
  have mu : Mut (H a) := by rw [h]; exact True.intro
  have wr : ∀ {h' : Heap} {t' : Nat} {o' : Obj} {es' : Array DictEntry} {ep' : Nat}, Heap.SameBut a s.heap h' → h'.get? a = some o' → o'.ExactDict → o'.data = .dict es' ep' → EsR (hs X.w (pput [] (keyN k) kv z)) es'.toList → Q () { s with heap := h', toks := t' } :=
    fun {h' t' o' es' ep'} sb h1 h2 h3 h4 => q _ (I.write (x := a) (e := a) (t' := t') mu (.inl rfl) (fun b u hb e => (sb.2 b hb).trans e) ⟨o', h1⟩ (dx_new h1 h2 h3 h4 (by show 1 ≤ sizeLine; decide) op.sys))
  have r : RpD X.w X.K H [] [] [] := .nil
  rcases Bool.or_eq_true_iff.mp kb with k1 | k1
  · obtain ⟨vs, h1, h2, h4⟩ := op.num r List.nodup_nil rfl
    obtain ⟨i, rfl, rfl⟩ := isI_of k1 rk
    obtain ⟨t, rfl⟩ := ru
    cases h1
    refine wpAny_dictSet_pairs (hsz := by decide) (knd := numKind X.prog X.w) (k := .num i) (intKind_is X.prog X.w i t) h2 fun h' dd' sb => ?_
    obtain ⟨o', es', ep', g1, g2, g3, g4, g5, _⟩ := dd'
    refine wr sb g1 g2 g3 (num_back (P := X.prog) ((KVp.put (n := .num i) (u := .int i) rz) .nil) g5 (fun e he => g4 e (by simpa using he)) fun p hp => ?_)
    have hp : p ∈ [((.num i : NestedKey), V.int i, z)] := hp
    rw [List.mem_singleton.mp hp]
    exact ⟨i, rfl, rfl⟩
  · obtain ⟨xs, h1, h2⟩ := op.tup I r List.nodup_nil rfl
    obtain ⟨b, rfl, him, hdp⟩ := isK_of k1 rk
    cases (show ku = Value.ref b from ru)
    cases h1
    refine wpAny_dictSet_heap (hsz := by decide) (knd := nestedKind X.prog X.w) (k := keyN k) hA ⟨rk.nested I him rfl, hdp⟩ h2 fun h' dd' sb => ?_
    obtain ⟨o', es', ep', g1, g2, g3, g4, _⟩ := dd'
    exact wr sb g1 g2 g3 (by rw [g4]; exact tup_back ((PT.put rz) .nil))
end
/-- the one pair -/
def onePair (Q : V → V → Hp → Prop) : List (V × V) → Hp → Prop
  | [(x, y)], H => Q x y H
  | _, _ => False
theorem pe_dict1 {X : Cx} {k v : Expr} {tk tv : TE} {pos : Pos} (hu : X.A.units + 64 < cLine) (hk : PE X k tk) (hv : PE X v tv) : PE X (.Dict [some k] [v] pos) (fun σ H Q => ∀ p, H p = none → tk σ (upd H p (DX p (hs X.w []))) fun x H1 => tv σ H1 fun y H2 =>
    ∃ d, H2 p = some (DX p (hs X.w [])) ∧ Rp X.w X.K H2 x d [] ∧ (isI d || isK d) = true ∧ Q (.ref p) (upd H2 p (DX p (hs X.w [(keyN d, x, y)])))) := by
  refine ⟨fun pins s σ H Q I q => ?_⟩
  have I1 := I.laid (o := DX s.heap.objs.size (hs X.w [])) (t' := s.toks) (fun _ _ q => Heap.get?_push_of_some _ q) (Nat.le_refl _) (dx_empty s.heap I.big)
  have P := pps_cons (pos := pos) hk hv (pps_nil (X := X))
  have e : eval (.Dict [some k] [v] pos) X.env = (do standAt pos; dictDisplay ((pairTrees [some k] [v] X.env pos).map fun p => (some p.1, p.2))) := rfl
  rw [e, dictDisplay_pairs _ (by intro z; cases z) (by show 1 < 17; decide)]
  refine wpAny_bind (wpAny_standAt (wpAny_bind ?_))
  unfold subDict
  refine wpAny_bind (wpAny_alloc ?_)
  refine wpAny_bind (wpAny_holding ?_)
  rw [if_pos (show (pairTrees [some k] [v] X.env pos).length ≤ 15 by show 1 ≤ 15; decide)]
  refine wpAny_bind (thn (P.run pins _ σ _ (onePair fun x y H2 => ∃ d, H2 s.heap.objs.size = some (DX s.heap.objs.size (hs X.w [])) ∧ Rp X.w X.K H2 x d [] ∧ (isI d || isK d) = true ∧ Q (.ref s.heap.objs.size) (upd H2 s.heap.objs.size (DX s.heap.objs.size (hs X.w [(keyN d, x, y)])))) I1 (q _ I.fresh)) fun vs s2 ⟨ps, H2, I2, rel, qq⟩ => ?_)
  cases rel with
  | nil => exact qq.elim
  | @cons p0 u0 _ _ h1 h2 =>
    cases h2 with
    | cons _ _ => exact qq.elim
    | nil =>
    obtain ⟨d, hp, rd, kb, qq⟩ := qq
    obtain ⟨rx, ry⟩ := h1
    refine wpAny_holding ?_
    refine wpAny_bind ?_
    rw [List.forIn_cons]
    refine wpAny_bind (wpAny_bind (dx_first (by show X.A.units + 10 < cLine; omega) I2 hp rd rx ry kb fun s3 I3 => wpAny_pure ?_))
    dsimp only
    rw [List.forIn_nil]
    exact wpAny_pure (wpAny_pure (wpAny_pure (wpAny_pure ⟨.ref s.heap.objs.size, _, I3, rfl, qq⟩)))
section
variable {Y : Dyn} {R : Rw} {P : Addr → Prop} {H H1 H2 H' : Hp} {uq : Bool} {Q : VK} {x y : W} {v : V} {F : List Addr} {c : Sc} {e e1 e2 e3 tg : Expr} {pos : Pos} {en : En} {σ : L2.St} {Fs : Nat → List Addr} {D : Ends}
/-- what is new is changed -/
theorem Le.updN {p : Addr} {o o' : HO} (ri : RowI R Y.K H) (h : H p = none) (l : Le R Y.K H H2) (h2 : H2 p = some o) : Le R Y.K H (upd H2 p o') := by
  have hR : R.row ≠ some p := (ri.away h).1
  refine ⟨fun a u hr e => ?_, fun a u e => ?_, fun g r hr => ?_⟩
  · rw [upd_ne (ne_of_none e h)]; exact l.keep a u hr e
  · rw [upd_ne (ne_of_none e h)]; exact l.there a u e
  · obtain ⟨i, j, kk, h1, h2, h3⟩ := l.rowR g r hr
    obtain ⟨_, _, _, _, g2, _⟩ := g r hr
    refine ⟨i, j, kk, by rw [upd_ne (fun z => hR (by rw [← z]; exact hr))]; exact h1, ?_, h3⟩
    rcases g2 with g2 | g2
    · have hsD : R.scr ≠ p := fun z => by
        rw [z] at g2
        rcases g2 with g2 | ⟨_, g2⟩ <;> rw [h] at g2 <;> cases g2
      rcases h2 with (h2 | ⟨ob, h2⟩) | h2
      · exact .inl (.inl (by rw [upd_ne hsD]; exact h2))
      · exact .inl (.inr ⟨ob, by rw [upd_ne hsD]; exact h2⟩)
      · exact .inr h2
    · exact .inr g2
def mDict1 (mk mv : En → T W) : En → T W := fun en => (mk en).bind fun x => (dOf x).bind fun k => (mv en).bind fun y => (dOf y).bind fun d => T.must ((isI k || isK k) && imm k) (.ret (.d (.dict [(k, d)])))
theorem se_dict1 {mk mv : En → T W} {u1 : Bool} (hk : SE c e1 mk u1) (hv : SE c e2 mv true) : SE c (.Dict [some e1] [e2] pos) (mDict1 mk mv) true := by
  intro Y X sx dy
  obtain ⟨tk, pk, sk⟩ := hk Y X sx dy
  obtain ⟨tv, pv, sv⟩ := hv Y X sx dy
  refine ⟨_, pe_dict1 (sx_units sx) pk pv, fun R en σ H Q rel k p hp => ?_⟩
  rw [sx.w]
  have l0 : Le R Y.K H (upd H p (DX p (hs Y.w []))) := Le.new hp
  have rel0 := rel.le l0
  refine sk R en σ _ _ rel0 ?_
  refine T.wp_mono ((T.wp_bind _ _ _).mp k) fun x kx => ?_
  intro u H1 F1 l1 r1 aw1 _
  obtain ⟨kd, rfl, kx⟩ := dOf_wp ((T.wp_bind _ _ _).mp kx)
  refine sv R en σ H1 _ (rel0.le l1) ?_
  refine T.wp_mono ((T.wp_bind _ _ _).mp kx) fun y ky => ?_
  intro w H2 F2 l2 r2 aw2 u2
  obtain ⟨d, rfl, ky⟩ := dOf_wp ((T.wp_bind _ _ _).mp ky)
  obtain ⟨hb, ky⟩ := T.wp_must ky
  rw [Bool.and_eq_true] at hb
  have hR : R.row ≠ some p := (rel.ri.away hp).1
  have e1 : F1 = [] := Rp.imm r1 hb.2
  subst e1
  have r1' : Rp Y.w Y.K H2 u kd [] := Rp.le l2 (l1.row rel0.ri) r1 aw1
  have hp1 : H1 p = some (DX p (hs Y.w [])) := l1.keep p _ hR upd_same
  have hp2 : H2 p = some (DX p (hs Y.w [])) := l2.keep p _ hR hp1
  have np : p ∉ F2 := fun z => by
    have := (u2 rfl).2 p z
    rw [hp1] at this; cases this
  have l : Le R Y.K H (upd H2 p (DX p (hs Y.w [(keyN kd, u, w)]))) := Le.updN rel.ri hp ((l0.trans l1).trans l2) hp2
  have ch : (∃ xs, H2 p = some (.lst xs)) ∨ ∃ ps, H2 p = some (DX p ps) := .inr ⟨_, hp2⟩
  refine ⟨kd, hp2, by rw [sx.K]; exact r1', hb.1, ?_⟩
  refine ky _ _ (p :: (F2 ++ [])) l (.dct (ps := [(keyN kd, u, w)]) upd_same (.cons rfl (Rp.mut ch r1' (fun z => nomatch z)) (Rp.mut ch r2 np) .nil) (by simp)) (Away.cons (rel.ri.away hp) (aw2.app Away.nil)) fun _ => ?_
  rw [List.append_nil]
  refine ⟨List.nodup_cons.mpr ⟨np, (u2 rfl).1⟩, fun a ha => ?_⟩
  rcases List.mem_cons.mp ha with rfl | ha
  · exact hp
  · exact (l0.trans l1).fresh ((u2 rfl).2 a ha)

/-! ### stars in displays -/
def seqOf : W → T (List PyData)
  | .d (.list ds) => T.must (immAll ds) (.ret ds)
  | .d (.tuple ds) => T.must (immAll ds) (.ret ds)
  | _ => .fail
def mStar (m : En → T W) (ms : En → T (List W)) : En → T (List W) := fun en => (m en).bind fun x => (seqOf x).bind fun ds => (ms en).bind fun xs => .ret (ds.map W.d ++ xs)
theorem RpWs.app : ∀ {vs us : List V} {xs ys : List W} {F F' : List Addr}, RpWs Y R H vs xs F → RpWs Y R H us ys F' → RpWs Y R H (vs ++ us) (xs ++ ys) (F ++ F')
  | [], us, [], ys, F, F', h, g => by
    cases (show F = [] from h)
    exact g
  | v :: vs, us, x :: xs, ys, F, F', ⟨F1, F2, e, h1, h2⟩, g => by
    subst e
    exact ⟨F1, F2 ++ F', by rw [List.append_assoc], h1, RpWs.app h2 g⟩
  | [], _, _ :: _, _, _, _, h, _ => (show False from h).elim
  | _ :: _, _, [], _, _, _, h, _ => (show False from h).elim
theorem sa_star {p : Pos} {es : List Expr} {m : En → T W} {ms : En → T (List W)} {u1 : Bool} (h : SE c e m u1) (hr : SA c es ms uq) : SA c (.Starred e p :: es) (mStar m ms) uq := by
  intro Y X sx dy
  obtain ⟨t, pe, s⟩ := h Y X sx dy
  obtain ⟨tr, pr, sr⟩ := hr Y X sx dy
  refine ⟨_, StX.pa_star pe pr rfl, fun R en σ H Q rel k => s R en σ H _ rel ?_⟩
  refine T.wp_mono ((T.wp_bind _ _ _).mp k) fun x kx => ?_
  intro v H1 F1 l1 r1 aw1 _
  have fin : ∀ {ds : List PyData} {vs : List V} {Fa : List Addr}, RpA Y.w Y.K H1 vs ds Fa → immAll ds = true → ((ms en).bind fun xs => T.ret (ds.map W.d ++ xs)).wp (Kvs Y R H uq Q) → tr σ H1 fun ys H2 => Q (vs ++ ys) H2 := fun {ds vs Fa} ra im kk => by
    refine sr R en σ H1 _ (rel.le l1) ?_
    refine T.wp_mono ((T.wp_bind _ _ _).mp kk) fun xs kx => ?_
    intro us H2 F2 l2 r2 aw2 u2
    have ra := (ra.imm0 im).le l2 (l1.row rel.ri) Away.nil
    refine kx _ H2 F2 (l1.trans l2) (RpWs.app (F := []) (RpWs.ofA ra) r2) aw2 fun h => ?_
    exact ⟨(u2 h).1, fun a ha => l1.fresh ((u2 h).2 a ha)⟩
  unfold seqOf at kx
  rw [sx.K]
  split at kx
  · obtain ⟨hb, kx⟩ := T.wp_must ((T.wp_bind _ _ _).mp kx)
    cases r1 with
    | lst h r => exact ⟨_, _, rfl, .inr (SqL.of h), fin r hb kx⟩
  · obtain ⟨hb, kx⟩ := T.wp_must ((T.wp_bind _ _ _).mp kx)
    cases r1 with
    | tup h r => exact ⟨_, _, rfl, .inl h, fin r hb kx⟩
  · exact kx.elim
end
end G

set_option Elab.async false
set_option linter.all false
set_option maxRecDepth 100000
/-! G31: pop, extend, count, index. -/
namespace G
open PySem PySem.Spec PyProof.Rows L2
section
variable {Y : Dyn} {R : Rw} {P : Addr → Prop} {H H1 H2 H' : Hp} {uq : Bool} {Q : VK} {x y : W} {v : V} {F : List Addr} {c : Sc} {e e1 e2 e3 tg : Expr} {pos : Pos} {en : En} {σ : L2.St} {Fs : Nat → List Addr} {D : Ends}
theorem RpA.last {w : World} {K : PySem.W.Frag} : ∀ {vs : List V} {ds : List PyData} {F : List Addr} {d : PyData}, RpA w K H vs ds F → ds.getLast? = some d → F.Nodup → ∃ v F1 F2, vs[vs.length - 1]? = some v ∧ Rp w K H v d F1 ∧ RpA w K H vs.dropLast ds.dropLast F2 ∧ (∀ a ∈ F1, a ∈ F) ∧ (∀ a ∈ F2, a ∈ F) ∧ F1.Nodup ∧ F2.Nodup ∧ ∀ a ∈ F1, a ∉ F2
  | _, _, _, d, .nil, h, _ => by cases h
  | _, _, _, d, .cons (v := v) (F := F1) (d := d0) h .nil, e, nd => by
    cases e
    rw [List.append_nil] at nd
    exact ⟨v, F1, [], rfl, h, .nil, fun a ha => List.mem_append_left _ ha, (fun _ z => nomatch z), nd, List.nodup_nil, fun _ _ z => nomatch z⟩
  | _, _, _, d, .cons (v := v) (F := F1) (d := d0) h (.cons (v := v2) (vs := vs) (d := d2) (ds := ds) (F := F2) (F' := F3) h2 r2), e, nd => by
    obtain ⟨n1, n2, n3⟩ := List.nodup_append.mp nd
    obtain ⟨u, G1, G2, g1, g2, g3, g4, g5, g6, g7, g8⟩ := RpA.last (.cons h2 r2) (show (d2 :: ds).getLast? = some d by rw [List.getLast?_cons_cons] at e; exact e) n2
    refine ⟨u, G1, F1 ++ G2, ?_, g2, .cons h g3, fun a ha => List.mem_append_right _ (g4 a ha), fun a ha => ?_, g6, List.nodup_append.mpr ⟨n1, g7, fun a ha b hb z => n3 a ha b (g5 b hb) z⟩, fun a ha z => ?_⟩
    · rw [show (v :: v2 :: vs).length - 1 = ((v2 :: vs).length - 1) + 1 by simp]
      exact g1
    · rcases List.mem_append.mp ha with ha | ha
      · exact List.mem_append_left _ ha
      · exact List.mem_append_right _ (g5 a ha)
    · rcases List.mem_append.mp z with z | z
      · exact n3 a z a (g4 a ha) rfl
      · exact g8 a ha z
/-- name = list.pop() -/
def mPop (i j : Nat) : En → T Out := fun en => match en[j]? with
  | some (some ⟨0, .d (.list ds)⟩) => match ds.getLast? with
    | some d => T.must (!Nat.beq i j && imm d) (.ret (.nx ((en.set j (some ⟨0, .d (.list ds.dropLast)⟩)).set i (some ⟨0, .d d⟩))))
    | none => .fail
  | _ => .fail
theorem ss_pop {i j : Nat} {nm nm2 : Str} {p p2 apos cpos : Pos} (hi : c.N[i]? = some nm) (hl : locB c.sc nm = true) (ho : nm ∈ c.own) (hj : c.N[j]? = some nm2) (hv : Vis c.sc nm2) (hd : (nm2 == ("__debug__" : Str)) = false) (hcd : (nm2 == ("__classdict__" : Str)) = false) (hline : (apos.endLine == cpos.line) = true) :
    SS c (.Assign [.Name nm p] (.Call (.Attribute (.Name nm2 p2) "pop" apos) [] [] cpos) pos) (mPop i j) := by
  intro Y X sx dy
  refine ⟨_, ps_set (by rw [sx.sx.N]; exact sx.sx.nd) (by rw [sx.sx.N]; exact hi) (by rw [sx.sx.sc]; exact loc_of hl) (pe_bm0 PySem.F.plainAttrs_list PySem.F.slot_list_pop PySem.F.type_list_pop mt_pop (pe_var (by rw [sx.sx.N]; exact hj) (by rw [sx.sx.sc]; exact hv) hd hcd) rfl hline) rfl (sx.sx.fn nm ho), fun R P en σ H D ⟨Fs, rel⟩ k => ?_⟩
  unfold mPop at k
  split at k
  · rename_i ds hs
    split at k
    · rename_i d hd
      obtain ⟨hb, k⟩ := T.wp_must k
      rw [Bool.and_eq_true] at hb
      obtain ⟨q, vs, F0, hv, hp, ra, hF, nd, nP, aw, dis⟩ := own_list rel hs
      obtain ⟨nq, nF⟩ := List.nodup_cons.mp nd
      obtain ⟨u, F1, F2, g1, g2, g3, g4, g5, g6, g7, g8⟩ := RpA.last ra hd nF
      have e1 := g2.imm hb.2
      subst e1
      refine ⟨_, hv, .inl ⟨rfl, vs, SqL.of hp⟩, q, vs, u, rfl, rfl, hp, g1, ?_⟩
      have nq2 : q ∉ F2 := fun z => nq (g5 q z)
      have ch : (∃ xs, H q = some (.lst xs)) ∨ ∃ ps, H q = some (DX q ps) := .inl ⟨_, hp⟩
      have sub : ∀ a ∈ q :: F2, a ∈ q :: F0 := fun a ha => (List.mem_cons.mp ha).elim (fun e => by rw [e]; exact List.mem_cons_self) fun ha => List.mem_cons_of_mem _ (g5 a ha)
      obtain ⟨⟨Gs, rel'⟩, lp⟩ := rel.mutG (x' := .d (.list ds.dropLast)) (o := .lst vs.dropLast) (F' := q :: F2) hs rfl hv ch (by rw [hF]; exact List.mem_cons_self) (.lst upd_same (g3.mut ch nq2)) (away_sub aw sub) (List.nodup_cons.mpr ⟨nq2, g7⟩) (fun a ha => nP a (sub a ha)) (fun k t hk ht a ha => dis k t hk ht a (sub a ha))
      exact k _ _ lp ⟨_, rel'.set (g2.mut ch (fun z => nomatch z)) Away.nil (fun _ => ⟨List.nodup_nil, (fun _ h => nomatch h), fun _ _ _ _ _ h => nomatch h⟩) fun _ _ _ _ _ _ _ z => nomatch z⟩
    · exact k.elim
  · exact k.elim
/-- list.extend(e) -/
def mExt (i : Nat) (m : En → T W) : En → T Out := fun en => match en[i]? with
  | some (some ⟨0, .d (.list ds)⟩) => (m en).bind fun y => match y with
    | .d (.list es) => T.must (immAll es && Nat.ble (ds.length + es.length) lim) (.ret (.nx (en.set i (some ⟨0, .d (.list (ds ++ es))⟩))))
    | _ => .fail
  | _ => .fail
theorem ss_ext {i : Nat} {nm : Str} {p apos cpos : Pos} {m : En → T W} {u1 : Bool} (h : SE c e m u1) (hn : notStar e = true) (hi : c.N[i]? = some nm) (hv : Vis c.sc nm) (hd : (nm == ("__debug__" : Str)) = false) (hcd : (nm == ("__classdict__" : Str)) = false) (hl : (apos.endLine == cpos.line) = true) :
    SS c (.Expr (.Call (.Attribute (.Name nm p) "extend" apos) [e] [] cpos) pos) (mExt i m) := by
  intro Y X sx dy
  obtain ⟨t, pe, s⟩ := h Y X sx.sx dy
  refine ⟨_, ps_expr (pe_bm PySem.F.plainAttrs_list PySem.F.slot_list_extend PySem.F.type_list_extend mt_extend (pe_var (by rw [sx.sx.N]; exact hi) (by rw [sx.sx.sc]; exact hv) hd hcd) (pa_cons pe pa_nil (star_eq hn)) rfl (by rw [star_eq hn]; rfl) hl (star_eq hn)), fun R P en σ H D ⟨Fs, rel⟩ k => ?_⟩
  unfold mExt at k
  split at k
  · rename_i ds hs
    obtain ⟨p, vs, F0, hv, hp, ra, hF, nd, nP, aw, dis⟩ := own_list rel hs
    refine ⟨_, hv, .inl ⟨rfl, vs, SqL.of hp⟩, s R en σ H _ rel.toW ?_⟩
    refine T.wp_mono ((T.wp_bind _ _ _).mp k) fun y ky => ?_
    intro u H1 Fy l r awy uy
    split at ky
    · rename_i es
      obtain ⟨hb, ky⟩ := T.wp_must ky
      rw [Bool.and_eq_true] at hb
      cases r with
      | @lst b zs _ Fb hbz rb =>
        have rb := rb.imm0 hb.1
        have hp1 : H1 p = some (.lst vs) := lst_le l (aw p List.mem_cons_self).1 hp
        have ra1 := ra.le l rel.ri aw.tail
        have rr : RpA Y.w Y.K H1 (vs ++ zs) (ds ++ es) F0 := by
          have := ra1.app rb
          rwa [List.append_nil] at this
        obtain ⟨rel', lp⟩ := (rel.le l).mutL (vs' := vs ++ zs) (ds' := ds ++ es) (F' := F0) hs rfl hv hp1 (by rw [hF]; exact List.mem_cons_self) rr aw.tail nd (fun a ha => nP a (List.mem_cons_of_mem _ ha)) fun j t hj ht a ha => dis j t hj ht a (List.mem_cons_of_mem _ ha)
        refine ⟨p, b, vs, zs, rfl, rfl, hp1, hbz, ?_, ky _ _ (LeP.trans (l.toP rel.ri) lp) rel'⟩
        rw [ra.length, rb.length]
        exact lim_size (bleD hb.2)
    · exact ky.elim
  · exact k.elim
/-! ### count, index -/
def rCntD (K : PySem.W.Frag) (tp : Bool) : V → List V → Hp → VK → Prop := fun x xs H Q => ∃ (a : Addr) (y : V) (d : PyData) (ds : List PyData), x = V.ref a ∧ xs = [y] ∧ (match tp with
  | true => Dp K H (V.ref a) (.tuple ds)
  | false => Dp K H (V.ref a) (.list ds)) ∧ Dp K H y d ∧ flatAll 20 ds = true ∧ flat 20 d = true ∧ Q (.int ((ds.countP fun z => PyData.eqv z d : Nat) : Int)) H
theorem mt_cntL {X : Cx} (hu : X.A.units + 64 < cLine) : MtR X "list.count" (rCntD X.K false) := by
  rintro pins s σ H x xs v us Q I rx rxs ⟨a, y, d, ds, rfl, rfl, hl, hy, fl, fd, q⟩
  cases rx
  obtain ⟨uy, rfl, ry⟩ := rxs.one
  obtain ⟨bs, r1⟩ := Dp.reads I d y uy hy ry
  have p1 := flat_plain 20 d fd
  have p2 := flat_plains 20 ds fl
  cases hl with
  | lst hs ha =>
    obtain ⟨its, rv, pl, hlen⟩ := I.list hs
    obtain ⟨as, h4⟩ := Dp.readsAll I ds _ its ha rv
    exact SeqAt.count_list_data pl.isList (show ReadsAll s.heap its.toArray.toList ds as from h4) r1 p2.1 p1.1 (by omega) ⟨.int _, H, I.tok _, ⟨_, rfl⟩, q⟩
theorem mt_cntT {X : Cx} (hu : X.A.units + 64 < cLine) : MtR X "tuple.count" (rCntD X.K true) := by
  rintro pins s σ H x xs v us Q I rx rxs ⟨a, y, d, ds, rfl, rfl, hl, hy, fl, fd, q⟩
  cases rx
  obtain ⟨uy, rfl, ry⟩ := rxs.one
  obtain ⟨bs, r1⟩ := Dp.reads I d y uy hy ry
  have p1 := flat_plain 20 d fd
  have p2 := flat_plains 20 ds fl
  cases hl with
  | tup hs ha =>
    obtain ⟨its, rv, pl, hlen⟩ := I.tuple hs
    obtain ⟨as, h4⟩ := Dp.readsAll I ds _ its ha rv
    exact SeqAt.count_tuple_data pl (show ReadsAll s.heap its.toArray.toList ds as from h4) r1 p2.1 p1.1 (by omega) ⟨.int _, H, I.tok _, ⟨_, rfl⟩, q⟩
/-- l.index(k), l of whole numbers, k in it -/
def rIdxI (K : PySem.W.Frag) : V → List V → Hp → VK → Prop := fun x xs H Q => ∃ (a : Addr) (ns : List Int) (k : Int), x = V.ref a ∧ xs = [.int k] ∧ SqL K H a (ns.map V.int) ∧ ns.length ≤ sizeLine ∧ k ∈ ns ∧ Q (.int ((ns.idxOf k : Nat) : Int)) H
theorem mt_idxI {X : Cx} : MtR X "list.index" (rIdxI X.K) := by
  rintro pins s σ H x xs v us Q I rx rxs ⟨a, ns, k, rfl, rfl, hl, hz, hk, q⟩
  cases rx
  obtain ⟨uy, rfl, ry⟩ := rxs.one
  obtain ⟨t, rfl⟩ := ry
  obtain ⟨its, rv, pl, hlen⟩ := I.list hl
  exact PySem.SeqAt.list_index_ints (vs := its) pl.isList (ints_are rv) hz hk ⟨.int _, H, I.tok _, ⟨_, rfl⟩, q⟩
def mCount (ma mb : En → T W) : En → T W := fun en => (ma en).bind fun x => match x with
  | .d (.list ds) => (mb en).bind fun y => (dOf y).bind fun k => T.must (flatAll 20 ds && flat 20 k) (.ret (.d (.int ((ds.countP fun z => PyData.eqv z k : Nat) : Int))))
  | _ => .fail
def mIndex (ma mb : En → T W) : En → T W := fun en => (ma en).bind fun x => match x with
  | .d (.list ds) => (T.ofO (intsOf ds)).bind fun ns => (mb en).bind fun y => match y with
    | .d (.int k) => T.must (Nat.ble ns.length lim && ns.contains k) (.ret (.d (.int ((ns.idxOf k : Nat) : Int))))
    | _ => .fail
  | _ => .fail
theorem base_name {nm attr : Str} {p : Pos} {env : PySem.Env} : attributeBase (.Name nm p) attr env (eval (.Name nm p) env) = eval (.Name nm p) env := rfl
theorem se_count {ma mb : En → T W} {u1 u2 : Bool} {nm : Str} {p apos cpos : Pos} (ha : SE c (.Name nm p) ma u1) (hb : SE c e2 mb u2) (hn : notStar e2 = true) (hl : (apos.endLine == cpos.line) = true) :
    SE c (.Call (.Attribute (.Name nm p) "count" apos) [e2] [] cpos) (mCount ma mb) true := by
  intro Y X sx dy
  obtain ⟨ta, pa, sa⟩ := ha Y X sx dy
  obtain ⟨tb, pb, sb⟩ := hb Y X sx dy
  refine ⟨_, pe_bm PySem.F.plainAttrs_list PySem.F.slot_list_count PySem.F.type_list_count (mt_cntL (sx_units sx)) pa (pa_cons pb pa_nil (star_eq hn)) rfl (by rw [star_eq hn]; rfl) hl (star_eq hn), fun R en σ H Q rel k => sa R en σ H _ rel ?_⟩
  refine T.wp_mono ((T.wp_bind _ _ _).mp k) fun x kx => ?_
  intro v H1 F l1 r1 aw1 _
  split at kx
  · rename_i ds
    cases r1 with
    | @lst a vs _ F0 h ra =>
      have r1 : Rp Y.w Y.K H1 (.ref a) (.list ds) (a :: F0) := .lst h ra
      refine ⟨.inl ⟨rfl, vs, SqL.of h⟩, sb R en σ H1 _ (rel.le l1) ?_⟩
      refine T.wp_mono ((T.wp_bind _ _ _).mp kx) fun y ky => ?_
      intro u H2 Fy l2 r2 aw2 _
      obtain ⟨d, rfl, ky⟩ := dOf_wp ((T.wp_bind _ _ _).mp ky)
      obtain ⟨hb, ky⟩ := T.wp_must ky
      rw [Bool.and_eq_true] at hb
      have r1 := Rp.le l2 (l1.row rel.ri) r1 aw1
      refine ⟨a, u, d, ds, rfl, rfl, ?_, by rw [sx.K]; exact Rp.dp r2 (flat_plain 20 _ hb.2).1, hb.1, hb.2, ky _ H2 [] (l1.trans l2) (.int _) Away.nil fun _ => Uniq.nil⟩
      rw [sx.K]
      exact Rp.dp r1 (by simpa [PyData.plain] using (flat_plains 20 _ hb.1).1)
  · exact kx.elim
theorem se_index {ma mb : En → T W} {u1 u2 : Bool} {nm : Str} {p apos cpos : Pos} (ha : SE c (.Name nm p) ma u1) (hb : SE c e2 mb u2) (hn : notStar e2 = true) (hl : (apos.endLine == cpos.line) = true) :
    SE c (.Call (.Attribute (.Name nm p) "index" apos) [e2] [] cpos) (mIndex ma mb) true := by
  intro Y X sx dy
  obtain ⟨ta, pa, sa⟩ := ha Y X sx dy
  obtain ⟨tb, pb, sb⟩ := hb Y X sx dy
  refine ⟨_, pe_bm PySem.F.plainAttrs_list PySem.F.slot_list_index PySem.F.type_list_index mt_idxI pa (pa_cons pb pa_nil (star_eq hn)) rfl (by rw [star_eq hn]; rfl) hl (star_eq hn), fun R en σ H Q rel k => sa R en σ H _ rel ?_⟩
  refine T.wp_mono ((T.wp_bind _ _ _).mp k) fun x kx => ?_
  intro v H1 F l1 r1 aw1 _
  split at kx
  · rename_i ds
    obtain ⟨ns, hns, kz⟩ := T.wp_ofO ((T.wp_bind _ _ _).mp kx)
    clear kx
    have e := intsOf_eq hns
    subst e
    cases r1 with
    | @lst a vs _ F0 h ra =>
      obtain ⟨rfl, rfl⟩ := ra.ints
      refine ⟨.inl ⟨rfl, _, SqL.of h⟩, sb R en σ H1 _ (rel.le l1) ?_⟩
      refine T.wp_mono ((T.wp_bind _ _ _).mp kz) fun y ky => ?_
      intro u H2 Fy l2 r2 aw2 _
      split at ky
      · obtain ⟨hb, ky⟩ := T.wp_must ky
        rw [Bool.and_eq_true] at hb
        cases r2
        have h2 := lst_le l2 (not_row aw1) h
        exact ⟨a, ns, _, rfl, rfl, SqL.of h2, lim_size (bleD hb.1), List.contains_iff_mem.mp hb.2, ky _ H2 [] (l1.trans l2) (.int _) Away.nil fun _ => Uniq.nil⟩
      · exact ky.elim
  · exact kx.elim
end
end G

set_option Elab.async false
set_option linter.all false
set_option maxRecDepth 100000
/-! G32: dicts walked: keys, values, items. -/
namespace G
open PySem PySem.Spec PyProof.Rows L2
section
variable {X : Cx} {pins : List (Addr × Obj)} {σ : L2.St} {H : Hp} {s : Shared} {d : Addr} {o : Obj}
/-- what is known of a walked dict's object -/
structure Wk (X : Cx) (s : Shared) (d : Addr) (o : Obj) (ps : List Ent) (es : Array DictEntry) (ep : Nat) : Prop where
  sys : (d == sysModules) = false
  at_ : s.heap.get? d = some o
  ex : o.ExactDict
  data : o.data = .dict es ep
  size : es.size = ps.length
  len : ps.length ≤ sizeLine
  ent : ∀ (i : Nat) (p : Ent), ps[i]? = some p → ∃ en, es[i]? = some en ∧ RelV p.2.1 en.key ∧ RelV p.2.2 en.val
theorem wk_of {ps : List Ent} (I : Inv X pins σ H s) (h : H d = some (.frz o (DX d (hs X.w ps)))) : ∃ es ep, Wk X s d o ps es ep := by
  obtain ⟨o', es, ep, op⟩ := dx_open I (.inr ⟨o, h⟩)
  have e1 : s.heap.get? d = some o := (I.hok d _ h).1
  have e : o' = o := Option.some.inj (op.at_.symm.trans e1)
  subst e
  refine ⟨es, ep, op.sys, e1, op.ex, op.data, op.size, op.len, fun i p hp => ?_⟩
  have hi : i < es.size := by rw [op.size]; exact (List.getElem?_eq_some_iff.mp hp).1
  have h1 : es[i]? = some es[i] := Array.getElem?_eq_getElem hi
  obtain ⟨q, h2, h3⟩ := esr_get (ps := ps) op.es (i := i) (by rw [Array.getElem?_toList]; exact h1)
  rw [hp] at h2
  cases h2
  exact ⟨_, h1, h3⟩
theorem Wk.raw {ps : List Ent} {es : Array DictEntry} {ep : Nat} (k : Wk X s d o ps es ep) : s.heap.DictRaw d es ep := ⟨o, k.at_, k.ex, k.data⟩
end
/-- the keys -/
def ItKX (w : World) (d : Addr) (o : Obj) (ps : List Ent) : It :=
  ⟨fun i H => H d = some (.frz o (DX d (hs w ps))) ∧ i < ps.length, fun i H x H' => H' = H ∧ ∃ p, ps[i]? = some p ∧ x = p.2.1, fun i H => H d = some (.frz o (DX d (hs w ps))) ∧ ps.length ≤ i⟩
/-- the values -/
def ItVX (w : World) (d : Addr) (o : Obj) (ps : List Ent) : It :=
  ⟨fun i H => H d = some (.frz o (DX d (hs w ps))) ∧ i < ps.length, fun i H x H' => H' = H ∧ ∃ p, ps[i]? = some p ∧ x = p.2.2, fun i H => H d = some (.frz o (DX d (hs w ps))) ∧ ps.length ≤ i⟩
/-- the pairs -/
def ItIX (w : World) (d : Addr) (o : Obj) (ps : List Ent) : It :=
  ⟨fun i H => H d = some (.frz o (DX d (hs w ps))) ∧ i < ps.length, fun i H x H' => ∃ T p, ps[i]? = some p ∧ x = .ref T ∧ H T = none ∧ H' = upd H T (.tup [p.2.1, p.2.2]), fun i H => H d = some (.frz o (DX d (hs w ps))) ∧ ps.length ≤ i⟩
section
variable {P : Program} {w : World} {K : PySem.W.Frag} {tg : Expr} {d : Addr} {o : Obj} {es : Array DictEntry} {ep : Nat} {ps : List Ent}
theorem dep {o : Obj} {es es' : Array DictEntry} {ep ep' : Nat} (h : o.data = .dict es ep) (h' : o.data = .dict es' ep') : es' = es ∧ ep' = ep := by rw [h] at h'; cases h'; exact ⟨rfl, rfl⟩
theorem turnKX (it : Addr) (hod : o.data = .dict es ep) : Turn P w K tg (ItKX w d o ps) [it] it (fun i h => h.IsKeyIter it d i ps.length ep) where
  mem := List.mem_singleton.mpr rfl
  obj := fun i h st b hb => by
    cases List.mem_singleton.mp hb
    obtain ⟨oi, e, c, dd⟩ := st
    exact ⟨oi, e, fun v z => by rw [dd] at z; cases z⟩
  keep := fun i h h' st k => st.at fun oi e => k it (List.mem_singleton.mpr rfl) oi e
  item := by
    intro X hP hw hK hc i pins s σ H E I hf st ⟨hd, hi⟩
    subst hP hw hK
    obtain ⟨f0, f1, f2, f3, f4, f5⟩ := hf it (List.mem_singleton.mpr rfl)
    obtain ⟨es1, ep1, wk⟩ := wk_of I hd
    obtain ⟨rfl, rfl⟩ := dep hod wk.data
    obtain ⟨p, hp⟩ : ∃ p, ps[i]? = some p := ⟨ps[i], List.getElem?_eq_getElem hi⟩
    obtain ⟨en, hen, rk, rv⟩ := wk.ent i p hp
    refine next_key_item st wk.at_ wk.data wk.size hen fun h1 st1 sb => ?_
    have I1 : Inv X pins σ H { s with heap := h1 } := I.turned (t' := s.toks) (fun b ob hb e => Eq.trans (sb.2 b hb) e) f0 f1 f3 f4 f5
    obtain ⟨oi, e, c, dd⟩ := id st1
    exact ⟨en.key, rfl, go_of (s := { s with heap := h1 }) e c dd (by decide) ⟨p.2.1, H, I1, rk, ⟨rfl, p, hp, rfl⟩, st1, fun b hb => (hf b hb).1⟩⟩
  done := by
    intro X hP hw hK hc i pins s σ H E I hf st ⟨hd, hi⟩
    subst hP hw hK
    obtain ⟨f0, f1, f2, f3, f4, f5⟩ := hf it (List.mem_singleton.mpr rfl)
    obtain ⟨es1, ep1, wk⟩ := wk_of I hd
    obtain ⟨rfl, rfl⟩ := dep hod wk.data
    exact next_key_end (I.ok.hd hc) st wk.at_ wk.data wk.size hi fun h1 eb => ⟨rfl, I.turned (t' := s.toks) (fun b ob hb e => eb b ob hb e) f0 f1 f3 f4 f5⟩
  self := fun A i s Q E st h => by
    refine wpAny_pyIter_slot st.typeIs F.slot_dict_keyiterator_iter (wpAny_call_entry F.slot_dict_keyiterator_iter st.typeIs F.entry_dict_keyiterator_iter ?_ (F.args_dict_keyiterator_iter_1 (.ref it)))
    show wpAny _ _ (ret (.ref it)) _ _ s
    exact wpAny_pure (show _ from ⟨_, rfl, "dict_keyiterator", _, st.typeIs, F.slot_dict_keyiterator_next.lookup, h⟩)
theorem turnVX (it : Addr) (hod : o.data = .dict es ep) : Turn P w K tg (ItVX w d o ps) [it] it (fun i h => h.IsValIter it d i ps.length ep) where
  mem := List.mem_singleton.mpr rfl
  obj := fun i h st b hb => by
    cases List.mem_singleton.mp hb
    obtain ⟨oi, e, c, dd⟩ := st
    exact ⟨oi, e, fun v z => by rw [dd] at z; cases z⟩
  keep := fun i h h' st k => st.at fun oi e => k it (List.mem_singleton.mpr rfl) oi e
  item := by
    intro X hP hw hK hc i pins s σ H E I hf st ⟨hd, hi⟩
    subst hP hw hK
    obtain ⟨f0, f1, f2, f3, f4, f5⟩ := hf it (List.mem_singleton.mpr rfl)
    obtain ⟨es1, ep1, wk⟩ := wk_of I hd
    obtain ⟨rfl, rfl⟩ := dep hod wk.data
    obtain ⟨p, hp⟩ : ∃ p, ps[i]? = some p := ⟨ps[i], List.getElem?_eq_getElem hi⟩
    obtain ⟨en, hen, rk, rv⟩ := wk.ent i p hp
    obtain ⟨hlt, hen⟩ := Array.getElem?_eq_some_iff.mp hen
    rw [← wk.size] at st
    refine wpAny_pyNext_values_item_raw st wk.raw hlt fun h1 st1 sb => ?_
    have I1 : Inv X pins σ H { s with heap := h1 } := I.turned (t' := s.toks) (fun b ob hb e => Eq.trans (sb.2 b hb) e) f0 f1 f3 f4 f5
    rw [wk.size] at st1
    obtain ⟨oi, e, c, dd⟩ := id st1
    exact ⟨_, rfl, go_of (s := { s with heap := h1 }) e c dd (by decide) ⟨p.2.2, H, I1, by rw [hen]; exact rv, ⟨rfl, p, hp, rfl⟩, st1, fun b hb => (hf b hb).1⟩⟩
  done := by
    intro X hP hw hK hc i pins s σ H E I hf st ⟨hd, hi⟩
    subst hP hw hK
    obtain ⟨f0, f1, f2, f3, f4, f5⟩ := hf it (List.mem_singleton.mpr rfl)
    obtain ⟨es1, ep1, wk⟩ := wk_of I hd
    obtain ⟨rfl, rfl⟩ := dep hod wk.data
    rw [← wk.size] at st hi
    exact wpAny_pyNext_values_end_raw (I.ok.hd hc) st wk.raw hi fun h1 eb => ⟨rfl, I.turned (t' := s.toks) (fun b ob hb e => eb b ob hb e) f0 f1 f3 f4 f5⟩
  self := fun A i s Q E st h => wpAny_pyIter_valiter st h
theorem turnIX {elts : List Expr} {kk : Nat} {tpos : Pos} (it : Addr) (hod : o.data = .dict es ep) :
    Turn P w K (.Tuple elts kk tpos) (ItIX w d o ps) [it] it (fun i h => ∃ ok ov, IsItemIter h it d i ps.length ep ok ov) where
  mem := List.mem_singleton.mpr rfl
  obj := fun i h st b hb => by
    cases List.mem_singleton.mp hb
    obtain ⟨ok, ov, e⟩ := st
    exact ⟨_, e, fun v z => nomatch z⟩
  keep := fun i h h' st k => let ⟨ok, ov, e⟩ := st; ⟨ok, ov, k it (List.mem_singleton.mpr rfl) _ e⟩
  item := by
    intro X hP hw hK hc i pins s σ H E I hf st ⟨hd, hi⟩
    subst hP hw hK
    obtain ⟨es1, ep1, wk⟩ := wk_of I hd
    obtain ⟨rfl, rfl⟩ := dep hod wk.data
    obtain ⟨p, hp⟩ : ∃ p, ps[i]? = some p := ⟨ps[i], List.getElem?_eq_getElem hi⟩
    obtain ⟨en, hen, rk, rv⟩ := wk.ent i p hp
    obtain ⟨hlt, hen⟩ := Array.getElem?_eq_some_iff.mp hen
    obtain ⟨ok, ov, he⟩ := st
    have hT0 : it < s.heap.objs.size := Heap.lt_size he
    rw [← wk.size] at he
    refine wpAny_pyNext_items_item_raw he wk.raw hlt fun h1 ho hT hz hk => ?_
    refine ⟨_, rfl, wpAny_letOwnedTupleGo_items (s := { s with heap := h1 }) ho fun h2 he2 sb => ?_⟩
    have hT2 : h2.get? s.heap.objs.size = some { cls := .type "tuple", data := .seq #[es1[i].key, es1[i].val] } := Eq.trans (sb.2 _ (Nat.ne_of_gt hT0)) hT
    have new : ObjOk X.prog X.w (upd H s.heap.objs.size (.tup [p.2.1, p.2.2])) h2 s.heap.objs.size (.tup [p.2.1, p.2.2]) :=
      ⟨show 2 ≤ sizeLine by decide, [es1[i].key, es1[i].val], .cons (by rw [hen]; exact rk) (.cons (by rw [hen]; exact rv) .nil), ⟨_, hT2, rfl, _, rfl⟩⟩
    have I1 : Inv X pins σ (upd H s.heap.objs.size (.tup [p.2.1, p.2.2])) { s with heap := h2 } :=
      I.turnedNew (t' := s.toks) (ch := [it]) (fun b ob hb e => by
        have hb : b ≠ it := fun z => hb (List.mem_singleton.mpr z)
        exact (sb.2 b hb).trans (hk b ob hb e)) hf (Nat.le_refl _) new
    refine ⟨.ref s.heap.objs.size, _, I1, rfl, ⟨_, p, hp, rfl, I.hok.fresh (Nat.le_refl _), rfl⟩, ⟨_, _, by rw [← wk.size]; exact he2⟩, fun b hb => ?_⟩
    cases List.mem_singleton.mp hb
    rw [upd_ne (Nat.ne_of_lt hT0)]
    exact (hf it hb).1
  done := by
    intro X hP hw hK hc i pins s σ H E I hf st ⟨hd, hi⟩
    subst hP hw hK
    obtain ⟨f0, f1, f2, f3, f4, f5⟩ := hf it (List.mem_singleton.mpr rfl)
    obtain ⟨es1, ep1, wk⟩ := wk_of I hd
    obtain ⟨rfl, rfl⟩ := dep hod wk.data
    obtain ⟨ok, ov, he⟩ := st
    rw [← wk.size] at he hi
    exact wpAny_pyNext_items_end_raw (I.ok.hd hc) he wk.raw hi fun h1 eb => ⟨rfl, I.turned (t' := s.toks) (fun b ob hb e => eb b ob hb e) f0 f1 f3 f4 f5⟩
  self := fun A i s Q E st h => let ⟨_, _, e⟩ := st; PySem.W.kcp_self e h
end
end G

set_option Elab.async false
set_option linter.all false
set_option maxRecDepth 100000
/-! G33: what a loop walks, dicts among it. -/
namespace G
open PySem PySem.Spec PyProof.Rows L2
section
variable {X : Cx} {tg e l : Expr} {td tl : TE} {apos cpos : Pos}
/-- a dict: walked already, or to be walked from now on -/
def wkD (w : World) (It' : World → Addr → Obj → List Ent → It) (R : It → Hp → Prop) (x : V) (H : Hp) : Prop :=
  ∃ d ps, x = .ref d ∧ ((∃ o, H d = some (.frz o (DX d (hs w ps))) ∧ R (It' w d o ps) H) ∨ (H d = some (DX d (hs w ps)) ∧ ∀ o, R (It' w d o ps) (upd H d (.frz o (DX d (hs w ps))))))
theorem wkD_frz {pins : List (Addr × Obj)} {σ : L2.St} {H : Hp} {s : Shared} {It' : World → Addr → Obj → List Ent → It} {R : It → Hp → Prop} {x : V} (I : Inv X pins σ H s) (h : wkD X.w It' R x H) :
    ∃ d o ps H1, x = .ref d ∧ Inv X pins σ H1 s ∧ H1 d = some (.frz o (DX d (hs X.w ps))) ∧ R (It' X.w d o ps) H1 := by
  obtain ⟨d, ps, rfl, ⟨o, h1, q⟩ | ⟨h1, q⟩⟩ := h
  · exact ⟨d, o, ps, H, rfl, I, h1, q⟩
  · obtain ⟨od, I1⟩ := I.lock h1 True.intro
    exact ⟨d, od, ps, _, rfl, I1, upd_same, q od⟩
/-- lists, tuples, a dict's keys -/
def iAny (X : Cx) (tl : TE) : TI := fun σ H R => tl σ H fun x H1 => (∃ a, x = .ref a ∧ ((∃ xs, SqL X.K H1 a xs ∧ R (Itl X.K a) H1) ∨ ∃ xs, SqT X.K H1 a xs ∧ R (Itt X.K a) H1)) ∨ wkD X.w ItKX R x H1
theorem pi_any (hl : PE X l tl) : PI X tg l (iAny X tl) := by
  refine ⟨fun pins s0 σ H Rk Iv hw => ?_⟩
  refine thn (hl.run pins s0 σ H _ Iv hw) ?_
  rintro v t1 ⟨x, H2, I2, r2, ⟨a, rfl, ⟨xs, hq, q⟩ | ⟨xs, hq, q⟩⟩ | hk⟩
  · cases r2
    obtain ⟨us, _, pl, _⟩ := I2.list hq
    refine wpAny_pyIter_list (l := a) (items := us.toArray) pl.isList ⟨_, [_], _, _, H2, rfl, I2.kept (t' := t1.toks) fun b o e => Heap.get?_push_of_some _ e, turn_list a t1.heap.objs.size, ⟨_, Heap.get?_push_size _ rfl, rfl, rfl⟩, ?_, q⟩
    rintro b hb
    rw [List.mem_singleton.mp hb]
    exact I2.fpOk (Nat.le_refl _) I2.fresh
  · cases r2
    obtain ⟨us, _, pl, _⟩ := I2.tuple hq
    refine wpAny_pyIter_tuple (t := a) (items := us.toArray) pl ⟨_, [_], _, _, H2, rfl, I2.kept (t' := t1.toks) fun b o e => Heap.get?_push_of_some _ e, turn_tuple a t1.heap.objs.size, ⟨_, Heap.get?_push_size _ rfl, rfl, rfl⟩, ?_, q⟩
    rintro b hb
    rw [List.mem_singleton.mp hb]
    exact I2.fpOk (Nat.le_refl _) I2.fresh
  · obtain ⟨d, o, ps, H1, rfl, I1, hd, q⟩ := wkD_frz I2 hk
    cases r2
    obtain ⟨es, ep, wk⟩ := wk_of I1 hd
    refine iter_keys wk.sys wk.at_ wk.ex wk.data (pi_one (tk := t1.toks) I1 _ (turnKX _ wk.data) ⟨_, Heap.get?_push_size _ rfl, rfl, ?_⟩ q)
    rw [wk.size] <;> rfl
theorem Wk.ty {s : Shared} {d : Addr} {o : Obj} {ps : List Ent} {es : Array DictEntry} {ep : Nat} (k : Wk X s d o ps es ep) : s.TypeIs (.ref d) "dict" := ⟨o, k.at_, k.ex.1⟩
theorem Wk.nod {s : Shared} {d : Addr} {o : Obj} {ps : List Ent} {es : Array DictEntry} {ep : Nat} (k : Wk X s d o ps es ep) : ∀ a, Value.ref d = .ref a → ∃ ob, s.heap.get? a = some ob ∧ ob.dict = none := fun a z => by
  cases z
  exact ⟨o, k.at_, k.ex.2.1⟩
def iVal (X : Cx) (tl : TE) : TI := fun σ H R => tl σ H fun x H1 => wkD X.w ItVX R x H1
theorem pi_valX (he : PE X e td) (hb : attributeBase e "values" X.env (eval e X.env) = eval e X.env) (hl : (apos.endLine == cpos.line) = true) : PI X tg (.Call (.Attribute e "values" apos) [] [] cpos) (iVal X td) := by
  refine ⟨fun pins s σ H R I h => ?_⟩
  refine wpAny_Call_method (T := "dict") (id := "dict.values") hb rfl hl F.plainAttrs_dict F.slot_dict_values F.type_dict_values (thn (he.run pins s σ H _ I h) fun u s1 ⟨x, H2, I2, rx, hk⟩ => ?_)
  obtain ⟨d, o, ps, H1, rfl, I1, hd, q⟩ := wkD_frz I2 hk
  cases rx
  obtain ⟨es, ep, wk⟩ := wk_of I1 hd
  refine ⟨wk.ty, wk.nod, ?_⟩
  have I2 : Inv X pins σ H1 { s1 with heap := s1.heap.push { cls := .type "dict_values", data := .fields #[.ref d] } } := I1.kept (t' := s1.toks) fun b ob z => Heap.get?_push_of_some _ z
  obtain ⟨es2, ep2, wk2⟩ := wk_of I2 hd
  obtain ⟨rfl, rfl⟩ := dep wk.data wk2.data
  have fin : wpAny (model X.prog X.w) X.A (pyIter (.ref s1.heap.objs.size)) (PIE X pins σ tg R) X.xe { s1 with heap := s1.heap.push { cls := .type "dict_values", data := .fields #[.ref d] } } := by
    refine wpAny_pyIter_values_raw (d := d) ⟨_, Heap.get?_push_size _ rfl, rfl, rfl⟩ wk2.raw (pi_one (tk := s1.toks) I2 _ (turnVX _ wk2.data) ⟨_, Heap.get?_push_size _ rfl, rfl, ?_⟩ q)
    rw [wk2.size] <;> rfl
  show wpAny _ _ (callWith cpos (.builtin "dict.values") [.ref d] [] []) _ X.xe s1
  exact method_meetsIn F.slot_dict_values F.entry_dict_values rfl (PySem.evalArgs_none ⟨rfl, wk.ty, F.args_dict_values_1 _, _, meets_dict_values_raw d wk.sys, ⟨_, _, wk.raw⟩, fin⟩)
def iItm (X : Cx) (tl : TE) : TI := fun σ H R => tl σ H fun x H1 => wkD X.w ItIX R x H1
theorem pi_itmX {elts : List Expr} {kk : Nat} {tpos : Pos} (he : PE X e td) (hb : attributeBase e "items" X.env (eval e X.env) = eval e X.env) (hl : (apos.endLine == cpos.line) = true) :
    PI X (.Tuple elts kk tpos) (.Call (.Attribute e "items" apos) [] [] cpos) (iItm X td) := by
  refine ⟨fun pins s σ H R I h => ?_⟩
  refine wpAny_Call_method (T := "dict") (id := "dict.items") hb rfl hl F.plainAttrs_dict F.slot_dict_items F.type_dict_items (thn (he.run pins s σ H _ I h) fun u s1 ⟨x, H2, I2, rx, hk⟩ => ?_)
  obtain ⟨d, o, ps, H1, rfl, I1, hd, q⟩ := wkD_frz I2 hk
  cases rx
  obtain ⟨es, ep, wk⟩ := wk_of I1 hd
  refine ⟨wk.ty, wk.nod, ?_⟩
  have I2 : Inv X pins σ H1 { s1 with heap := s1.heap.push { cls := .type "dict_items", data := .fields #[.ref d] } } := I1.kept (t' := s1.toks) fun b ob z => Heap.get?_push_of_some _ z
  obtain ⟨es2, ep2, wk2⟩ := wk_of I2 hd
  obtain ⟨rfl, rfl⟩ := dep wk.data wk2.data
  have fin : wpAny (model X.prog X.w) X.A (pyIter (.ref s1.heap.objs.size)) (PIE X pins σ (.Tuple elts kk tpos) R) X.xe { s1 with heap := s1.heap.push { cls := .type "dict_items", data := .fields #[.ref d] } } := by
    refine wpAny_pyIter_items_raw (d := d) ⟨_, Heap.get?_push_size _ rfl, rfl, rfl⟩ wk2.raw (pi_one (tk := s1.toks) I2 _ (turnIX _ wk2.data) ⟨.none, .none, ?_⟩ q)
    rw [← wk2.size]
    exact Heap.get?_push_size _ rfl
  show wpAny _ _ (callWith cpos (.builtin "dict.items") [.ref d] [] []) _ X.xe s1
  exact method_meetsIn F.slot_dict_items F.entry_dict_items rfl (PySem.evalArgs_none ⟨rfl, wk.ty, F.args_dict_items_1 _, _, meets_dict_items_raw d wk.sys, ⟨_, _, wk.raw⟩, fin⟩)
end
section
variable {Y : Dyn} {R : Rw} {P : Addr → Prop} {H H1 H2 H' : Hp} {uq : Bool} {Q : VK} {x y : W} {v : V} {F : List Addr} {c : Sc} {e e1 e2 e3 tg : Expr} {pos : Pos} {en : En} {σ : L2.St} {Fs : Nat → List Addr} {D : Ends} {d : Addr} {o : Obj} {ps : List Ent} {kvs : List (PyData × PyData)}
theorem RpD.at {w : World} {K : PySem.W.Frag} : ∀ {ps : List Ent} {kvs : List (PyData × PyData)} {F : List Addr} {i : Nat} {q : PyData × PyData}, RpD w K H ps kvs F → kvs[i]? = some q → ∃ p Fi, ps[i]? = some p ∧ Rp w K H p.2.1 q.1 [] ∧ Rp w K H p.2.2 q.2 Fi ∧ ∀ a ∈ Fi, a ∈ F
  | _, _, _, i, _, .nil, h => by simp at h
  | _, _, _, 0, q, .cons (F := F1) e k h r, hq => by
    cases hq
    exact ⟨_, F1, rfl, k, h, fun a ha => List.mem_append_left _ ha⟩
  | _, _, _, i + 1, q, .cons e k h r, hq => by
    obtain ⟨p, Fi, h1, h2, h3, h4⟩ := RpD.at r (show _ = some q from hq)
    exact ⟨p, Fi, h1, h2, h3, fun a ha => List.mem_append_right _ (h4 a ha)⟩
def keysW (kvs : List (PyData × PyData)) : List W := kvs.map fun q => W.d q.1
def valsW (kvs : List (PyData × PyData)) : List W := kvs.map fun q => W.d q.2
def itmsW (kvs : List (PyData × PyData)) : List W := kvs.map fun q => W.d (.tuple [q.1, q.2])
theorem mapW_get {f : PyData × PyData → W} {i : Nat} {x : W} (h : (kvs.map f)[i]? = some x) : ∃ q, kvs[i]? = some q ∧ x = f q := by
  rw [List.getElem?_map] at h
  obtain ⟨q, h1, h2⟩ := Option.map_eq_some_iff.mp h
  exact ⟨q, h1, h2.symm⟩
theorem mapW_none {f : PyData × PyData → W} {i : Nat} (h : (kvs.map f)[i]? = none) : kvs.length ≤ i := by
  rw [List.getElem?_map, Option.map_eq_none_iff, List.getElem?_eq_none_iff] at h
  exact h
theorem it_keysX (h : H d = some (.frz o (DX d (hs Y.w ps)))) (r : RpD Y.w Y.K H ps kvs F) (aw : Away R F) : ItOk Y R (ItKX Y.w d o ps) H (keysW kvs) F where
  aw := aw
  tr := r.tracked
  go := fun i x H' hx l => by
    obtain ⟨q, hq, rfl⟩ := mapW_get hx
    obtain ⟨p, Fi, h1, h2, h3, h4⟩ := r.at hq
    refine ⟨⟨l.frz d o _ h, (List.getElem?_eq_some_iff.mp h1).1⟩, fun v H'' ⟨e, p', hp', ev⟩ => ?_⟩
    subst e ev
    rw [h1] at hp'
    cases hp'
    exact ⟨Le.refl, [], Rp.leP l h2 Away.nil (fun _ z => nomatch z), fun _ z => nomatch z⟩
  stop := fun i H' hx l => ⟨l.frz d o _ h, by rw [r.length]; exact mapW_none hx⟩
theorem it_valsX (h : H d = some (.frz o (DX d (hs Y.w ps)))) (r : RpD Y.w Y.K H ps kvs F) (aw : Away R F) : ItOk Y R (ItVX Y.w d o ps) H (valsW kvs) F where
  aw := aw
  tr := r.tracked
  go := fun i x H' hx l => by
    obtain ⟨q, hq, rfl⟩ := mapW_get hx
    obtain ⟨p, Fi, h1, h2, h3, h4⟩ := r.at hq
    refine ⟨⟨l.frz d o _ h, (List.getElem?_eq_some_iff.mp h1).1⟩, fun v H'' ⟨e, p', hp', ev⟩ => ?_⟩
    subst e ev
    rw [h1] at hp'
    cases hp'
    exact ⟨Le.refl, Fi, Rp.leP l h3 (away_sub aw h4) h4, h4⟩
  stop := fun i H' hx l => ⟨l.frz d o _ h, by rw [r.length]; exact mapW_none hx⟩
theorem it_itmsX (h : H d = some (.frz o (DX d (hs Y.w ps)))) (r : RpD Y.w Y.K H ps kvs F) (aw : Away R F) (ri : RowI R Y.K H) : ItOk Y R (ItIX Y.w d o ps) H (itmsW kvs) F where
  aw := aw
  tr := r.tracked
  go := fun i x H' hx l => by
    obtain ⟨q, hq, rfl⟩ := mapW_get hx
    obtain ⟨p, Fi, h1, h2, h3, h4⟩ := r.at hq
    refine ⟨⟨l.frz d o _ h, (List.getElem?_eq_some_iff.mp h1).1⟩, fun v H'' ⟨T', p', hp', ev, hT, e⟩ => ?_⟩
    subst e ev
    rw [h1] at hp'
    cases hp'
    have l2 : Le R Y.K H' (upd H' T' (.tup [p.2.1, p.2.2])) := Le.new hT
    have ri' := l.row ri
    refine ⟨l2, Fi ++ [], .tup (SqT.of upd_same) (.cons (F := []) (Rp.le l2 ri' (Rp.leP l h2 Away.nil (fun _ z => nomatch z)) Away.nil) (.cons (Rp.le l2 ri' (Rp.leP l h3 (away_sub aw h4) h4) (away_sub aw h4)) .nil)), fun a ha => h4 a (by simpa using ha)⟩
  stop := fun i H' hx l => ⟨l.frz d o _ h, by rw [r.length]; exact mapW_none hx⟩
/-- a dict just made, or one that is walked -/
def dictW (u : Bool) (f : List (PyData × PyData) → List W) : W → T (List W)
  | .lk kvs => .ret (f kvs)
  | .d (.dict kvs) => T.must u (.ret (f kvs))
  | _ => .fail
theorem dict_walk {X : Cx} (sx : Sx c Y X) {It' : World → Addr → Obj → List Ent → It} {f : List (PyData × PyData) → List W} (hf : ∀ {R : Rw} {H : Hp} {d : Addr} {o : Obj} {ps : List Ent} {kvs : List (PyData × PyData)} {F : List Addr}, H d = some (.frz o (DX d (hs Y.w ps))) → RpD Y.w Y.K H ps kvs F → Away R F → RowI R Y.K H → ItOk Y R (It' Y.w d o ps) H (f kvs) F)
    {Q : It → Hp → Prop} (ri : RowI R Y.K H) (l1 : Le R Y.K H H1) (r : RpW Y R H1 v x F) (aw : Away R F) (u : uq = true → Uniq H F) (k : (dictW uq f x).wp fun ws => ∀ J H1 F, Le R Y.K H H1 → ItOk Y R J H1 ws F → Q J H1) : wkD X.w It' Q v H1 := by
  rw [sx.w]
  unfold dictW at k
  split at k
  · obtain ⟨d, o, ps, h1, rfl, h3, h4, h5⟩ := r
    exact ⟨d, ps, rfl, .inl ⟨o, h3, k _ _ _ l1 (hf h3 h4 aw (l1.row ri))⟩⟩
  · obtain ⟨hb, k⟩ := T.wp_must k
    cases r with
    | @dct d ps kvs F0 hp r nd =>
      have hd : H d = none := (u hb).2 d List.mem_cons_self
      have nF : d ∉ F0 := (List.nodup_cons.mp (u hb).1).1
      refine ⟨d, ps, rfl, .inr ⟨hp, fun o => ?_⟩⟩
      have l2 : Le R Y.K H (upd H1 d (.frz o (DX d (hs Y.w ps)))) := Le.updN ri hd l1 hp
      exact k _ _ _ l2 (hf upd_same (RpD.mut (.inr ⟨_, hp⟩) r nF) aw.tail (l2.row ri))
  · exact k.elim
/-- lists, tuples, dicts' keys -/
def itemsX (u : Bool) : W → T (List W)
  | .d (.list ds) => .ret (ds.map W.d)
  | .d (.tuple ds) => .ret (ds.map W.d)
  | x => dictW u keysW x
theorem si_any {m : En → T W} (h : SE c e m uq) : SI c tg e fun en => (m en).bind (itemsX uq) := by
  intro Y X sx dy
  obtain ⟨t, p, s⟩ := h Y X sx dy
  refine ⟨_, pi_any p, fun R en σ H Q rel k => s R en σ H _ rel ?_⟩
  refine T.wp_mono ((T.wp_bind _ _ _).mp k) fun x kx => ?_
  intro v H1 F l1 r1 aw1 u1
  unfold itemsX at kx
  split at kx
  · cases r1 with
    | lst h r =>
      refine .inl ⟨_, rfl, .inl ⟨_, SqL.of h, ?_⟩⟩
      rw [sx.K]
      exact kx _ H1 _ l1 (it_list h r aw1)
  · cases r1 with
    | tup h r =>
      refine .inl ⟨_, rfl, .inr ⟨_, by rw [sx.K]; exact h, ?_⟩⟩
      rw [sx.K]
      exact kx _ H1 _ l1 (it_tup h r aw1)
  · exact .inr (dict_walk sx (fun h r aw ri => it_keysX h r aw) rel.ri l1 r1 aw1 u1 kx)
theorem si_vals {m : En → T W} {apos cpos : Pos} (h : SE c e m uq) (hb : ∀ env : PySem.Env, attributeBase e "values" env (eval e env) = eval e env) (hl : (apos.endLine == cpos.line) = true) : SI c tg (.Call (.Attribute e "values" apos) [] [] cpos) fun en => (m en).bind (dictW uq valsW) := by
  intro Y X sx dy
  obtain ⟨t, p, s⟩ := h Y X sx dy
  refine ⟨_, pi_valX p (hb X.env) hl, fun R en σ H Q rel k => s R en σ H _ rel ?_⟩
  refine T.wp_mono ((T.wp_bind _ _ _).mp k) fun x kx => ?_
  intro v H1 F l1 r1 aw1 u1
  exact dict_walk sx (fun h r aw ri => it_valsX h r aw) rel.ri l1 r1 aw1 u1 kx
theorem si_itms {m : En → T W} {apos cpos tpos : Pos} {elts : List Expr} {kk : Nat} (h : SE c e m uq) (hb : ∀ env : PySem.Env, attributeBase e "items" env (eval e env) = eval e env) (hl : (apos.endLine == cpos.line) = true) : SI c (.Tuple elts kk tpos) (.Call (.Attribute e "items" apos) [] [] cpos) fun en => (m en).bind (dictW uq itmsW) := by
  intro Y X sx dy
  obtain ⟨t, p, s⟩ := h Y X sx dy
  refine ⟨_, pi_itmX p (hb X.env) hl, fun R en σ H Q rel k => s R en σ H _ rel ?_⟩
  refine T.wp_mono ((T.wp_bind _ _ _).mp k) fun x kx => ?_
  intro v H1 F l1 r1 aw1 u1
  exact dict_walk sx (fun h r aw ri => it_itmsX h r aw ri) rel.ri l1 r1 aw1 u1 kx
end
end G

set_option Elab.async false
set_option linter.all false
set_option maxRecDepth 100000
/-! G34: a dict that a name holds is walked: it is locked meanwhile. -/
namespace G
open PySem PySem.Spec PyProof.Rows L2
section
variable {K : PySem.W.Frag} {w : World} {R : Rw} {P : Addr → Prop} {H : Hp} {p : Addr} {o : HO}
mutual
theorem Rp.chg (hn : ∀ a xs, Rd H a (.tup xs) → a ≠ p) : ∀ {v : V} {d : D} {F : List Addr}, Rp w K H v d F → p ∉ F → Rp w K (upd H p o) v d F
  | _, _, _, .non, _ => .non
  | _, _, _, .bl b, _ => .bl b
  | _, _, _, .int i, _ => .int i
  | _, _, _, .str x, _ => .str x
  | _, _, _, .lst h r, nf => .lst (by rw [upd_ne (fun e => nf (by rw [e]; exact List.mem_cons_self))]; exact h) (RpA.chg hn r fun z => nf (List.mem_cons_of_mem _ z))
  | _, _, _, .tup (a := a) h r, nf => .tup (by
      rcases h with h | h
      · have ne := hn a _ h
        rcases h with h | ⟨ob, h⟩
        · exact .inl (.inl (by rw [upd_ne ne]; exact h))
        · exact .inl (.inr ⟨ob, by rw [upd_ne ne]; exact h⟩)
      · exact .inr h) (RpA.chg hn r nf)
  | _, _, _, .dct (a := a) h r e, nf => .dct (by
      have ne : a ≠ p := fun e => nf (by rw [e]; exact List.mem_cons_self)
      rw [upd_ne ne]; exact h) (RpD.chg hn r fun z => nf (List.mem_cons_of_mem _ z)) e
theorem RpA.chg (hn : ∀ a xs, Rd H a (.tup xs) → a ≠ p) : ∀ {vs : List V} {ds : List D} {F : List Addr}, RpA w K H vs ds F → p ∉ F → RpA w K (upd H p o) vs ds F
  | _, _, _, .nil, _ => .nil
  | _, _, _, .cons h r, nf => .cons (Rp.chg hn h fun z => nf (List.mem_append_left _ z)) (RpA.chg hn r fun z => nf (List.mem_append_right _ z))
theorem RpD.chg (hn : ∀ a xs, Rd H a (.tup xs) → a ≠ p) : ∀ {ps : List (NestedKey × V × V)} {kvs : List (D × D)} {F : List Addr}, RpD w K H ps kvs F → p ∉ F → RpD w K (upd H p o) ps kvs F
  | _, _, _, .nil, _ => .nil
  | _, _, _, .cons e k h r, nf => .cons e (Rp.chg hn k fun z => nomatch z) (Rp.chg hn h fun z => nf (List.mem_append_left _ z)) (RpD.chg hn r fun z => nf (List.mem_append_right _ z))
end
theorem RowOk.chg (hn : ∀ a xs, Rd H a (.lst xs) → a ≠ p) {r : Addr} (h : RowOk R K H r) : RowOk R K (upd H p o) r := by
  obtain ⟨a, b, c, h1, h2, h3⟩ := h
  refine ⟨a, b, c, by rw [upd_ne (hn r _ (.inl h1))]; exact h1, ?_, h3⟩
  rcases h2 with h2 | h2
  · have ne := hn _ _ h2
    rcases h2 with h2 | ⟨ob, h2⟩
    · exact .inl (.inl (by rw [upd_ne ne]; exact h2))
    · exact .inl (.inr ⟨ob, by rw [upd_ne ne]; exact h2⟩)
  · exact .inr h2
theorem nt_dx {ps : List (Int × V × V)} (h : H p = some (DX p ps)) : ∀ a xs, Rd H a (.tup xs) → a ≠ p := fun a xs r e => by
  subst e
  rcases r with r | ⟨_, r⟩ <;> rw [h] at r <;> cases r
theorem nl_dx {ps : List (Int × V × V)} (h : H p = some (DX p ps)) : ∀ a xs, Rd H a (.lst xs) → a ≠ p := fun a xs r e => by
  subst e
  rcases r with r | ⟨_, r⟩ <;> rw [h] at r <;> cases r
theorem nt_frz {ob : Obj} {ps : List (Int × V × V)} (h : H p = some (.frz ob (DX p ps))) : ∀ a xs, Rd H a (.tup xs) → a ≠ p := fun a xs r e => by
  subst e
  rcases r with r | ⟨_, r⟩ <;> rw [h] at r <;> cases r
theorem nl_frz {ob : Obj} {ps : List (Int × V × V)} (h : H p = some (.frz ob (DX p ps))) : ∀ a xs, Rd H a (.lst xs) → a ≠ p := fun a xs r e => by
  subst e
  rcases r with r | ⟨_, r⟩ <;> rw [h] at r <;> cases r
end
/-- the walked dict is d -/
def Rw.lock (R : Rw) (d : Addr) : Rw := ⟨R.row, R.scr, R.xs, R.hid, some d⟩
section
variable {Y : Dyn} {R : Rw} {P : Addr → Prop} {H H1 H2 H' : Hp} {uq : Bool} {Q : VK} {x y : W} {v : V} {F F0 : List Addr} {c : Sc} {e e1 e2 e3 tg : Expr} {pos : Pos} {en : En} {σ : L2.St} {Fs : Nat → List Addr} {D : Ends} {d : Addr} {o : Obj} {ps : List Ent} {kvs : List (PyData × PyData)}
theorem RowI.lock (ri : RowI R Y.K H) {u : HO} (hd : H d = some (DX d (hs Y.w ps))) : RowI (R.lock d) Y.K (upd H d u) :=
  ⟨fun r hr => RowOk.chg (R := R.lock d) (nl_dx hd) (show RowOk (R.lock d) Y.K H r from ri.row r hr), fun a ha => by
    obtain ⟨o, h⟩ := ri.hid a ha
    by_cases e : a = d
    · exact ⟨u, by rw [e, upd_same]⟩
    · exact ⟨o, by rw [upd_ne e]; exact h⟩⟩
theorem RowI.unlock (ri : RowI (R.lock d) Y.K H) {u : HO} (hd : H d = some (.frz o (DX d (hs Y.w ps)))) : RowI R Y.K (upd H d u) :=
  ⟨fun r hr => RowOk.chg (R := R) (nl_frz hd) (show RowOk R Y.K H r from ri.row r hr), fun a ha => by
    obtain ⟨o, h⟩ := ri.hid a ha
    by_cases e : a = d
    · exact ⟨u, by rw [e, upd_same]⟩
    · exact ⟨o, by rw [upd_ne e]; exact h⟩⟩

/-! ### in an expression -/
def lockO (j : Nat) (kvs : List (PyData × PyData)) (i : Nat) (s : Option Slot) : Option Slot := match Nat.beq i j with
  | true => some ⟨1, .lk kvs⟩
  | false => match s with
    | some t => match t.w.imm with
      | true => some t
      | false => none
    | none => none
def lockE (j : Nat) (kvs : List (PyData × PyData)) : Nat → En → En
  | _, [] => []
  | i, s :: en => lockO j kvs i s :: lockE j kvs (i + 1) en
theorem lockE_len {j : Nat} : ∀ {en : En} {i : Nat}, (lockE j kvs i en).length = en.length
  | [], _ => rfl
  | _ :: en, i => by unfold lockE; rw [List.length_cons, List.length_cons, lockE_len]
theorem lockE_get {j : Nat} : ∀ {en : En} {i k : Nat} {s : Slot}, (lockE j kvs i en)[k]? = some (some s) → (i + k = j ∧ s = ⟨1, .lk kvs⟩) ∨ (i + k ≠ j ∧ en[k]? = some (some s) ∧ s.w.imm = true)
  | [], _, _, _, h => by cases h
  | t :: en, i, 0, s, h => by
    have h : lockO j kvs i t = some s := Option.some.inj h
    unfold lockO at h
    cases hb : Nat.beq i j with
    | true =>
      rw [hb] at h
      cases h
      exact .inl ⟨Nat.eq_of_beq_eq_true hb, rfl⟩
    | false =>
      rw [hb] at h
      refine .inr ⟨fun z => ?_, ?_⟩
      · rw [← (show i = j from z), Nat.beq_refl] at hb; cases hb
      · cases t with
        | none => cases h
        | some t =>
          cases hi : t.w.imm with
          | false => simp only [hi] at h; cases h
          | true =>
            simp only [hi] at h
            cases h
            exact ⟨rfl, hi⟩
  | t :: en, i, k + 1, s, h => by
    have := lockE_get (en := en) (i := i + 1) (k := k) (s := s) h
    rw [show i + (k + 1) = i + 1 + k by omega]
    exact this
def immVals : List (PyData × PyData) → Bool
  | [] => true
  | q :: r => imm q.2 && immVals r
theorem RpD.immV {w : World} {K : PySem.W.Frag} : ∀ {ps : List Ent} {kvs : List (PyData × PyData)} {F : List Addr}, RpD w K H ps kvs F → immVals kvs = true → F = []
  | _, _, _, .nil, _ => rfl
  | _, _, _, .cons e k h r, hb => by
    unfold immVals at hb
    rw [Bool.and_eq_true] at hb
    rw [Rp.imm h hb.1, RpD.immV r hb.2]
    rfl
theorem PE.or {X : Cx} {t t' : TE} (h : PE X e t) (h' : PE X e t') : PE X e (fun σ H Q => t σ H Q ∨ t' σ H Q) := ⟨fun pins s σ H Q I q => q.elim (h.run pins s σ H Q I) (h'.run pins s σ H Q I)⟩
theorem PS.or {X : Cx} {st : Stmt} {t t' : TS} (h : PS X st t) (h' : PS X st t') : PS X st (fun D σ H => t D σ H ∨ t' D σ H) := ⟨fun pins s σ H D I q => q.elim (h.run pins s σ H D I) (h'.run pins s σ H D I)⟩
/-- an expression that may walk the dict in slot j -/
def mLock (j : Nat) (m : En → T W) : En → T W := fun en => match en[j]? with
  | some (some ⟨_, .d (.dict kvs)⟩) => T.must (immVals kvs) ((m (lockE j kvs 0 en)).bind fun x => (dOf x).bind fun d => .ret (.d d))
  | _ => m en
theorem se_lock {m : En → T W} (j : Nat) (h : SE c e m true) : SE c e (mLock j m) true := by
  intro Y X sx dy
  obtain ⟨t, p, s⟩ := h Y X sx dy
  refine ⟨_, PE.or p (pe_lock p), fun R en σ H Q rel k => ?_⟩
  unfold mLock at k
  split at k
  · rename_i fl kvs hsj
    obtain ⟨hv, k⟩ := T.wp_must k
    obtain ⟨v, F, e1, rv, aw⟩ := rel.at_ j _ hsj
    cases rv with
    | @dct d ps _ F0 hd r nd =>
      have e0 := r.immV hv
      subst e0
      refine .inr ⟨d, _, hd, True.intro, fun od => ?_⟩
      have hR : R.row ≠ some d := (aw d List.mem_cons_self).1
      have rel1 : RelW Y (R.lock d) (upd H d (.frz od (DX d (hs Y.w ps)))) (lockE j kvs 0 en) σ := by
        refine ⟨rel.ri.lock hd, by rw [lockE_len]; exact rel.len, fun i sl hsl => ?_⟩
        rcases lockE_get hsl with ⟨e, rfl⟩ | ⟨hne, hsl, him⟩
        · rw [Nat.zero_add] at e
          subst e
          exact ⟨_, [], e1, ⟨d, od, ps, rfl, rfl, upd_same, r.chg (nt_dx hd) (fun z => nomatch z), nd⟩, Away.nil⟩
        · obtain ⟨u, Fu, g1, g2, g3⟩ := rel.at_ i sl hsl
          have eF := g2.imm him
          subst eF
          refine ⟨u, [], g1, ?_, Away.nil⟩
          obtain ⟨fl, x⟩ := sl
          cases x with
          | d x => exact Rp.chg (nt_dx hd) g2 (fun z => nomatch z)
          | row => exact g2
          | lk kv => cases him
      refine s _ _ σ _ _ rel1 ?_
      refine T.wp_mono ((T.wp_bind _ _ _).mp k) fun x kx => ?_
      intro v H' F l rx awx ux
      obtain ⟨dx, rfl, kx⟩ := dOf_wp ((T.wp_bind _ _ _).mp kx)
      have hd' : H' d = some (.frz od (DX d (hs Y.w ps))) := l.keep d _ hR upd_same
      refine ⟨hd', ?_⟩
      have nF : d ∉ F := fun z => by
        have := (ux rfl).2 d z
        rw [upd_same] at this; cases this
      refine kx v _ F ⟨fun a u hr ha => ?_, fun a u ha => ?_, fun g r hr => ?_⟩ (Rp.chg (nt_frz hd') rx nF) awx fun _ => ⟨(ux rfl).1, fun a ha => ?_⟩
      · by_cases ea : a = d
        · subst ea
          rw [hd] at ha
          cases ha
          exact upd_same
        · rw [upd_ne ea]
          exact l.keep a u hr (by rw [upd_ne ea]; exact ha)
      · by_cases ea : a = d
        · exact ⟨_, by rw [ea, upd_same]⟩
        · rw [upd_ne ea]
          exact l.there a u (by rw [upd_ne ea]; exact ha)
      · exact RowOk.chg (R := R) (nl_frz hd') (show RowOk R Y.K H' r from l.rowR (fun r hr => RowOk.chg (R := R.lock d) (nl_dx hd) (show RowOk (R.lock d) Y.K H r from g r hr)) r hr)
      · have := (ux rfl).2 a ha
        rwa [upd_ne (fun z => nF (by rw [← z]; exact ha))] at this
  · exact .inl (s R en σ H Q rel k)
/-! ### in a statement -/
def notLk : En → Bool
  | [] => true
  | some ⟨_, .lk _⟩ :: _ => false
  | _ :: en => notLk en
theorem notLk_get : ∀ {en : En} {i : Nat} {fl : Nat} {kv : List (PyData × PyData)}, notLk en = true → en[i]? = some (some ⟨fl, .lk kv⟩) → False
  | [], _, _, _, _, h => by cases h
  | some ⟨_, .lk _⟩ :: en, i, _, _, hb, h => by cases hb
  | none :: en, 0, _, _, hb, h => by cases h
  | some ⟨_, .d _⟩ :: en, 0, _, _, hb, h => by cases h
  | some ⟨_, .row⟩ :: en, 0, _, _, hb, h => by cases h
  | none :: en, i + 1, _, _, hb, h => notLk_get (en := en) (i := i) hb h
  | some ⟨_, .d _⟩ :: en, i + 1, _, _, hb, h => notLk_get (en := en) (i := i) hb h
  | some ⟨_, .row⟩ :: en, i + 1, _, _, hb, h => notLk_get (en := en) (i := i) hb h
/-- what is kept when the dict is free again: its own things, and what does not change -/
def backO (s : Option Slot) : Option Slot := match s with
  | some ⟨fl, .d x⟩ => match Nat.beq fl 0 || imm x with
    | true => some ⟨fl, .d x⟩
    | false => none
  | some ⟨fl, .row⟩ => some ⟨fl, .row⟩
  | _ => none
def backE : En → En
  | [] => []
  | s :: en => backO s :: backE en
theorem backE_len : ∀ {en : En}, (backE en).length = en.length
  | [] => rfl
  | _ :: en => by unfold backE; rw [List.length_cons, List.length_cons, backE_len]
theorem backE_get : ∀ {en : En} {k : Nat} {s : Slot}, (backE en)[k]? = some (some s) → en[k]? = some (some s) ∧ ((∃ x, s.w = .d x ∧ (s.fl = 0 ∨ imm x = true)) ∨ s.w = .row)
  | [], _, _, h => by cases h
  | t :: en, 0, s, h => by
    have h : backO t = some s := Option.some.inj h
    unfold backO at h
    split at h
    · rename_i fl x
      split at h
      · rename_i hb
        cases h
        rw [Bool.or_eq_true] at hb
        exact ⟨rfl, .inl ⟨_, rfl, hb.imp Nat.eq_of_beq_eq_true id⟩⟩
      · cases h
    · cases h
      exact ⟨rfl, .inr rfl⟩
    · cases h
  | t :: en, k + 1, s, h => backE_get (en := en) (k := k) h
def lkBack (j : Nat) (kvs : List (PyData × PyData)) (en' : En) : T Out := match en'[j]? with
  | some (some ⟨_, .lk _⟩) => .ret (.nx ((backE en').set j (some ⟨0, .d (.dict kvs)⟩)))
  | _ => .fail
def lkEnd (j : Nat) (kvs : List (PyData × PyData)) : Out → T Out
  | .nx en' => lkBack j kvs en'
  | .rt x => (dOf x).bind fun d => .ret (.rt (.d d))
  | _ => .fail
/-- a statement that may walk the dict in slot j -/
def mLockS (j : Nat) (m : En → T Out) : En → T Out := fun en => match en[j]? with
  | some (some ⟨0, .d (.dict kvs)⟩) => T.must (notLk en) ((m (en.set j (some ⟨1, .lk kvs⟩))).bind (lkEnd j kvs))
  | _ => m en
theorem lock_le {P' : Addr → Prop} {od : Obj} (hd : H d = some (DX d (hs Y.w ps))) (hP : ∀ a, P a → P' a) (hdP : ¬ P d) (hd' : H' d = some (.frz od (DX d (hs Y.w ps)))) (l : LeP (R.lock d) Y.K P' (upd H d (.frz od (DX d (hs Y.w ps)))) H') : LeP R Y.K P H (upd H' d (DX d (hs Y.w ps))) := by
  refine ⟨fun a u ha hr h => ?_, fun a xs h => ?_, fun a ob u h => ?_, fun a u h => ?_, fun g r hr => ?_⟩
  · have ea : a ≠ d := fun z => hdP (by rw [← z]; exact ha)
    rw [upd_ne ea]
    exact l.keep a u (hP a ha) hr (by rw [upd_ne ea]; exact h)
  · have ea : a ≠ d := nt_dx hd a xs (.inl h)
    rw [upd_ne ea]
    exact l.tup a xs (by rw [upd_ne ea]; exact h)
  · have ea : a ≠ d := fun z => by
      rw [z, hd] at h
      exact DX_ne_frz (b := d) (Option.some.inj h)
    rw [upd_ne ea]
    exact l.frz a ob u (by rw [upd_ne ea]; exact h)
  · by_cases ea : a = d
    · exact ⟨_, by rw [ea, upd_same]⟩
    · rw [upd_ne ea]
      exact l.there a u (by rw [upd_ne ea]; exact h)
  · exact RowOk.chg (R := R) (nl_frz hd') (show RowOk R Y.K H' r from l.rowR (fun r hr => RowOk.chg (R := R.lock d) (nl_dx hd) (show RowOk (R.lock d) Y.K H r from g r hr)) r hr)
theorem ss_lock {st : Stmt} {m : En → T Out} (j : Nat) (h : SS c st m) : SS c st (mLockS j m) := by
  intro Y X sx dy
  obtain ⟨t, p, s⟩ := h Y X sx dy
  refine ⟨_, PS.or p (ps_lock p), fun R P en σ H D rel k => ?_⟩
  unfold mLockS at k
  split at k
  · rename_i kvs hsj
    obtain ⟨hnl, k⟩ := T.wp_must k
    obtain ⟨Fs, rel⟩ := rel
    obtain ⟨⟨v, e1, rv⟩, aw⟩ := rel.at_ j _ hsj
    obtain ⟨g1, g2, g3⟩ := rel.own j _ hsj rfl
    generalize hF : Fs j = FF at rv aw g1 g2 g3
    cases rv with
    | @dct d ps _ F0 hd r nd =>
      obtain ⟨ndF, nF0⟩ := List.nodup_cons.mp g1
      have hR : R.row ≠ some d := (aw d List.mem_cons_self).1
      have hdP : ¬ P d := g2 d List.mem_cons_self
      refine .inr ⟨d, _, hd, True.intro, fun od => ?_⟩
      let P' : Addr → Prop := fun a => P a ∨ a ∈ d :: F0
      have rel1 : RelF Y (R.lock d) P' (upd H d (.frz od (DX d (hs Y.w ps)))) (en.set j (some ⟨1, .lk kvs⟩)) σ (fun i => if i = j then F0 else Fs i) := by
        refine ⟨rel.ri.lock hd, fun a ha => ?_, fun q hq => ?_, by rw [List.length_set]; exact rel.len, fun i sl hsl => ?_, fun i sl hsl hf => ?_⟩
        · by_cases ea : a = d
          · exact ⟨_, by rw [ea, upd_same]⟩
          · rw [upd_ne ea]
            rcases ha with ha | ha
            · exact rel.live a ha
            · exact r.tracked a ((List.mem_cons.mp ha).resolve_left ea)
        · exact (rel.scr q hq).imp .inl id
        · rcases get_set hsl with ⟨ei, _, es⟩ | ⟨hij, hsl⟩
          · subst es
            rw [if_pos ei, ei]
            exact ⟨⟨_, e1, d, od, ps, rfl, rfl, upd_same, r.chg (nt_dx hd) ndF, nd⟩, aw.tail⟩
          · rw [if_neg hij]
            obtain ⟨⟨u, k1, k2⟩, k3⟩ := rel.at_ i sl hsl
            refine ⟨⟨u, k1, ?_⟩, k3⟩
            obtain ⟨fl, x⟩ := sl
            cases x with
            | d x => exact Rp.chg (nt_dx hd) k2 (g3 i _ hij hsl d List.mem_cons_self)
            | row => exact k2
            | lk kv => exact (notLk_get hnl hsl).elim
        · rcases get_set hsl with ⟨ei, _, es⟩ | ⟨hij, hsl⟩
          · subst es; cases hf
          · rw [if_neg hij]
            obtain ⟨k1, k2, k3⟩ := rel.own i sl hsl hf
            refine ⟨k1, fun a ha z => ?_, fun q sq hq hsq a ha => ?_⟩
            · rcases z with z | z
              · exact k2 a ha z
              · exact g3 i sl hij hsl a z ha
            · rcases get_set hsq with ⟨eq, _, _⟩ | ⟨hqj, hsq⟩
              · rw [if_pos eq]
                exact fun z => g3 i sl hij hsl a (List.mem_cons_of_mem _ z) ha
              · rw [if_neg hqj]
                exact k3 q sq hq hsq a ha
      refine s (R.lock d) P' _ σ _ _ ⟨_, rel1⟩ ?_
      refine T.wp_mono ((T.wp_bind _ _ _).mp k) fun o ko => ?_
      cases o with
      | bk en' => exact ko.elim
      | ct en' => exact ko.elim
      | rt x =>
        obtain ⟨dx, rfl, ko⟩ := dOf_wp ((T.wp_bind _ _ _).mp ko)
        intro v H' F l rx awx ndx nP
        have hd' : H' d = some (.frz od (DX d (hs Y.w ps))) := l.frz d od _ upd_same
        have nF : d ∉ F := fun z => nP d z (.inr List.mem_cons_self)
        exact ⟨hd', ko v _ F (lock_le hd (fun a => .inl) hdP hd' l) (Rp.chg (nt_frz hd') rx nF) awx ndx fun a ha z => nP a ha (.inl z)⟩
      | nx en' =>
        have ko : (lkBack j kvs en').wp (KO Y R P H D) := ko
        unfold lkBack at ko
        split at ko
        · rename_i fl kv' hj
          intro σ' H' l ⟨Gs, rel'⟩
          have hd' : H' d = some (.frz od (DX d (hs Y.w ps))) := l.frz d od _ upd_same
          refine ⟨hd', ko σ' _ (lock_le hd (fun a => .inl) hdP hd' l) ⟨fun i => if i = j then d :: F0 else (match (backE en')[i]? with
            | some (some ⟨0, _⟩) => Gs i
            | _ => []), ?_⟩⟩
          obtain ⟨⟨vj, q1, d', o', ps', q2, q3, _⟩, _⟩ := rel'.at_ j _ hj
          have ed : d = d' := Option.some.inj q2
          subst ed
          subst q3
          have hlen : j < en'.length := (List.getElem?_eq_some_iff.mp hj).1
          have r' : RpD Y.w Y.K H' ps kvs F0 := RpD.leP l (r.chg (nt_dx hd) ndF) aw.tail fun a ha => .inr (List.mem_cons_of_mem _ ha)
          have back : ∀ {i : Nat} {sl : Slot}, i ≠ j → (backE en')[i]? = some (some sl) → ∃ u, σ'[i]? = some (some u) ∧ RpW Y R (upd H' d (DX d (hs Y.w ps))) u sl.w (match (backE en')[i]? with
            | some (some ⟨0, _⟩) => Gs i
            | _ => []) ∧ Away R (match (backE en')[i]? with
            | some (some ⟨0, _⟩) => Gs i
            | _ => []) := fun {i sl} hij hb => by
            obtain ⟨h1, h2⟩ := backE_get hb
            obtain ⟨⟨u, k1, k2⟩, k3⟩ := rel'.at_ i sl h1
            refine ⟨u, k1, ?_⟩
            rw [hb]
            obtain ⟨fl, x⟩ := sl
            rcases h2 with ⟨y, ey, h2⟩ | ey
            · cases (show x = .d y from ey)
              by_cases h0 : fl = 0
              · subst h0
                obtain ⟨m1, m2, m3⟩ := rel'.own i _ h1 rfl
                exact ⟨Rp.chg (nt_frz hd') k2 (fun z => m2 d z (.inr List.mem_cons_self)), k3⟩
              · have hi := h2.resolve_left h0
                have eG := Rp.imm k2 hi
                have k2' : Rp Y.w Y.K H' u y [] := by have := k2; rw [eG] at this; exact this
                cases fl with
                | zero => exact absurd rfl h0
                | succ n => exact ⟨Rp.chg (nt_frz hd') k2' (fun z => nomatch z), Away.nil⟩
            · cases (show x = .row from ey)
              obtain ⟨eG, k2⟩ := k2
              cases fl with
              | zero => exact ⟨⟨eG, k2⟩, k3⟩
              | succ n => exact ⟨⟨rfl, k2⟩, Away.nil⟩
          refine ⟨rel'.ri.unlock hd', fun a ha => ?_, rel.scr, by rw [List.length_set, backE_len]; exact rel'.len, fun i sl hsl => ?_, fun i sl hsl hf => ?_⟩
          · by_cases ea : a = d
            · exact ⟨_, by rw [ea, upd_same]⟩
            · rw [upd_ne ea]
              exact rel'.live a (.inl ha)
          · rcases get_set hsl with ⟨ei, _, es⟩ | ⟨hij, hsl⟩
            · subst es
              rw [if_pos ei, ei]
              exact ⟨⟨_, q1, .dct upd_same (r'.chg (nt_frz hd') ndF) nd⟩, aw⟩
            · rw [if_neg hij]
              obtain ⟨u, k1, k2, k3⟩ := back hij hsl
              exact ⟨⟨u, k1, k2⟩, k3⟩
          · rcases get_set hsl with ⟨ei, _, es⟩ | ⟨hij, hsl⟩
            · subst es
              rw [if_pos ei]
              refine ⟨g1, g2, fun q sq hq hsq a ha => ?_⟩
              rcases get_set hsq with ⟨eq, _, _⟩ | ⟨hqj, hsq⟩
              · exact absurd (eq.trans ei.symm) hq
              · rw [if_neg hqj, hsq]
                obtain ⟨h1, h2⟩ := backE_get hsq
                obtain ⟨fl, x⟩ := sq
                cases fl with
                | zero =>
                  obtain ⟨m1, m2, m3⟩ := rel'.own q _ h1 rfl
                  exact fun z => m2 a z (.inr ha)
                | succ n => exact fun z => nomatch z
            · rw [if_neg hij, hsl]
              obtain ⟨h1, h2⟩ := backE_get hsl
              obtain ⟨fl, x⟩ := sl
              cases (show fl = 0 from hf)
              obtain ⟨m1, m2, m3⟩ := rel'.own i _ h1 rfl
              refine ⟨m1, fun a ha z => m2 a ha (.inl z), fun q sq hq hsq a ha => ?_⟩
              rcases get_set hsq with ⟨eq, _, _⟩ | ⟨hqj, hsq⟩
              · rw [if_pos eq]
                exact fun z => m2 a ha (.inr z)
              · rw [if_neg hqj, hsq]
                obtain ⟨h3, h4⟩ := backE_get hsq
                obtain ⟨fq, xq⟩ := sq
                cases fq with
                | zero => exact m3 q _ hq h3 a ha
                | succ n => exact fun z => nomatch z
        · exact ko.elim
  · exact .inl (s R P en σ H D rel k)
end
end G

set_option Elab.async false
set_option linter.all false
set_option maxRecDepth 100000
/-! G35: list(d.values()), d.get. -/
namespace G
open PySem PySem.Spec PyProof.Rows L2
section
variable {prog : Program} {w : World} {A : Around} {o : Obj} {es : Array DictEntry} {ep : Nat}
theorem walks_valR (hh : A.handled = none) (I d : Addr) (hne : d ≠ I) (hx : o.ExactDict) (hd : o.data = .dict es ep) :
    Walks prog w A I [I, d] [I] es.size (fun i v => ∃ en : DictEntry, es[i]? = some en ∧ v = en.val) (fun i h => h.IsValIter I d i es.size ep ∧ h.get? d = some o) where
  sub := fun b hb => List.mem_cons.mpr (.inl (List.mem_singleton.mp hb))
  frame := fun _ _ _ st hk => ⟨st.1.at fun ob e => hk I List.mem_cons_self ob e, hk d (List.mem_cons_of_mem _ List.mem_cons_self) o st.2⟩
  item := fun i s Q E hi st hQ => by
    have h1 : es[i]? = some es[i] := Array.getElem?_eq_getElem hi
    refine wpAny_pyNext_values_item_raw st.1 ⟨o, st.2, hx, hd⟩ hi fun h' g sb => ?_
    exact hQ _ h' s.toks ⟨_, h1, rfl⟩ ⟨g, (sb.2 d hne).trans st.2⟩ fun b ob hb e => (sb.2 b (fun z => hb (List.mem_singleton.mpr z))).trans e
  done := fun s Q E st hQ => wpAny_pyNext_values_end_raw hh st.1 ⟨o, st.2, hx, hd⟩ (Nat.le_refl _) fun h' g => hQ h' s.toks fun b ob hb e => g b ob (fun z => hb (List.mem_singleton.mpr z)) e
  self := fun _ _ _ _ st hQ => wpAny_pyIter_valiter st.1 hQ
theorem kdl_valR {r d : Addr} (hx : o.ExactDict) (hd : o.data = .dict es ep) :
    PySem.W.KdlSrc prog w "dict_values" r d es.size (fun i v => ∃ en : DictEntry, es[i]? = some en ∧ v = en.val) (fun h => h.IsValuesView r d ∧ h.get? d = some o) where
  type := fun _ hm => hm.1.typeIs
  there := fun _ hm => ⟨let ⟨_, ho, _⟩ := hm.1; Heap.lt_size ho, Heap.lt_size hm.2⟩
  keep := fun _ _ hm hk => ⟨let ⟨ob, ho, q⟩ := hm.1; ⟨ob, hk r (.inl rfl) ob ho, q⟩, hk d (.inr rfl) _ hm.2⟩
  notList := by decide
  notTuple := by decide
  hint := fun _ _ _ _ hm hq => PySem.W.kdl_hint_values hm.1.typeIs hq
  iter := fun _ _ hh hm => ⟨_, _, (fun _ _ hq => wpAny_pyIter_values_raw hm.1 ⟨o, hm.2, hx, hd⟩ hq), walks_valR hh _ d (Nat.ne_of_lt (Heap.lt_size hm.2)) hx hd, ⟨⟨_, Heap.get?_push_size _ rfl, rfl, rfl⟩, Heap.get?_push_of_some _ hm.2⟩⟩
end
section
variable {X : Cx} {e : Expr} {te : TE} {p apos cpos pos : Pos}
/-- list(e.values()) -/
theorem pe_listVals (hc : X.calm = true) (he : PE X e te) (hg : Gl X "list") (hm : X.mg "list" = none) (hbase : attributeBase e "values" X.env (eval e X.env) = eval e X.env) (hline : (apos.endLine == cpos.line) = true) :
    PE X (.Call (.Name "list" p) [.Call (.Attribute e "values" apos) [] [] cpos] [] pos) (fun σ H Q => te σ H fun x H1 => ∃ d ps, x = .ref d ∧ Rd H1 d (DX d (hs X.w ps)) ∧ ∀ l, H1 l = none → Q (.ref l) (upd H1 l (.lst (ps.map fun q => q.2.2)))) := by
  refine ⟨fun pins s σ H Q I hq => ?_⟩
  have es0 : starEach [.Call (.Attribute e "values" apos) [] [] cpos] X.env = (false, eval (.Call (.Attribute e "values" apos) [] [] cpos) X.env) :: starEach [] X.env := rfl
  refine wpAny_Call_Name_kw (ld_blt I hg hm boot_list ?_)
  refine PyProof.Rows.callWith_type1 ?_ es0 rfl
  rw [es0]
  show wpAny _ _ (spliced ((false, eval (.Call (.Attribute e "values" apos) [] [] cpos) X.env) :: backTo pos (starEach [] X.env))) _ _ s
  refine Calls.spliced_cons ?_
  refine (wpAny_Call_method (T := "dict") (id := "dict.values") hbase rfl hline F.plainAttrs_dict F.slot_dict_values F.type_dict_values (thn (he.run pins s σ H _ I hq) fun u s1 ⟨x, H1, I1, rx, d, ps, ex, hd, q⟩ => ?_))
  subst ex
  obtain rfl : u = Value.ref d := rx
  obtain ⟨o, es, ep, op⟩ := dx_open I1 hd
  refine ⟨⟨o, op.at_, op.ex.1⟩, fun a z => by cases z; exact ⟨o, op.at_, op.ex.2.1⟩, ?_⟩
  have I2 : Inv X pins σ H1 { s1 with heap := s1.heap.push { cls := .type "dict_values", data := .fields #[.ref d] } } := I1.kept (t' := s1.toks) fun b ob q => Heap.get?_push_of_some _ q
  show wpAny _ _ (callWith cpos (.builtin "dict.values") [.ref d] [] []) _ X.xe s1
  refine method_meetsIn F.slot_dict_values F.entry_dict_values rfl (PySem.evalArgs_none ⟨rfl, ⟨o, op.at_, op.ex.1⟩, F.args_dict_values_1 _, _, meets_dict_values_raw d op.sys, ⟨es, ep, o, op.at_, op.ex, op.data⟩, ?_⟩)
  refine Calls.spliced_nil ?_
  refine PySem.W.kdl_call (kdl_valR (r := s1.heap.objs.size) (d := d) op.ex op.data) (I1.ok.hd hc) ⟨⟨_, Heap.get?_push_size _ rfl, rfl, rfl⟩, Heap.get?_push_of_some _ op.at_⟩ (by rw [op.size]; exact op.len) fun h' tk acc c kp e it => ?_
  refine ⟨.ref _, _, I2.laid (t' := tk) (o := .lst (ps.map fun q => q.2.2)) kp (Nat.le_refl _) ⟨by rw [List.length_map]; exact op.len, acc.toList, c, ?_, by rw [Array.toArray_toList]; exact e⟩, rfl, q _ (I1.hok.fresh (by show s1.heap.objs.size ≤ _; rw [Heap.size_push]; omega))⟩
  refine vals_at (by rw [List.length_map, ← op.size, ← it.1, Array.length_toList]) fun j x u h1 h2 => ?_
  obtain ⟨en, hen, rfl⟩ := it.2 j u (by rw [← Array.getElem?_toList]; exact h2)
  obtain ⟨p, hp, _, hv⟩ := esr_get op.es (by rw [Array.getElem?_toList]; exact hen)
  rw [List.getElem?_map, hp] at h1
  cases h1
  exact hv
/-- e.get(k, z) -/
theorem dx_getD {pins : List (Addr × Obj)} {σ : L2.St} {H : Hp} {s : Shared} {a : Addr} {A : Around} {E : Value → Shared → Prop} (hu : A.units + 10 < cLine) (I : Inv X pins σ H s) {ps : List Ent} {kvs : List (PyData × PyData)} {F : List Addr} {k : PyData} {kv z : V} {ku zu : Value} {Q : Value → Shared → Prop} (h : Rd H a (DX a (hs X.w ps))) (r : RpD X.w X.K H ps kvs F) (nd : (ps.map (·.1)).Nodup)
    (rk : Rp X.w X.K H kv k []) (ru : RelV kv ku) (rz : RelV z zu) (kb : kindB kvs k = true) (q : ∀ u t, RelV ((pget ps (keyN k)).getD z) u → Q u { s with toks := t }) : wpAny (model X.prog X.w) A (call (.builtin "dict.get") [.ref a, ku, zu]) Q E s := by
  obtain ⟨o, es, ep, op⟩ := dx_open I h
  have ty : s.TypeIs (.ref a) "dict" := ⟨o, op.at_, op.ex.1⟩
  have go : ∀ {x : Option V} {y : Option Value}, RelO x y → RelV (x.getD z) (y.getD zu) := fun {x y} g => by
    cases x <;> cases y <;> first | exact rz | exact g | exact g.elim
  rcases kind_cases kb with ⟨k1, k2⟩ | ⟨k1, k2⟩
  · obtain ⟨vs, h1, h2, _⟩ := op.num r nd k2
    obtain ⟨i, rfl, rfl⟩ := isI_of k1 rk
    obtain ⟨t, rfl⟩ := ru
    exact call_meetsIn PySem.F.slot_dict_get ty PySem.F.entry_dict_get (PySem.F.args_dict_get_3 _ _ zu) (meets_dict_get_default (k := .num i) (numKind X.prog X.w) a (intKind_is X.prog X.w i t) op.sys zu) ⟨_, h2.mapOf, q _ _ (go (h1.get (n := .num i)))⟩
  · obtain ⟨xs, h1, h2⟩ := op.tup I r nd k2
    obtain ⟨b, rfl, him, hdp⟩ := isK_of k1 rk
    cases (show ku = Value.ref b from ru)
    exact call_meetsIn PySem.F.slot_dict_get ty PySem.F.entry_dict_get (PySem.F.args_dict_get_3 _ _ zu) (meetsH_dict_get_default (nestedKind X.prog X.w) a b op.sys zu) ⟨show A.in1.units + 8 < cLine by show A.units + 1 + 8 < cLine; omega, keyN k, xs, ⟨rk.nested I him rfl, hdp⟩, h2, q _ _ (go (h1.get (n := keyN k)))⟩
theorem dx_get1 {pins : List (Addr × Obj)} {σ : L2.St} {H : Hp} {s : Shared} {a : Addr} {A : Around} {E : Value → Shared → Prop} (hu : A.units + 10 < cLine) (I : Inv X pins σ H s) {ps : List Ent} {kvs : List (PyData × PyData)} {F : List Addr} {k : PyData} {kv : V} {ku : Value} {Q : Value → Shared → Prop} (h : Rd H a (DX a (hs X.w ps))) (r : RpD X.w X.K H ps kvs F) (nd : (ps.map (·.1)).Nodup)
    (rk : Rp X.w X.K H kv k []) (ru : RelV kv ku) (kb : kindB kvs k = true) (q : ∀ u t, RelV ((pget ps (keyN k)).getD .non) u → Q u { s with toks := t }) : wpAny (model X.prog X.w) A (call (.builtin "dict.get") [.ref a, ku]) Q E s := by
  obtain ⟨o, es, ep, op⟩ := dx_open I h
  have ty : s.TypeIs (.ref a) "dict" := ⟨o, op.at_, op.ex.1⟩
  have go : ∀ {x : Option V} {y : Option Value}, RelO x y → RelV (x.getD .non) (y.getD .none) := fun {x y} g => by
    cases x <;> cases y <;> first | exact rfl | exact g | exact g.elim
  rcases kind_cases kb with ⟨k1, k2⟩ | ⟨k1, k2⟩
  · obtain ⟨vs, h1, h2, _⟩ := op.num r nd k2
    obtain ⟨i, rfl, rfl⟩ := isI_of k1 rk
    obtain ⟨t, rfl⟩ := ru
    exact call_meetsIn PySem.F.slot_dict_get ty PySem.F.entry_dict_get (PySem.F.args_dict_get_2 _ _) (meets_dict_get (k := .num i) (numKind X.prog X.w) a (intKind_is X.prog X.w i t) op.sys) ⟨_, h2.mapOf, q _ _ (go (h1.get (n := .num i)))⟩
  · obtain ⟨xs, h1, h2⟩ := op.tup I r nd k2
    obtain ⟨b, rfl, him, hdp⟩ := isK_of k1 rk
    cases (show ku = Value.ref b from ru)
    exact call_meetsIn PySem.F.slot_dict_get ty PySem.F.entry_dict_get (PySem.F.args_dict_get_2 _ _) (meetsH_dict_get (nestedKind X.prog X.w) a b op.sys) ⟨show A.in1.units + 8 < cLine by show A.units + 1 + 8 < cLine; omega, keyN k, xs, ⟨rk.nested I him rfl, hdp⟩, h2, q _ _ (go (h1.get (n := keyN k)))⟩
/-- a dict, walked or not -/
def rGetX (X : Cx) (z : V) (x y : V) (H : Hp) (Q : VK) : Prop := ∃ a ps kvs F k, x = V.ref a ∧ Rd H a (DX a (hs X.w ps)) ∧ RpD X.w X.K H ps kvs F ∧ (ps.map (·.1)).Nodup ∧ Rp X.w X.K H y k [] ∧ kindB kvs k = true ∧ Q ((pget ps (keyN k)).getD z) H
def isDX (X : Cx) (x : V) (H : Hp) : Prop := ∃ a ps, x = V.ref a ∧ Rd H a (DX a (hs X.w ps))
theorem pe_getX2 {o f e : Expr} {td ty tx : TE} (hu : X.A.units + 64 < cLine) (ho : PE X o td) (he : PE X e ty) (hf : PE X f tx) (m : M2 X o "get" apos e f cpos) :
    PE X (.Call (.Attribute o "get" apos) [e, f] [] cpos) (fun σ H Q => td σ H fun x H1 => isDX X x H1 ∧ ty σ H1 fun y H2 => tx σ H2 fun z H3 => rGetX X z x y H3 Q) := by
  refine ⟨fun pins s σ H Q I h => ?_⟩
  refine wpAny_Call_method m.base m.few m.line PySem.F.plainAttrs_dict PySem.F.slot_dict_get PySem.F.type_dict_get (thn (ho.run pins s σ H _ I h) fun u s1 ⟨x, H1, I1, rx, ⟨a, ps, ex, hd⟩, q1⟩ => ?_)
  subst ex
  obtain rfl : u = Value.ref a := rx
  obtain ⟨ob, es, ep, op⟩ := dx_open I1 hd
  refine ⟨⟨ob, op.at_, op.ex.1⟩, fun b z => by cases z; exact ⟨ob, op.at_, op.ex.2.1⟩, ?_⟩
  rw [m.trees]
  refine Calls.callWith_builtin rfl (Calls.evalArgs_plain (Calls.spliced_cons (thn (he.run pins s1 σ H1 _ I1 q1) fun iv s2 ⟨y, H2, I2, ry, q2⟩ =>
    Calls.spliced_cons (thn (hf.run pins s2 σ H2 _ I2 q2) fun fv s3 ⟨z, H3, I3, rz, a', ps', kvs, F, k, ea, hd3, r, nd, rk, kb, q3⟩ => Calls.spliced_nil ?_))))
  cases ea
  exact dx_getD (by show X.A.units + 10 < cLine; omega) I3 hd3 r nd rk ry rz kb fun u t ru => ⟨_, H3, I3.tok t, ru, q3⟩
theorem pe_getX1 {o e : Expr} {td ty : TE} (hu : X.A.units + 64 < cLine) (ho : PE X o td) (he : PE X e ty) (m : M1 X o "get" apos e cpos) :
    PE X (.Call (.Attribute o "get" apos) [e] [] cpos) (fun σ H Q => td σ H fun x H1 => isDX X x H1 ∧ ty σ H1 fun y H2 => rGetX X .non x y H2 Q) := by
  refine ⟨fun pins s σ H Q I h => ?_⟩
  refine wpAny_Call_method m.base m.few m.line PySem.F.plainAttrs_dict PySem.F.slot_dict_get PySem.F.type_dict_get (thn (ho.run pins s σ H _ I h) fun u s1 ⟨x, H1, I1, rx, ⟨a, ps, ex, hd⟩, q1⟩ => ?_)
  subst ex
  obtain rfl : u = Value.ref a := rx
  obtain ⟨ob, es, ep, op⟩ := dx_open I1 hd
  refine ⟨⟨ob, op.at_, op.ex.1⟩, fun b z => by cases z; exact ⟨ob, op.at_, op.ex.2.1⟩, ?_⟩
  rw [m.trees]
  refine Calls.callWith_builtin rfl (Calls.evalArgs_plain (Calls.spliced_cons (thn (he.run pins s1 σ H1 _ I1 q1) fun iv s2 ⟨y, H2, I2, ry, a', ps', kvs, F, k, ea, hd3, r, nd, rk, kb, q3⟩ => Calls.spliced_nil ?_)))
  cases ea
  exact dx_get1 (by show X.A.units + 10 < cLine; omega) I2 hd3 r nd rk ry kb fun u t ru => ⟨_, H2, I2.tok t, ru, q3⟩
end
section
variable {Y : Dyn} {R : Rw} {P : Addr → Prop} {H H1 H2 H' : Hp} {uq : Bool} {Q : VK} {x y : W} {v : V} {F : List Addr} {c : Sc} {e e1 e2 e3 tg : Expr} {pos : Pos} {en : En} {σ : L2.St} {Fs : Nat → List Addr} {D : Ends}
def dictIn : W → Option (List (PyData × PyData))
  | .d (.dict kvs) => some kvs
  | .lk kvs => some kvs
  | _ => none
theorem dictIn_rel {kvs : List (PyData × PyData)} (r : RpW Y R H v x F) (h : dictIn x = some kvs) : ∃ a ps F', v = .ref a ∧ Rd H a (DX a (hs Y.w ps)) ∧ RpD Y.w Y.K H ps kvs F' ∧ (ps.map (·.1)).Nodup ∧ ∀ b ∈ F', b ∈ F := by
  unfold dictIn at h
  split at h
  · cases h
    cases r with
    | dct h r nd => exact ⟨_, _, _, rfl, .inl h, r, nd, fun b hb => List.mem_cons_of_mem _ hb⟩
  · cases h
    obtain ⟨d, o, ps, h1, rfl, h3, h4, h5⟩ := r
    exact ⟨d, ps, F, rfl, .inr ⟨o, h3⟩, h4, h5, fun b hb => hb⟩
  · cases h
def mGet2 (md mk mz : En → T W) : En → T W := fun en => (md en).bind fun x => (T.ofO (dictIn x)).bind fun kvs => (mk en).bind fun y => (dOf y).bind fun k => (mz en).bind fun z => T.must (kindB kvs k && imm k) (match dget kvs k with
  | some d => .ret (.d d)
  | none => .ret z)
def mGet1 (md mk : En → T W) : En → T W := fun en => (md en).bind fun x => (T.ofO (dictIn x)).bind fun kvs => (mk en).bind fun y => (dOf y).bind fun k => T.must (kindB kvs k && imm k) (match dget kvs k with
  | some d => .ret (.d d)
  | none => .ret (.d .none))
theorem se_get2 {md mk mz : En → T W} {u1 u2 u3 : Bool} {apos cpos : Pos} (hd : SE c e1 md u1) (hk : SE c e2 mk u2) (hz : SE c e3 mz u3) (hm : ∀ X : Cx, M2 X e1 "get" apos e2 e3 cpos) : SE c (.Call (.Attribute e1 "get" apos) [e2, e3] [] cpos) (mGet2 md mk mz) false := by
  intro Y X sx dy
  obtain ⟨td, pd, sd⟩ := hd Y X sx dy
  obtain ⟨tk, pk, sk⟩ := hk Y X sx dy
  obtain ⟨tz, pz, sz⟩ := hz Y X sx dy
  refine ⟨_, pe_getX2 (sx_units sx) pd pk pz (hm X), fun R en σ H Q rel k => sd R en σ H _ rel ?_⟩
  refine T.wp_mono ((T.wp_bind _ _ _).mp k) fun x kx => ?_
  intro v H1 F1 l1 r1 aw1 _
  obtain ⟨kvs, hx, kz⟩ := T.wp_ofO ((T.wp_bind _ _ _).mp kx)
  obtain ⟨a, ps, F', rfl, hr, _, _, _⟩ := dictIn_rel r1 hx
  refine ⟨⟨a, ps, rfl, by rw [sx.w]; exact hr⟩, sk R en σ H1 _ (rel.le l1) ?_⟩
  refine T.wp_mono ((T.wp_bind _ _ _).mp kz) fun y ky => ?_
  intro u H2 F2 l2 r2 aw2 _
  obtain ⟨kd, rfl, ky⟩ := dOf_wp ((T.wp_bind _ _ _).mp ky)
  have l12 := l1.trans l2
  refine sz R en σ H2 _ (rel.le l12) ?_
  refine T.wp_mono ((T.wp_bind _ _ _).mp ky) fun z kz => ?_
  intro w H3 F3 l3 r3 aw3 _
  obtain ⟨hb, kz⟩ := T.wp_must kz
  rw [Bool.and_eq_true] at hb
  have r1' := r1.le (l2.trans l3) (l1.row rel.ri) aw1
  have r2' := r2.le l3 (l12.row rel.ri) aw2
  have e2 := Rp.imm r2' hb.2
  subst e2
  obtain ⟨a', ps', F', ea, hr', rd, nd, hF⟩ := dictIn_rel r1' hx
  cases ea
  refine ⟨a, ps', kvs, F', kd, rfl, by rw [sx.w]; exact hr', by rw [sx.w, sx.K]; exact rd, nd, by rw [sx.w, sx.K]; exact r2', hb.1, ?_⟩
  have l13 := l12.trans l3
  split at kz
  · rename_i d hd
    obtain ⟨zv, Fz, h1, h2, h3⟩ := rd.get hd
    rw [h1]
    exact kz zv H3 Fz l13 h2 (away_sub aw1 fun b hb => hF b (h3 b hb)) fun q => nomatch q
  · rename_i hd
    rw [rd.getN hd]
    exact kz w H3 F3 l13 r3 aw3 fun q => nomatch q
theorem se_get1 {md mk : En → T W} {u1 u2 : Bool} {apos cpos : Pos} (hd : SE c e1 md u1) (hk : SE c e2 mk u2) (hm : ∀ X : Cx, M1 X e1 "get" apos e2 cpos) : SE c (.Call (.Attribute e1 "get" apos) [e2] [] cpos) (mGet1 md mk) false := by
  intro Y X sx dy
  obtain ⟨td, pd, sd⟩ := hd Y X sx dy
  obtain ⟨tk, pk, sk⟩ := hk Y X sx dy
  refine ⟨_, pe_getX1 (sx_units sx) pd pk (hm X), fun R en σ H Q rel k => sd R en σ H _ rel ?_⟩
  refine T.wp_mono ((T.wp_bind _ _ _).mp k) fun x kx => ?_
  intro v H1 F1 l1 r1 aw1 _
  obtain ⟨kvs, hx, kz⟩ := T.wp_ofO ((T.wp_bind _ _ _).mp kx)
  obtain ⟨a, ps, F', rfl, hr, _, _, _⟩ := dictIn_rel r1 hx
  refine ⟨⟨a, ps, rfl, by rw [sx.w]; exact hr⟩, sk R en σ H1 _ (rel.le l1) ?_⟩
  refine T.wp_mono ((T.wp_bind _ _ _).mp kz) fun y ky => ?_
  intro u H2 F2 l2 r2 aw2 _
  obtain ⟨kd, rfl, ky⟩ := dOf_wp ((T.wp_bind _ _ _).mp ky)
  have l12 := l1.trans l2
  obtain ⟨hb, kz⟩ := T.wp_must ky
  rw [Bool.and_eq_true] at hb
  have r1' := r1.le l2 (l1.row rel.ri) aw1
  have e2 := Rp.imm r2 hb.2
  subst e2
  obtain ⟨a', ps', F', ea, hr', rd, nd, hF⟩ := dictIn_rel r1' hx
  cases ea
  refine ⟨a, ps', kvs, F', kd, rfl, by rw [sx.w]; exact hr', by rw [sx.w, sx.K]; exact rd, nd, by rw [sx.w, sx.K]; exact r2, hb.1, ?_⟩
  split at kz
  · rename_i d hd
    obtain ⟨zv, Fz, h1, h2, h3⟩ := rd.get hd
    rw [h1]
    exact kz zv H2 Fz l12 h2 (away_sub aw1 fun b hb => hF b (h3 b hb)) fun q => nomatch q
  · rename_i hd
    rw [rd.getN hd]
    exact kz .non H2 [] l12 .non Away.nil fun q => nomatch q
/-- list(e.values()), of values that do not change -/
def oValsL (x : W) : T W := (T.ofO (dictIn x)).bind fun kvs => T.must (immVals kvs) (.ret (.d (.list (kvs.map (·.2)))))
theorem RpD.valsA {w : World} {K : PySem.W.Frag} : ∀ {ps : List Ent} {kvs : List (PyData × PyData)} {F : List Addr}, RpD w K H ps kvs F → RpA w K H (ps.map fun q => q.2.2) (kvs.map (·.2)) F
  | _, _, _, .nil => .nil
  | _, _, _, .cons _ _ h r => .cons h (RpD.valsA r)
theorem se_listVals {m : En → T W} {u1 : Bool} {p apos cpos : Pos} (h : SE c e m u1) (hb : ("list" : Str) ∈ c.blt) (hg : c.sc.names.lookup ("list" : Str) = some .globalImplicit) (hbase : ∀ env : PySem.Env, attributeBase e "values" env (eval e env) = eval e env) (hl : (apos.endLine == cpos.line) = true) :
    SE c (.Call (.Name "list" p) [.Call (.Attribute e "values" apos) [] [] cpos] [] pos) (m1 oValsL m) true := by
  intro Y X sx dy
  obtain ⟨t, pe, s⟩ := h Y X sx dy
  refine ⟨_, pe_listVals sx.calm pe (show X.env.scope.names.lookup ("list" : Str) = _ by rw [sx.sc]; exact hg) (by rw [sx.mg]; exact dy.blt _ hb) (hbase X.env) hl, fun R en σ H Q rel k => s R en σ H _ rel ?_⟩
  refine T.wp_mono ((T.wp_bind _ _ _).mp k) fun x kx => ?_
  intro v H1 F1 l1 r1 aw1 _
  obtain ⟨kvs, hx, kz⟩ := T.wp_ofO ((T.wp_bind _ _ _).mp kx)
  obtain ⟨hv, kz⟩ := T.wp_must kz
  obtain ⟨a, ps, F', rfl, hr, rd, nd, _⟩ := dictIn_rel r1 hx
  have e0 := rd.immV hv
  subst e0
  exact ⟨a, ps, rfl, by rw [sx.w]; exact hr, fun l hl => newL (l1.row rel.ri) (kz.back l1 rel.ri) hl rd.valsA⟩
end
end G

set_option Elab.async false
set_option linter.all false
set_option maxRecDepth 100000
/-! G36: sorted of tuples, of lists of one item. -/
namespace G
open PySem PySem.Spec PyProof.Rows L2 PySem.W
section
variable {prog : Program} {w : World} {A : Around} {E : Value → Shared → Prop} {s : Shared}
/-- the items of a tuple, gathered -/
theorem collect_tup {l : Addr} {us : List Value} {Q : List Value → Shared → Prop} (hT : s.heap.IsTuple l us.toArray) (hz : us.length ≤ sizeLine)
    (h : Q us { s with heap := (s.heap.push (seqObj "list" #[] 0)).update s.heap.objs.size (Obj.mapSeq (· ++ us.toArray)) }) : wpAny (model prog w) A (collect (.ref l)) Q E s := by
  obtain ⟨ob, g1, g2, k, g3⟩ := id hT
  unfold collect
  refine wpAny_bind (wpAny_runValue (codeAny_builtin entry_proto_collect' ?_))
  show wpAny _ _ (newList [] >>= fun x => again (.builtin "list.__iadd__" ⟨[x, .ref l], []⟩)) _ _ s
  refine wpAny_bind (wpAny_newList (wpAny_pure ⟨Code.quiet_builtin _ (by decide +kernel), codeAny_builtin entry_list_iadd' ?_⟩))
  show wpAny _ _ (Builtin.List.listExtendWith (.ref s.heap.objs.size) (.ref l) (.ref s.heap.objs.size)) _ _ ({ s with heap := s.heap.push (seqObj "list" #[] 0) })
  unfold Builtin.List.listExtendWith
  have g1' : (s.heap.push (seqObj "list" #[] 0)).get? l = some ob := Heap.get?_push_of_some _ g1
  refine wpAny_bind (wpAny_typeOf (T := "tuple") ⟨ob, g1', g2⟩ ?_)
  have t1 : (Value.type "tuple" == Value.type "tuple") = true := rfl
  rw [if_pos (by rw [t1]; simp)]
  refine wpAny_bind (listItems_at g1' g3 ?_)
  refine wpAny_bind (listItems_at (n := 0) (xs := #[]) (Heap.get?_push_size _ rfl) rfl ?_)
  rw [if_neg (by simp)]
  refine wpAny_bind (listUpdate_at (n := 0) (xs := #[]) (Heap.get?_push_size _ rfl) rfl ?_ (Nat.zero_le _) (by show (#[] ++ us.toArray).size ≤ sizeLine + 1; simp only [Array.size_append, List.size_toArray, List.length_nil]; omega))
  refine wpAny_pure ?_
  show wpAny (model prog w) A (load s.heap.objs.size >>= fun o => match o.data with
    | .seq xs _ => pure xs.toList
    | _ => unsupported "internal:collect") Q E ({ s with heap := (s.heap.push (seqObj "list" #[] 0)).update s.heap.objs.size (Obj.mapSeq (· ++ us.toArray)) })
  refine wpAny_bind (wpAny_load (get?_update_seq (Heap.get?_push_size _ rfl) _) ?_)
  show wpAny _ _ (pure ((#[] : Array Value) ++ us.toArray).toList) Q E _
  have e0 : ((#[] : Array Value) ++ us.toArray).toList = us := by simp
  rw [e0]
  exact wpAny_pure h
/-- a list of at most one item sorts to itself -/
theorem sort_short {a : Addr} {us : List Value} {n : Nat} {P : PySem.Fin → Shared → Prop} (g : s.heap.get? a = some (seqObj "list" us.toArray n)) (hs : us.length < 2)
    (h : P (.done (.ret .none)) { s with heap := sortedHeap s.heap a us us.toArray }) : wpAny (model prog w) A (Builtin.«list.sort» ⟨[.ref a], []⟩) P E s := by
  have hL : us.length ≤ sizeLine := Nat.le_trans (Nat.le_of_lt hs) (by decide)
  rw [plain_is_rev, list_sort_rev]
  have la : a < s.heap.objs.size := Heap.lt_size g
  refine wpAny_bind (listItems_at g rfl ?_)
  refine wpAny_bind (listUpdate_at g rfl ?_ (by rw [List.size_toArray]; exact hL) (Nat.zero_le _))
  obtain ⟨e1, g1⟩ : ∃ e1, (s.heap.update a (Obj.mapSeq fun _ => #[])).get? a = some (seqObj "list" #[] e1) := ⟨_, get?_update_seq g (fun _ => #[])⟩
  refine wpAny_bind (seqEpoch_at g1 rfl ?_)
  refine wpAny_bind (wpAny_newTuple ?_ (show us.length ≤ _ from hL))
  refine wpAny_bind (wpAny_newList ?_ (Nat.zero_le _))
  refine wpAny_holding ?_
  have g6 : (((s.heap.update a (Obj.mapSeq fun _ => #[])).push (seqObj "tuple" us.toArray 0)).push (seqObj "list" #[] 0)).get? a = some (seqObj "list" #[] e1) := by
    rw [Heap.get?_push_ne _ _ _ (by rw [size_push', Heap.size_update]; exact Nat.ne_of_lt (Nat.lt_succ_of_lt la)), Heap.get?_push_ne _ _ _ (by rw [Heap.size_update]; exact Nat.ne_of_lt la)]
    exact g1
  show wpAny (model prog w) A _ P E ({ s with heap := ((s.heap.update a (Obj.mapSeq fun _ => #[])).push (seqObj "tuple" us.toArray 0)).push (seqObj "list" #[] 0) })
  dsimp only
  have hz : us.toArray.size < 2 := by simpa using hs
  rw [if_neg (by decide), if_pos hz, if_pos hz]
  refine wpAny_bind (wpAny_pure ?_)
  rw [StateT.run_pure]
  refine wpAny_bind (wpAny_pure ?_)
  dsimp only
  have em : (arrOf (SortSt.mk' general' (us.toArray.zip us.toArray) #[] 7 none)).map (·.2) = us.toArray := by
    show (us.toArray.zip us.toArray).map (·.2) = us.toArray
    match us, hs with
    | [], _ => simp
    | [x], _ => simp
  refine wpAny_bind (seqEpoch_at g6 rfl ?_)
  rw [if_neg (by decide)]
  have e2 : (arrOf (SortSt.mk' general' (us.toArray.zip us.toArray) #[] 7 none)).map (·.2) = us.toArray := em
  simp only [Bool.false_eq_true, if_false]
  rw [e2]
  refine wpAny_bind (listUpdate_at g6 rfl ?_ (Nat.zero_le _) (by show us.toArray.size ≤ _; rw [List.size_toArray]; omega))
  simp only [bne_self_eq_false, Bool.false_eq_true, if_false]
  exact wpAny_pure h
/-- sorted(xs), sorted(t): the items gathered, then sorted -/
theorem sorted_seq {l : Addr} {us : List Value} {Q : Value → Shared → Prop} (hl : s.heap.IsList l us.toArray ∨ s.heap.IsTuple l us.toArray) (hz : us.length ≤ sizeLine)
    (body : ∀ E' : Value → Shared → Prop, wpAny (model prog w) A.in1.in1 (Builtin.«list.sort» ⟨[.ref (s.heap.objs.size + 1)], []⟩) (fun f s' => f = .done (.ret .none) ∧ Q (.ref (s.heap.objs.size + 1)) s') E' { s with heap := copyHeap s.heap us }) :
    wpAny (model prog w) A (call (.builtin "sorted") [.ref l]) Q E s := by
  rcases hl with hl | hl
  · exact sorted_of_sort hl hz (args_sorted1 _) (fun _ => args_list_sort _) body
  refine Calls.call_function_entry kind_sorted plain_sorted entry_sorted (args_sorted1 (.ref l)) ?_
  unfold Builtin.«sorted»
  refine wpAny_bind (m := checkCount "sorted" 1 1 _) (wpAny_pure ?_)
  refine wpAny_bind (collect_tup hl hz ?_)
  refine wpAny_bind (wpAny_newList ?_ hz)
  have e1 : ((s.heap.push (seqObj "list" #[] 0)).update s.heap.objs.size (Obj.mapSeq (· ++ us.toArray))).objs.size = s.heap.objs.size + 1 := by rw [Heap.size_update, size_push']
  show wpAny _ _ _ _ _ ({ s with heap := copyHeap s.heap us })
  rw [e1]
  refine wpAny_bind (wpAny_holding (wpAny_call_entry slot_list_sort ⟨_, copyHeap_at s.heap us, rfl⟩ entry_list_sort ?body (args_list_sort _)))
  case body =>
    show wpAny (model prog w) A.in1.in1 (Builtin.«list.sort» ⟨[.ref (s.heap.objs.size + 1)], []⟩) _ _ _
    refine wpAny_mono (body _) (fun f s1 hf => ?_) fun _ _ z => z
    obtain ⟨rfl, hq⟩ := hf
    exact ⟨_, rfl, wpAny_pure ⟨_, rfl, hq⟩⟩
end
/-- sorted(xs), by data: a list or a tuple -/
def rSortX (K : PySem.W.Frag) : List V → Hp → VK → Prop := fun xs H Q => ∃ (a : Addr) (vs : List V) (ds : List D), xs = [.ref a] ∧ (SqL K H a vs ∨ SqT K H a vs) ∧ DpAll K H vs ds ∧ (sortOk ds = true ∨ ds.length < 2) ∧
  ∀ p, H p = none → Q (.ref p) (upd H p (.lst (((vs.zip ds).mergeSort (PySem.W.dataLe false fun z : V × D => z.2)).map (·.1))))
theorem cr_sortX {X : Cx} (hu : X.A.units + 64 < cLine) : CallR X (.builtin "sorted") (rSortX X.K) := by
  intro pins s σ H vs us Q I r h
  obtain ⟨a, xs, ds, rfl, hs, hd, hk, q⟩ := h
  obtain ⟨its, rv, hl, hz⟩ : ∃ its : List Value, Vals xs its ∧ (s.heap.IsList a its.toArray ∨ s.heap.IsTuple a its.toArray) ∧ xs.length ≤ sizeLine := by
    rcases hs with hs | hs
    · obtain ⟨its, rv, hl, hz⟩ := I.list hs
      exact ⟨its, rv, .inl hl.isList, hz⟩
    · obtain ⟨its, rv, hl, hz⟩ := I.tuple hs
      exact ⟨its, rv, .inr hl, hz⟩
  rw [Vals.ref1 r]
  obtain ⟨hlen, hzip⟩ := DpAll.zip hd
  have hE := vals_zip hlen rv
  have hil := rv.length
  have out : ∀ out : List Value, PySem.W.EachIs (fun u (z : V × D) => RelV z.1 u) out ((xs.zip ds).mergeSort (PySem.W.dataLe false fun z : V × D => z.2)) → ∀ s', s' = { s with heap := sortedAll s.heap its (List.toArray out) } → EP X pins σ Q (.ref (s.heap.objs.size + 1)) s' := fun out h2 s' e => by
    subst e
    obtain ⟨ep, he'⟩ := PyProof.Rows.sortedAll_at s.heap its out.toArray
    have hn : H (s.heap.objs.size + 1) = none := I.hok.fresh (Nat.le_succ _)
    have hvs := each_vals h2
    have hlz : (((xs.zip ds).mergeSort (PySem.W.dataLe false fun z : V × D => z.2)).map (·.1)).length ≤ sizeLine := by
      rw [List.length_map, List.length_mergeSort, List.length_zip]; omega
    exact ⟨.ref _, upd H (s.heap.objs.size + 1) (.lst (((xs.zip ds).mergeSort (PySem.W.dataLe false fun z : V × D => z.2)).map (·.1))), I.laid (t' := s.toks) (fun _ _ => PyProof.Rows.sortedAll_old) (Nat.le_succ _) ⟨hlz, out, ep, hvs, he'⟩, rfl, q _ hn⟩
  by_cases h2 : its.length < 2
  · refine sorted_seq hl (by omega) fun E' => sort_short (s := { s with heap := copyHeap s.heap its }) (copyHeap_at s.heap its) h2 ⟨rfl, out its ?_ _ rfl⟩
    have hle : (xs.zip ds).length < 2 := by rw [List.length_zip]; omega
    have e : (xs.zip ds).mergeSort (PySem.W.dataLe false fun z : V × D => z.2) = xs.zip ds := by
      match xs.zip ds, hle with
      | [], _ => simp
      | [z], _ => simp
    rw [e]
    exact hE
  · have hk : sortOk ds = true := hk.resolve_right (by omega)
    obtain ⟨hal, hso, hfl⟩ := sortOk_of hk
    have hmap : (xs.zip ds).map (fun z : V × D => z.2) = ds := by rw [show (fun z : V × D => z.2) = Prod.snd from rfl, List.map_snd_zip (by omega)]
    have hmem : ∀ z ∈ xs.zip ds, z.2 ∈ ds := fun z hz' => by
      rw [← hmap]
      exact List.mem_map.mpr ⟨z, hz', rfl⟩
    have er : PySem.W.EachIs (fun v (b : V × D) => ∃ as, Reads s.heap v b.2 as) its (xs.zip ds) := by
      refine PySem.W.EachIs.of_zip hE.length fun p hp => ?_
      have hr := hE.zip p hp
      have hm : p.2 ∈ xs.zip ds := (List.of_mem_zip hp).2
      exact Dp.reads I p.2.2 p.2.1 p.1 (hzip p.2 hm) hr
    have er1 : PySem.W.EachIs (fun v (b : V × D) => ∃ as, Reads (sortingHeap (copyHeap s.heap its) (s.heap.objs.size + 1) its) v b.2 as) its (xs.zip ds) := er.mono fun _ _ ⟨as, r⟩ => ⟨as, PyProof.Rows.Reads.keeps (fun _ _ => sorting_copy_old) r⟩
    refine sorted_seq hl (by omega) fun E' => list_sort_vals (s := { s with heap := copyHeap s.heap its }) (copyHeap_at s.heap its)
      (SortsAt.data (s := { s with heap := sortingHeap (copyHeap s.heap its) (s.heap.objs.size + 1) its }) (each_map (R := fun v d => ∃ as, Reads (sortingHeap (copyHeap s.heap its) (s.heap.objs.size + 1) its) v d as) (fun z : V × D => z.2) er1) (by rw [hmap]; exact hal) (by rw [hmap]; exact hso) ?_) (by omega) ⟨rfl, out _ (sortVals_data false hE er1 (by rw [hmap]; exact hal)) _ rfl⟩
    intro d hd
    rw [hmap] at hd
    have := (flat_plain 20 d (hfl d hd)).2
    show X.A.units + 1 + 1 + d.depth < cLine
    omega
section
variable {Y : Dyn} {R : Rw} {H H1 H' : Hp} {uq : Bool} {Q : VK} {x y : W} {v : V} {F : List Addr} {c : Sc} {e e1 e2 e3 : Expr} {pos : Pos}
def oSortX : W → T W
  | .d (.list xs) => T.must ((Nat.blt xs.length 2 && allB xs (flat 20) || sortOk xs) && immAll xs) (.ret (.d (.list (sortD xs))))
  | .d (.tuple xs) => T.must ((Nat.blt xs.length 2 && allB xs (flat 20) || sortOk xs) && immAll xs) (.ret (.d (.list (sortD xs))))
  | _ => .fail
theorem sortX_rel {w : World} {K : PySem.W.Frag} {vs : List V} {ds : List D} {F : List Addr} (r : RpA w K H vs ds F) (hb : immAll ds = true) : RpA w K H (((vs.zip ds).mergeSort (PySem.W.dataLe false fun z : V × D => z.2)).map (·.1)) (sortD ds) [] := by
  have r0 := RpA.toZip (r.imm0 hb) rfl
  have e : sortD ds = ((vs.zip ds).mergeSort (PySem.W.dataLe false fun z : V × D => z.2)).map (·.2) := by
    have e2 := PySem.W.sort_maps (r := PySem.W.dataLe false fun z : V × D => z.2) (s := PySem.W.dataLe false fun d : D => d) (fun z : V × D => z.2) (l := vs.zip ds) (fun _ _ _ _ => rfl)
    have e3 : (vs.zip ds).map (fun z : V × D => z.2) = ds := List.map_snd_zip (by rw [r.length]; omega)
    rw [e2, e3, sortD_merge]
  rw [e]
  exact RpA.ofZip fun z hz => r0 z (List.mem_mergeSort.mp hz)
theorem sortX_ok {xs : List D} (h : (Nat.blt xs.length 2 && allB xs (flat 20) || sortOk xs) = true) : (sortOk xs = true ∨ xs.length < 2) ∧ ∀ d ∈ xs, flat 20 d = true := by
  rcases Bool.or_eq_true_iff.mp h with h | h
  · rw [Bool.and_eq_true] at h
    exact ⟨.inr (Nat.le_of_ble_eq_true h.1), allB_of h.2⟩
  · exact ⟨.inl h, (sortOk_of h).2.2⟩
theorem ok_sortX : CallOk c (.builtin "sorted") (o1 oSortX) true := call_one fun Y X sx => by
  refine ⟨_, cr_sortX (sx_units sx), fun R H v x F Q ri rx aw k => ?_⟩
  unfold oSortX at k
  split at k
  · obtain ⟨hb, k⟩ := T.wp_must k
    rw [Bool.and_eq_true] at hb
    obtain ⟨h1, h2⟩ := sortX_ok hb.1
    cases rx with
    | @lst a vs _ _ h r => exact ⟨a, vs, _, rfl, .inl (SqL.of h), by rw [sx.K]; exact r.dp (plain_all h2), h1, fun p hp => newL ri k hp (sortX_rel r hb.2)⟩
  · obtain ⟨hb, k⟩ := T.wp_must k
    rw [Bool.and_eq_true] at hb
    obtain ⟨h1, h2⟩ := sortX_ok hb.1
    cases rx with
    | @tup a vs _ _ h r => exact ⟨a, vs, _, rfl, .inr (by rw [sx.K]; exact h), by rw [sx.K]; exact r.dp (plain_all h2), h1, fun p hp => newL ri k hp (sortX_rel r hb.2)⟩
  · exact k.elim
end
end G

set_option Elab.async false
set_option linter.all false
set_option maxRecDepth 100000
/-! G37: xs.append(ys.pop(i)), xs[i].append(e). -/
namespace G
open PySem PySem.Spec PyProof.Rows L2
section
variable {Y : Dyn} {R : Rw} {P : Addr → Prop} {H H1 H2 H' : Hp} {uq : Bool} {Q : VK} {x y : W} {v : V} {F : List Addr} {c : Sc} {e e1 e2 e3 tg : Expr} {pos : Pos} {en : En} {σ : L2.St} {Fs : Nat → List Addr} {D : Ends}
theorem RpA.erase {w : World} {K : PySem.W.Frag} : ∀ {vs : List V} {ds : List PyData} {F : List Addr} (j : Nat), RpA w K H vs ds F → F.Nodup → ∃ F', RpA w K H (vs.eraseIdx j) (ds.eraseIdx j) F' ∧ (∀ a ∈ F', a ∈ F) ∧ F'.Nodup
  | _, _, _, j, .nil, _ => ⟨[], by rw [List.eraseIdx_nil, List.eraseIdx_nil]; exact .nil, (fun _ h => nomatch h), List.nodup_nil⟩
  | _, _, _, 0, .cons (F := F1) (F' := F2) h r, nd => ⟨F2, r, fun a ha => List.mem_append_right _ ha, (List.nodup_append.mp nd).2.1⟩
  | _, _, _, j + 1, .cons (F := F1) (F' := F2) h r, nd => by
    obtain ⟨n1, n2, n3⟩ := List.nodup_append.mp nd
    obtain ⟨F', h1, h2, h3⟩ := RpA.erase j r n2
    refine ⟨F1 ++ F', .cons h h1, fun a ha => ?_, List.nodup_append.mpr ⟨n1, h3, fun a ha b hb => n3 a ha b (h2 b hb)⟩⟩
    rcases List.mem_append.mp ha with ha | ha
    · exact List.mem_append_left _ ha
    · exact List.mem_append_right _ (h2 a ha)
/-- xs.append(ys.pop(k)) -/
def mAppPop (i j : Nat) (m : En → T W) : En → T Out := fun en => match en[i]?, en[j]? with
  | some (some ⟨0, .d (.list xs)⟩), some (some ⟨0, .d (.list ys)⟩) => (m en).bind fun z => match z with
    | .d (.int k) => match ixN ys.length k with
      | some n => match ys[n]? with
        | some d => T.must (!Nat.beq i j && imm d && Nat.ble xs.length 99999 && decide (-1000000 ≤ k) && decide (k ≤ 1000000)) (.ret (.nx ((en.set j (some ⟨0, .d (.list (ys.eraseIdx n))⟩)).set i (some ⟨0, .d (.list (xs ++ [d]))⟩))))
        | none => .fail
      | none => .fail
    | _ => .fail
  | _, _ => .fail
theorem ss_appPop {i j : Nat} {nm nm2 : Str} {p p2 apos apos2 cpos cpos2 : Pos} {m : En → T W} {u1 : Bool} (h : SE c e m u1) (hn : notStar e = true) (hi : c.N[i]? = some nm) (hv : Vis c.sc nm) (hd : (nm == ("__debug__" : Str)) = false) (hcd : (nm == ("__classdict__" : Str)) = false)
    (hj : c.N[j]? = some nm2) (hv2 : Vis c.sc nm2) (hd2 : (nm2 == ("__debug__" : Str)) = false) (hcd2 : (nm2 == ("__classdict__" : Str)) = false) (hl : (apos.endLine == cpos.line) = true) (hl2 : (apos2.endLine == cpos2.line) = true) :
    SS c (.Expr (.Call (.Attribute (.Name nm p) "append" apos) [.Call (.Attribute (.Name nm2 p2) "pop" apos2) [e] [] cpos2] [] cpos) pos) (mAppPop i j m) := by
  intro Y X sx dy
  obtain ⟨t, pe, s⟩ := h Y X sx.sx dy
  have ppop := pe_bm PySem.F.plainAttrs_list PySem.F.slot_list_pop PySem.F.type_list_pop mt_popAt (pe_var (X := X) (pos := p2) (by rw [sx.sx.N]; exact hj) (by rw [sx.sx.sc]; exact hv2) hd2 hcd2) (pa_cons pe pa_nil (star_eq hn)) rfl (by rw [star_eq hn]; rfl) hl2 (star_eq hn)
  refine ⟨_, ps_expr (pe_bm PySem.F.plainAttrs_list PySem.F.slot_list_append PySem.F.type_list_append mt_append (pe_var (by rw [sx.sx.N]; exact hi) (by rw [sx.sx.sc]; exact hv) hd hcd) (pa_cons ppop pa_nil) rfl rfl hl), fun R P en σ H D ⟨Fs, rel⟩ k => ?_⟩
  unfold mAppPop at k
  split at k
  · rename_i xs ys hsi hsj
    obtain ⟨q1, vs, F1, hv1, hp1, ra1, hF1, nd1, nP1, aw1, dis1⟩ := own_list rel hsi
    obtain ⟨q2, us, F2, hv2, hp2, ra2, hF2, nd2, nP2, aw2, dis2⟩ := own_list rel hsj
    refine ⟨_, hv1, .inl ⟨rfl, vs, SqL.of hp1⟩, _, hv2, .inl ⟨rfl, us, SqL.of hp2⟩, s R en σ H _ rel.toW ?_⟩
    refine T.wp_mono ((T.wp_bind _ _ _).mp k) fun z kz => ?_
    intro u H1 Fz l rz awz _
    split at kz
    · rename_i kk
      split at kz
      · rename_i n hn
        split at kz
        · rename_i d hdn
          obtain ⟨hb, kz⟩ := T.wp_must kz
          simp only [Bool.and_eq_true, decide_eq_true_eq] at hb
          obtain ⟨⟨⟨⟨b1, b2⟩, b3⟩, b4⟩, b5⟩ := hb
          have hij : i ≠ j := fun z => by rw [z, Nat.beq_refl] at b1; cases b1
          cases rz
          have rel1 := rel.le l
          have hp2' : H1 q2 = some (.lst us) := lst_le l (aw2 q2 List.mem_cons_self).1 hp2
          have ra2' := ra2.le l rel.ri aw2.tail
          obtain ⟨w, Fw, hw, rw', _⟩ := ra2'.get hdn
          have ew := Rp.imm rw' b2
          subst ew
          obtain ⟨nq2, nF2⟩ := List.nodup_cons.mp nd2
          obtain ⟨F3, r3, s3, n3⟩ := ra2'.erase n nF2
          have hix : seqIndex? kk us.length = some n := by rw [ra2.length]; exact (ixN_seq hn).1
          refine ⟨q2, us, kk, n, w, rfl, rfl, hp2', by omega, by omega, hix, hw, ?_⟩
          have sub3 : ∀ a ∈ q2 :: F3, a ∈ q2 :: F2 := fun a ha => (List.mem_cons.mp ha).elim (fun e => by rw [e]; exact List.mem_cons_self) fun ha => List.mem_cons_of_mem _ (s3 a ha)
          obtain ⟨⟨Gs, rel2⟩, lp2⟩ := rel1.mutL (vs' := us.eraseIdx n) (ds' := ys.eraseIdx n) (F' := F3) hsj rfl hv2 hp2' (by rw [hF2]; exact List.mem_cons_self) r3 (fun a ha => aw2 a (List.mem_cons_of_mem _ (s3 a ha))) (List.nodup_cons.mpr ⟨fun z => nq2 (s3 q2 z), n3⟩) (fun a ha => nP2 a (List.mem_cons_of_mem _ (s3 a ha))) fun t ht tj hs' a ha => dis2 t ht tj hs' a (List.mem_cons_of_mem _ (s3 a ha))
          have hsi2 : (en.set j (some ⟨0, .d (.list (ys.eraseIdx n))⟩))[i]? = some (some ⟨0, .d (.list xs)⟩) := by rw [List.getElem?_set_ne (Ne.symm hij)]; exact hsi
          obtain ⟨q3, vs3, F5, hv3, hp3, ra3, hF3, nd3, nP3, aw3, dis3⟩ := own_list rel2 hsi2
          have eq3 : q1 = q3 := by
            have := hv1.symm.trans hv3
            cases this; rfl
          subst eq3
          have ch : (∃ xs, H1 q2 = some (.lst xs)) ∨ ∃ ps, H1 q2 = some (DX q2 ps) := .inl ⟨_, hp2'⟩
          have rw2 : Rp Y.w Y.K (upd H1 q2 (.lst (us.eraseIdx n))) w d [] := rw'.mut ch fun z => nomatch z
          obtain ⟨rel3, lp3⟩ := rel2.mutL (vs' := vs3 ++ [w]) (ds' := xs ++ [d]) (F' := F5) hsi2 rfl hv3 hp3 (by rw [hF3]; exact List.mem_cons_self) (by
            have := ra3.app (.cons rw2 .nil)
            rwa [List.append_nil, List.append_nil] at this) aw3.tail nd3 (fun a ha => nP3 a (List.mem_cons_of_mem _ ha)) fun t ht tj hs' a ha => dis3 t ht tj hs' a (List.mem_cons_of_mem _ ha)
          refine ⟨q1, vs3, w, rfl, rfl, hp3, by rw [ra3.length]; exact lim_size' (by have := bleD b3; unfold lim; omega), ?_⟩
          exact kz _ _ ((LeP.trans (l.toP rel.ri) lp2).trans lp3) rel3
        · exact kz.elim
      · exact kz.elim
    · exact kz.elim
  · exact k.elim
/-- xs[k].append(e) -/
def mSubApp (i : Nat) (mj m : En → T W) : En → T Out := fun en => match en[i]? with
  | some (some ⟨0, .d (.list ds)⟩) => (mj en).bind fun z => match z with
    | .d (.int n) => match ixN ds.length n with
      | some j => match ds[j]? with
        | some (.list xs) => T.must (Nat.ble xs.length 99999) ((m en).bind fun y => (dOf y).bind fun d => .ret (.nx (en.set i (some ⟨0, .d (.list (ds.set j (.list (xs ++ [d]))))⟩))))
        | _ => .fail
      | none => .fail
    | _ => .fail
  | _ => .fail
theorem ss_subApp {i : Nat} {nm : Str} {p pt apos cpos : Pos} {m mj : En → T W} {u1 : Bool} (h : SE c e m true) (hj : SE c e1 mj u1) (hn : notStar e = true) (hi : c.N[i]? = some nm) (hv : Vis c.sc nm) (hd : (nm == ("__debug__" : Str)) = false) (hcd : (nm == ("__classdict__" : Str)) = false)
    (hns : notSlice e1 = true) (hl : (apos.endLine == cpos.line) = true) : SS c (.Expr (.Call (.Attribute (.Subscript (.Name nm p) e1 pt) "append" apos) [e] [] cpos) pos) (mSubApp i mj m) := by
  intro Y X sx dy
  obtain ⟨t, pe, s⟩ := h Y X sx.sx dy
  obtain ⟨tj, pj, sj⟩ := hj Y X sx.sx dy
  refine ⟨_, ps_expr (pe_bm PySem.F.plainAttrs_list PySem.F.slot_list_append PySem.F.type_list_append mt_append (pe_ix ix_list (pe_var (by rw [sx.sx.N]; exact hi) (by rw [sx.sx.sc]; exact hv) hd hcd) pj (plainIx_of hns)) (pa_cons pe pa_nil (star_eq hn)) rfl (by rw [star_eq hn]; rfl) hl (star_eq hn)), fun R P en σ H D ⟨Fs, rel⟩ k => ?_⟩
  unfold mSubApp at k
  split at k
  · rename_i ds hs
    obtain ⟨p, vs, F0, hv, hp, ra, hF, nd, nP, aw, dis⟩ := own_list rel hs
    refine ⟨_, hv, sj R en σ H _ rel.toW ?_⟩
    refine T.wp_mono ((T.wp_bind _ _ _).mp k) fun z kz => ?_
    intro w H1 Fz l1 rz _ _
    split at kz
    · rename_i n
      split at kz
      · rename_i j hjx
        split at kz
        · rename_i xs hx
          obtain ⟨hb, kz⟩ := T.wp_must kz
          cases rz
          have rel1 := rel.le l1
          have hp1 : H1 p = some (.lst vs) := lst_le l1 (aw p List.mem_cons_self).1 hp
          have ra1 := ra.le l1 rel.ri aw.tail
          obtain ⟨vx, Fx, hvx, rx, hFx⟩ := ra1.get hx
          cases rx with
          | @lst q zs _ Fq hq rq =>
          refine ⟨p, vs, n, .ref q, rfl, rfl, SqL.of hp1, by unfold L2.atI; rw [ra.length, hjx]; exact hvx, .inl ⟨rfl, zs, SqL.of hq⟩, s R en σ H1 _ rel1.toW ?_⟩
          refine T.wp_mono ((T.wp_bind _ _ _).mp kz) fun y ky => ?_
          intro u H2 Fy l2 r awy uy
          obtain ⟨d, rfl, ky⟩ := dOf_wp ((T.wp_bind _ _ _).mp ky)
          have l12 := l1.trans l2
          have rel2 := rel.le l12
          have hp2 : H2 p = some (.lst vs) := lst_le l12 (aw p List.mem_cons_self).1 hp
          have ra2 := ra.le l12 rel.ri aw.tail
          obtain ⟨a1, a2⟩ := rel1.apart (uy rfl).2
          have nF : ∀ a ∈ Fy, a ∉ p :: F0 := fun a ha z => a2 i _ hs a ha (by rw [hF]; exact z)
          have ndF0 := (List.nodup_cons.mp nd).2
          have hpF0 := (List.nodup_cons.mp nd).1
          obtain ⟨vx', Fj, g1, g2, g3, g4, g5⟩ := RpA.mutAt j ra2 ndF0 hx
          have ev : vx' = .ref q := Option.some.inj (g1.symm.trans hvx)
          subst ev
          cases g2 with
          | @lst _ zs2 _ Fq2 hq2 rq2 =>
          have hqF : q ∈ F0 := g3 q List.mem_cons_self
          have hqp : p ≠ q := fun z => hpF0 (by rw [z]; exact hqF)
          have hq2e : H2 q = some (.lst zs) := lst_le l2 (aw.tail q hqF).1 hq
          have ez : zs2 = zs := by rw [hq2] at hq2e; cases hq2e; rfl
          subst ez
          obtain ⟨nq, nFq⟩ := List.nodup_cons.mp g4
          have ch : Chg H2 q := .inl ⟨_, hq2⟩
          have nqy : q ∉ Fy := fun z => nF q z (List.mem_cons_of_mem _ hqF)
          have hnq : Rp Y.w Y.K (upd H2 q (.lst (zs2 ++ [u]))) (.ref q) (.list (xs ++ [d])) (q :: (Fq2 ++ (Fy ++ []))) := .lst upd_same (RpA.mut ch (rq2.app (.cons r .nil)) (by
            rw [List.append_nil]
            exact fun z => (List.mem_append.mp z).elim nq nqy))
          rw [List.append_nil] at hnq
          obtain ⟨F2, k1, k2, k3⟩ := g5 q (.lst (zs2 ++ [u])) _ _ List.mem_cons_self ch hnq (List.nodup_cons.mpr ⟨fun z => (List.mem_append.mp z).elim nq nqy, List.nodup_append.mpr ⟨nFq, (uy rfl).1, fun a ha b hb e => nF b hb (by rw [← e]; exact List.mem_cons_of_mem _ (g3 a (List.mem_cons_of_mem _ ha)))⟩⟩) (fun a ha => by
            rcases List.mem_cons.mp ha with rfl | ha
            · exact .inl List.mem_cons_self
            · rcases List.mem_append.mp ha with ha | ha
              · exact .inl (List.mem_cons_of_mem _ ha)
              · exact .inr fun z => nF a ha (List.mem_cons_of_mem _ z))
          have sub : ∀ a ∈ F2, a ∈ F0 ∨ a ∈ Fy := fun a ha => (k2 a ha).elim .inl fun z => by
            rcases List.mem_cons.mp z with rfl | z
            · exact .inl hqF
            · exact (List.mem_append.mp z).imp (fun z => g3 a (List.mem_cons_of_mem _ z)) id
          have hnew : RpW Y R (upd H2 q (.lst (zs2 ++ [u]))) (.ref p) (.d (.list (ds.set j (.list (xs ++ [d]))))) (p :: F2) := .lst (by rw [upd_ne hqp]; exact hp2) k1
          have sub2 : ∀ a ∈ p :: F2, a ∈ p :: F0 ∨ a ∈ Fy := fun a ha => by
            rcases List.mem_cons.mp ha with rfl | ha
            · exact .inl List.mem_cons_self
            · exact (sub a ha).imp (List.mem_cons_of_mem _) id
          obtain ⟨rel', lp⟩ := rel2.mutG (x' := .d (.list (ds.set j (.list (xs ++ [d]))))) hs rfl hv ch (by rw [hF]; exact List.mem_cons_of_mem _ hqF) hnew (fun a ha => (sub2 a ha).elim (aw a) (awy a)) (List.nodup_cons.mpr ⟨fun z => (sub p z).elim hpF0 fun z => nF p z List.mem_cons_self, k3⟩) (fun a ha => (sub2 a ha).elim (nP a) (a1 a)) fun j t hj ht a ha => (sub2 a ha).elim (dis j t hj ht a) (a2 j t ht a)
          refine ⟨q, zs2, u, rfl, rfl, hq2, ?_, ky _ _ (LeP.trans (l12.toP rel.ri) lp) rel'⟩
          rw [rq2.length]
          exact lim_size' (by have := bleD hb; unfold lim; omega)
        · exact kz.elim
      · exact kz.elim
    · exact kz.elim
  · exact k.elim
end
end G

set_option Elab.async false
set_option linter.all false
set_option maxRecDepth 100000
/-! G38: sorted(set(xs)), len(set(xs)), xs a list of tuples of whole numbers. -/
namespace G
open PySem PySem.Spec PyProof.Rows L2 PySem.W

/-! ### plain -/
def encT (k : List Int) : PyData := .tuple (k.map PyData.int)
def leT (a b : List Int) : Bool := !ltD (encT b) (encT a)
def memT (k : List Int) (ks : List (List Int)) : Bool := ks.any fun z => z == k
def dedupT : List (List Int) → List (List Int)
  | [] => []
  | k :: ks => match memT k ks with
    | true => dedupT ks
    | false => k :: dedupT ks
def sortT (ks : List (List Int)) : List (List Int) := isort leT (dedupT ks)
theorem memT_iff {k : List Int} {ks : List (List Int)} : memT k ks = true ↔ k ∈ ks := by
  unfold memT
  rw [List.any_eq_true]
  constructor
  · rintro ⟨z, hz, e⟩
    rw [← eq_of_beq e]; exact hz
  · exact fun h => ⟨k, h, beq_self_eq_true k⟩
theorem dedupT_mem {k : List Int} : ∀ {ks : List (List Int)}, k ∈ dedupT ks ↔ k ∈ ks
  | [] => Iff.rfl
  | a :: ks => by
    unfold dedupT
    split
    · rename_i h
      rw [dedupT_mem (ks := ks), List.mem_cons]
      exact ⟨.inr, fun z => z.elim (fun e => by rw [e]; exact memT_iff.mp h) id⟩
    · rw [List.mem_cons, List.mem_cons, dedupT_mem (ks := ks)]
theorem dedupT_nodup : ∀ ks : List (List Int), (dedupT ks).Nodup
  | [] => List.nodup_nil
  | a :: ks => by
    unfold dedupT
    split
    · exact dedupT_nodup ks
    · rename_i h
      refine List.nodup_cons.mpr ⟨fun z => ?_, dedupT_nodup ks⟩
      rw [memT_iff.mpr (dedupT_mem.mp z)] at h
      cases h
theorem leT_iff {a b : List Int} : leT a b = true ↔ a ≤ b := by
  unfold leT encT
  rw [ltD_eq, PySem.W.dataLt_tuple]
  show (!PySem.W.rowLt (b.map PyData.int) (a.map PyData.int)) = true ↔ _
  rw [PySem.W.dataLt_ints, Bool.not_eq_true', decide_eq_false_iff_not]
  exact List.not_lt
theorem leT_total : PySem.W.TotalLe leT := by
  have e : leT = PySem.W.dataLe false encT := by
    funext x y
    show (!ltD (encT y) (encT x)) = _
    rw [ltD_eq]
    rfl
  rw [e]
  exact PySem.W.sortLe_total _ _ _
theorem leT_sorted (ks : List (List Int)) : (ks.mergeSort (PySem.W.dataLe false encT)).Pairwise (fun a b => leT a b = true) := by
  have e : PySem.W.dataLe false encT = leT := by
    funext x y
    show _ = (!ltD (encT y) (encT x))
    rw [ltD_eq]
    rfl
  rw [e, ← isort_merge leT_total]
  exact isort_sorted leT_total ks
theorem isort_perm {α : Type} {le : α → α → Bool} (t : PySem.W.TotalLe le) (xs : List α) : (isort le xs).Perm xs := by
  rw [isort_merge t]
  exact List.mergeSort_perm xs le
/-- all sorted lists of the same tuples, each once, are one -/
theorem sortT_unique {ks l : List (List Int)} (hs : l.Pairwise (fun a b => leT a b = true)) (nd : l.Nodup) (hm : ∀ k, k ∈ l ↔ k ∈ ks) : l = sortT ks := by
  have p : l.Perm (sortT ks) := by
    refine ((List.perm_ext_iff_of_nodup nd (dedupT_nodup ks)).mpr fun k => ?_).trans (isort_perm leT_total _).symm
    rw [hm, dedupT_mem]
  refine p.eq_of_pairwise (fun a b _ _ h1 h2 => ?_) hs (isort_sorted leT_total _)
  exact List.le_antisymm (leT_iff.mp h1) (leT_iff.mp h2)

/-! ### sorted(set) -/
section
variable {P : Program} {w : World} {A : Around} {E : Value → Shared → Prop} {s : Shared} {a : Addr} {L : List (Addr × List Int)} {es : Array (Int × Value)} {ep : Nat} {t : SetTable}
theorem readsInts {h : Heap} : ∀ {us : List Value} {ns : List Int}, IntsAre us ns → ∃ as, ReadsAll h us (ns.map PyData.int) as
  | _, _, .nil => ⟨[], .nil⟩
  | _, _, .cons n t r => let ⟨as, g⟩ := readsInts r; ⟨[] ++ as, .cons (.int n t) g⟩
theorem reads_isT {h : Heap} {k : List Int} {b : Addr} (x : IsT P w h k b) : ∃ as, Reads h (.ref b) (encT k) as := by
  obtain ⟨o, items, n, ho, hc, hd, hi⟩ := x
  obtain ⟨as, r⟩ := readsInts (h := h) (ints_of_items hi)
  exact ⟨as, .tuple ho hc hd r⟩
theorem eachRef : ∀ L1 : List (Addr × List Int), PySem.W.EachIs (fun v (q : Addr × List Int) => v = Value.ref q.1) (L1.map fun q => Value.ref q.1) L1
  | [] => .nil
  | q :: L1 => .cons rfl (eachRef L1)
theorem eachRefs : ∀ {L1 : List (Addr × List Int)} {vs : List Value}, PySem.W.EachIs (fun v (q : Addr × List Int) => v = Value.ref q.1) vs L1 → vs = L1.map fun q => Value.ref q.1
  | _, _, .nil => rfl
  | _, _, .cons h r => by rw [h, eachRefs r, List.map_cons]
theorem eachReads {h : Heap} : ∀ {L1 : List (Addr × List Int)}, (∀ q ∈ L1, ∃ as, Reads h (.ref q.1) (encT q.2) as) → PySem.W.EachIs (fun v (q : Addr × List Int) => ∃ as, Reads h v (encT q.2) as) (L1.map fun q => Value.ref q.1) L1
  | [], _ => .nil
  | q :: L1, hr => .cons (hr q List.mem_cons_self) (eachReads fun r hq => hr r (List.mem_cons_of_mem _ hq))
set_option maxHeartbeats 1600000 in
theorem sorted_setX {Q : Value → Shared → Prop} (R : SetTR P w s.heap a L es ep t) (hh : A.handled = none) (hu : A.units + 64 < cLine) (hne : ∀ p ∈ L, p.2 ≠ [])
    (hQ : ∀ s' p (out : Array Value) (c : Nat) (L' : List (Addr × List Int)), (∀ b o, s.heap.get? b = some o → s'.heap.get? b = some o) → s'.gens = s.gens → s'.os = s.os → s.heap.objs.size ≤ p →
      s'.heap.get? p = some (seqObj "list" out c) → out.toList = L'.map (fun q => Value.ref q.1) → L'.Perm L → (L'.map (·.2)).Pairwise (fun x y => leT x y = true) → Q (.ref p) s') : wpAny (model P w) A (call (.builtin "sorted") [.ref a]) Q E s := by
  obtain ⟨o, g1, gx, gd⟩ := R.ob
  have z1 := R.size
  have few := R.few
  refine Calls.call_function_entry kind_sorted plain_sorted entry_sorted (args_sorted1 (.ref a)) ?_
  unfold Builtin.«sorted»
  refine wpAny_bind (m := checkCount "sorted" 1 1 _) (wpAny_pure ?_)
  refine wpAny_bind (collect_set (A := A.in1) hh ⟨o, g1, gx.1, gd⟩ R.fits (by unfold scanBound; omega) R.tab.ris R.led fun s1 vs k1 hz gg oo pm => ?_)
  have rows : es.toList.map (·.2) = L.map fun q => Value.ref q.1 := by
    rw [R.rows]
    unfold L2.rowsOf
    rw [List.map_map]
    rfl
  rw [rows] at pm
  have split_ : ∀ us : List Value, (∀ v ∈ us, ∃ q ∈ L, v = Value.ref q.1) → ∃ L1 : List (Addr × List Int), us = L1.map (fun q => Value.ref q.1) ∧ ∀ q ∈ L1, q ∈ L := fun us => by
    induction us with
    | nil => exact fun _ => ⟨[], rfl, fun q z => nomatch z⟩
    | cons v us ih =>
      intro hv
      obtain ⟨q, hq, e⟩ := hv v List.mem_cons_self
      obtain ⟨L1, e1, h1⟩ := ih fun u z => hv u (List.mem_cons_of_mem _ z)
      exact ⟨q :: L1, by rw [List.map_cons, e, e1], fun r hr => (List.mem_cons.mp hr).elim (fun z => by rw [z]; exact hq) (h1 r)⟩
  have alone : ∀ q ∈ L, ∀ r ∈ L, q.1 = r.1 → q = r := fun q hq r hr e => by
    have t1 := R.tup q hq
    rw [e] at t1
    exact Prod.ext e (t1.inj (R.tup r hr))
  have nL : L.Nodup := nodup_of_map R.nd
  have toL : ∀ L1 : List (Addr × List Int), (∀ q ∈ L1, q ∈ L) → (L1.map (fun q => Value.ref q.1)).Perm (L.map fun q => Value.ref q.1) → L1.Perm L := fun L1 h1 p1 => by
    have nr : (L.map fun q => Value.ref q.1).Nodup := List.pairwise_map.mpr (List.Pairwise.imp_of_mem (fun {q r} hq hr ne e => ne (alone q hq r hr (Value.ref.inj e))) nL)
    refine (List.perm_ext_iff_of_nodup (nodup_of_map (p1.nodup_iff.mpr nr)) nL).mpr fun q => ⟨h1 q, fun hq => ?_⟩
    obtain ⟨r, hr, e⟩ := List.mem_map.mp (p1.mem_iff.mpr (List.mem_map.mpr ⟨q, hq, rfl⟩))
    rw [← alone r (h1 r hr) q hq (Value.ref.inj e)]
    exact hr
  obtain ⟨L1, evs, h1⟩ := split_ vs fun v hv => by
    obtain ⟨q, hq, e⟩ := List.mem_map.mp (pm.mem_iff.mp hv)
    exact ⟨q, hq, e.symm⟩
  have p1 := toL L1 h1 (by rw [← evs]; exact pm)
  have len1 : vs.length ≤ sizeLine := by
    rw [evs, List.length_map, p1.length_eq, sizeLine_eq]; omega
  refine wpAny_bind (wpAny_newList ?_ len1)
  have hoL : (s1.heap.push (seqObj "list" vs.toArray 0)).get? s1.heap.objs.size = some (seqObj "list" vs.toArray 0) := Heap.get?_push_size _ rfl
  have rd : ∀ q ∈ L1, ∃ as, Reads (sortingHeap (s1.heap.push (seqObj "list" vs.toArray 0)) s1.heap.objs.size vs) (.ref q.1) (encT q.2) as := fun q hq => by
    obtain ⟨as, r⟩ := reads_isT (R.tup q (h1 q hq))
    exact ⟨as, PyProof.Rows.Reads.keeps (fun b u e => sortingHeap_old (Nat.ne_of_lt (Heap.lt_size (k1 b u e))) (Heap.get?_push_of_some _ (k1 b u e))) r⟩
  have er : PySem.W.EachIs (fun v (q : Addr × List Int) => ∃ as, Reads (sortingHeap (s1.heap.push (seqObj "list" vs.toArray 0)) s1.heap.objs.size vs) v (encT q.2) as) vs L1 := by
    have := eachReads rd
    rwa [← evs] at this
  have hal : AllAlike (L1.map fun q => encT q.2) := fun d hd d' hd' => by
    obtain ⟨q, _, rfl⟩ := List.mem_map.mp hd
    obtain ⟨r, _, rfl⟩ := List.mem_map.mp hd'
    simpa [encT, alike] using alike_ints q.2 r.2
  have hso : Sortable (L1.map fun q => encT q.2) := .inl fun d hd => by
    obtain ⟨q, hq, rfl⟩ := List.mem_map.mp hd
    cases e : q.2 with
    | nil => exact absurd e (hne q (h1 q hq))
    | cons x r => exact ⟨.int x, r.map PyData.int, rfl⟩
  have S := SortsAt.data (prog := P) (w := w) (A := A.in1.in1) (s := { s1 with heap := sortingHeap (s1.heap.push (seqObj "list" vs.toArray 0)) s1.heap.objs.size vs })
    (each_map (R := fun v d => ∃ as, Reads (sortingHeap (s1.heap.push (seqObj "list" vs.toArray 0)) s1.heap.objs.size vs) v d as) (fun q : Addr × List Int => encT q.2) er) hal hso (fun d hd => by
      obtain ⟨q, _, rfl⟩ := List.mem_map.mp hd
      show A.units + 1 + 1 + (encT q.2).depth < cLine
      have : (encT q.2).depth = 1 := by simp [encT, PyData.depth, depth_ints]
      omega)
  have eR : PySem.W.EachIs (fun v (q : Addr × List Int) => v = Value.ref q.1) vs L1 := by
    have := eachRef L1
    rwa [← evs] at this
  have so := sortVals_data false eR er hal
  have eo := eachRefs so
  have pL : (L1.mergeSort (PySem.W.dataLe false fun q : Addr × List Int => encT q.2)).Perm L := (List.mergeSort_perm _ _).trans p1
  refine wpAny_bind (wpAny_holding (wpAny_call_entry slot_list_sort ⟨_, hoL, rfl⟩ entry_list_sort ?body (args_list_sort _)))
  case body =>
    refine wpAny_mono (list_sort_vals (s := { s1 with heap := s1.heap.push (seqObj "list" vs.toArray 0) }) (P := fun f s' => f = .done (.ret .none) ∧ s' = { s1 with heap := sortedHeap (s1.heap.push (seqObj "list" vs.toArray 0)) s1.heap.objs.size vs (sortVals (dataKind (sortingHeap (s1.heap.push (seqObj "list" vs.toArray 0)) s1.heap.objs.size vs) (L1.map fun q => encT q.2)) false vs vs).toArray }) hoL S len1 ⟨rfl, rfl⟩) (fun f s2 hf => ?_) fun _ _ z => z
    obtain ⟨rfl, rfl⟩ := hf
    obtain ⟨c, hc⟩ := sortedHeap_at (vs := vs) (out := (sortVals (dataKind (sortingHeap (s1.heap.push (seqObj "list" vs.toArray 0)) s1.heap.objs.size vs) (L1.map fun q => encT q.2)) false vs vs).toArray) hoL
    refine ⟨_, rfl, wpAny_pure ⟨_, rfl, hQ _ s1.heap.objs.size _ c (L1.mergeSort (PySem.W.dataLe false fun q : Addr × List Int => encT q.2)) (fun b u e => ?_) gg oo hz hc (by rw [List.toList_toArray]; exact eo) pL ?_⟩⟩
    · have q := k1 b u e
      have lt := Heap.lt_size q
      show (sortedHeap (s1.heap.push (seqObj "list" vs.toArray 0)) s1.heap.objs.size _ _).get? b = some u
      rw [sortedHeap_old (Nat.ne_of_lt lt) (by rw [size_push']; exact Nat.lt_succ_of_lt lt)]
      exact Heap.get?_push_of_some _ q
    · have e2 := PySem.W.sort_maps (r := PySem.W.dataLe false fun q : Addr × List Int => encT q.2) (s := PySem.W.dataLe false encT) (fun q : Addr × List Int => q.2) (l := L1) (fun _ _ _ _ => rfl)
      rw [show (fun q : Addr × List Int => q.2) = (fun x => x.2) from rfl] at e2
      rw [e2]
      exact leT_sorted _
end
section
variable {X : Cx}
def rSortSX (K : PySem.W.Frag) (P : Program) (w : World) : List V → Hp → VK → Prop := fun vs H Q => ∃ (a : Addr) (L : List (Addr × List Int)), vs = [V.ref a] ∧ H a = some (SetTO P w a L) ∧ (∀ p ∈ L, SqT K H p.1 (p.2.map V.int)) ∧ (∀ p ∈ L, p.2 ≠ []) ∧
  ∀ (L' : List (Addr × List Int)) (p : Addr), L'.Perm L → (L'.map (·.2)).Nodup → (L'.map (·.2)).Pairwise (fun x y => leT x y = true) → H p = none → Q (.ref p) (upd H p (.lst (L'.map fun q => V.ref q.1)))
theorem cr_sortSX (hc : X.calm = true) (hu : X.A.units + 64 < cLine) : CallR X (.builtin "sorted") (rSortSX X.K X.prog X.w) := by
  rintro pins s σ H vs us Q I r ⟨a, L, rfl, ha, hk, hne, q⟩
  have R0 : SetT0 X.prog X.w s.heap a L := (I.hok a _ ha).1
  obtain ⟨es, ep, t, R⟩ := R0.full fun p hp => I.isT (hk p hp)
  rw [Vals.ref1 r]
  refine sorted_setX R (I.ok.hd hc) hu hne fun s' p out c L' k g o hp hg hout pm pw => ?_
  have few : L'.length < 64 := by rw [pm.length_eq]; exact R.few
  have lz : (L'.map fun q => V.ref q.1).length ≤ sizeLine := by rw [List.length_map, sizeLine_eq]; omega
  have hn : H p = none := I.hok.fresh hp
  have hv : Vals (L'.map fun q => V.ref q.1) out.toList := by rw [hout]; exact vals_of_refs L'
  have J : Inv X pins σ (upd H p (.lst (L'.map fun q => V.ref q.1))) { s with heap := s'.heap, gens := s'.gens, drawn := s'.drawn, toks := s'.toks } := by
    refine I.call (ch := []) (Un.laid k hp hn) (I.hok.laid k hp ⟨lz, out.toList, c, hv, hg⟩) ?_ (fun _ z => nomatch z)
    rw [g]; exact I.bare
  have e : s' = { s with heap := s'.heap, gens := s'.gens, drawn := s'.drawn, toks := s'.toks } := by
    obtain ⟨_, _, _, _, _⟩ := s'
    obtain ⟨_, _, _, _, _⟩ := s
    cases o
    rfl
  rw [e]
  exact ⟨.ref p, _, J, rfl, q L' p pm ((pm.map (·.2)).nodup_iff.mpr R.nd) pw hn⟩
theorem call_lenST : CallR X (.builtin "len") fun vs H Q => ∃ (a : Addr) (L : List (Addr × List Int)), vs = [V.ref a] ∧ H a = some (SetTO X.prog X.w a L) ∧ (∀ p ∈ L, SqT X.K H p.1 (p.2.map V.int)) ∧ ((L.map (·.2)).Nodup → Q (.int (L.length : Nat)) H) := by
  rintro pins s σ H vs us Q I r ⟨a, L, rfl, ha, hk, q⟩
  have R0 : SetT0 X.prog X.w s.heap a L := (I.hok a _ ha).1
  obtain ⟨es, ep, t, R⟩ := R0.full fun p hp => I.isT (hk p hp)
  rw [Vals.ref1 r]
  obtain ⟨o, g1, gx, gd⟩ := R.ob
  have z1 := R.size
  have few := R.few
  refine call_len_set g1 gx gd R.fits (by omega) ⟨.int (es.size : Nat), H, I.tok _, ⟨_, rfl⟩, ?_⟩
  rw [z1]
  exact q R.nd
end
/-! ### the expressions -/
def tupsOf : List PyData → Option (List (List Int))
  | [] => some []
  | .tuple xs :: ds => (intsOf xs).bind fun ns => (tupsOf ds).map (ns :: ·)
  | _ :: _ => none
section
variable {Y : Dyn} {R : Rw} {H H1 H' : Hp} {uq : Bool} {Q : VK} {x y : W} {v : V} {F : List Addr} {c : Sc} {e e1 e2 e3 tg : Expr} {pos : Pos} {en : En} {σ : L2.St}
theorem tupsOf_rel : ∀ {ds : List PyData} {nss : List (List Int)} {vs : List V} {F : List Addr}, RpA Y.w Y.K H vs ds F → tupsOf ds = some nss → ∃ ks : List (Addr × List Int), vs = ks.map (fun p => V.ref p.1) ∧ (∀ p ∈ ks, SqT Y.K H p.1 (p.2.map V.int)) ∧ ks.map (·.2) = nss
  | [], nss, _, _, .nil, h => by cases h; exact ⟨[], rfl, (fun _ z => nomatch z), rfl⟩
  | d :: ds, nss, _, _, .cons r rs, h => by
    cases d with
    | tuple xs =>
      unfold tupsOf at h
      obtain ⟨ns, h1, h2⟩ := Option.bind_eq_some_iff.mp h
      obtain ⟨nt, h3, rfl⟩ := Option.map_eq_some_iff.mp h2
      obtain ⟨ks, g1, g2, g3⟩ := tupsOf_rel rs h3
      have e := intsOf_eq h1
      subst e
      cases r with
      | @tup a us _ _ hs ra =>
        obtain ⟨rfl, _⟩ := ra.ints
        exact ⟨(a, ns) :: ks, by rw [g1]; rfl, fun p hp => (List.mem_cons.mp hp).elim (fun e => by rw [e]; exact hs) (g2 p), by rw [List.map_cons, g3]⟩
    | _ => cases h
def notNil : List (List Int) → Bool
  | [] => true
  | [] :: _ => false
  | _ :: r => notNil r
theorem notNil_of : ∀ {nss : List (List Int)}, notNil nss = true → ∀ k ∈ nss, k ≠ []
  | [], _, _, h => nomatch h
  | [] :: _, h, _, _ => nomatch h
  | (a :: k) :: r, h, j, hj => by
    rcases List.mem_cons.mp hj with rfl | hj
    · intro z; cases z
    · exact notNil_of (nss := r) h j hj
/-- the tuples of a list, few of them -/
def tupsIn : W → Option (List (List Int))
  | .d (.list ds) => match Nat.blt ds.length 64 with
    | true => tupsOf ds
    | false => none
  | _ => none
def oSortSetX (x : W) : T W := match tupsIn x with
  | some (k :: ks) => T.must (notNil (k :: ks)) (.ret (.d (.list ((sortT (k :: ks)).map encT))))
  | _ => oSortSet x
def oLenSetX (x : W) : T W := match tupsIn x with
  | some (k :: ks) => .ret (.d (.int ((dedupT (k :: ks)).length : Nat)))
  | _ => oLenSet x
theorem encT_rel {w : World} {K : PySem.W.Frag} : ∀ {ks : List (Addr × List Int)}, (∀ p ∈ ks, SqT K H p.1 (p.2.map V.int)) → RpA w K H (ks.map fun p => V.ref p.1) ((ks.map (·.2)).map encT) []
  | [], _ => .nil
  | p :: ks, h => .cons (F := []) (.tup (h p List.mem_cons_self) (RpA.ofInts _)) (encT_rel fun q hq => h q (List.mem_cons_of_mem _ hq))
theorem se_setX {m : En → T W} {u1 : Bool} {id : String} {nm : Str} {p q p2 : Pos} {op : W → T W} (hv : bootBuiltins nm = some (.builtin id)) (hn : nm ≠ "__name__") (hd : (nm == ("__debug__" : Str)) = false)
    (rr : ∀ (Y : Dyn) (X : Cx), Sx c Y X → ∃ r : List V → Hp → VK → Prop, CallR X (.builtin id) r ∧ ∀ R H v x F Q, RowI R Y.K H → RpW Y R H v x F → (op x).wp (Kv Y R H true Q) →
      (∃ p ns, v = .ref p ∧ (SqL Y.K H p (ns.map V.int) ∨ SqT Y.K H p (ns.map V.int)) ∧ ns.length ≤ 1000 ∧ ∀ l, H l = none → r [.ref l] (upd H l (setOf Y.w l ns)) Q) ∨
      (∃ (l : Addr) (ks : List (Addr × List Int)), v = .ref l ∧ SqL Y.K H l (ks.map fun p => V.ref p.1) ∧ (∀ p ∈ ks, SqT Y.K H p.1 (p.2.map V.int)) ∧ ks.length < 64 ∧ ∀ a L, H a = none → (∀ p ∈ L, p ∈ ks) → (∀ p ∈ ks, p.2 ∈ L.map (·.2)) → r [.ref a] (upd H a (SetTO X.prog X.w a L)) Q))
    (hb : nm ∈ c.blt) (hg : c.sc.names.lookup nm = some .globalImplicit) (hb2 : ("set" : Str) ∈ c.blt) (hg2 : c.sc.names.lookup ("set" : Str) = some .globalImplicit) (h : SE c e m u1) (hs : notStar e = true) :
    SE c (.Call (.Name nm p) [.Call (.Name "set" p2) [e] [] q] [] pos) (m1 op m) true := by
  intro Y X sx dy
  obtain ⟨t, pe, s⟩ := h Y X sx dy
  obtain ⟨r, pr, g⟩ := rr Y X sx
  have ps := pe_callTy (p := p2) (pos := q) (CallR.or (call_setI sx.calm) (cr_setOfT sx.calm (sx_units sx))) (show X.env.scope.names.lookup ("set" : Str) = _ by rw [sx.sc]; exact hg2) (by rw [sx.mg]; exact dy.blt _ hb2) boot_set (pa_cons pe pa_nil (star_eq hs)) (by decide) (by decide) (star_eq hs) rfl
  refine ⟨_, pe_callB pr (show X.env.scope.names.lookup nm = _ by rw [sx.sc]; exact hg) (by rw [sx.mg]; exact dy.blt nm hb) hv (pa_cons ps pa_nil) hn hd rfl rfl, fun R en σ H Q rel k => s R en σ H _ rel ?_⟩
  refine T.wp_mono ((T.wp_bind _ _ _).mp k) fun x kx => ?_
  intro v H1 F l r1 aw _
  rcases g R H1 v x F Q (l.row rel.ri) r1 (T.wp_mono kx fun z kz => kz.back l rel.ri) with ⟨p, ns, rfl, hq, hn, hr⟩ | ⟨b, ks, rfl, h1, h2, h3, hr⟩
  · refine .inl ⟨p, ns, rfl, by rw [sx.K]; exact hq, hn, fun a ha => ?_⟩
    rw [sx.w]
    exact hr a ha
  · exact .inr ⟨b, ks, rfl, by rw [sx.K]; exact h1, by rw [sx.K]; exact h2, h3, fun a L ha hl hk => hr a L ha hl hk⟩
theorem tupsIn_rel {nss : List (List Int)} (r : RpW Y R H v x F) (h : tupsIn x = some nss) : ∃ (l : Addr) (ks : List (Addr × List Int)), v = .ref l ∧ SqL Y.K H l (ks.map fun p => V.ref p.1) ∧ (∀ p ∈ ks, SqT Y.K H p.1 (p.2.map V.int)) ∧ ks.length < 64 ∧ ks.map (·.2) = nss := by
  unfold tupsIn at h
  split at h
  · split at h
    · rename_i ds hb
      cases r with
      | @lst a vs _ F0 ha ra =>
        obtain ⟨ks, rfl, h2, h3⟩ := tupsOf_rel ra h
        refine ⟨a, ks, rfl, SqL.of ha, h2, ?_, h3⟩
        have := ra.length
        rw [List.length_map] at this
        have hb := Nat.le_of_ble_eq_true hb
        omega
    · cases h
  · cases h
theorem se_sortSetX {m : En → T W} {u1 : Bool} {p q p2 : Pos} (hb : ("sorted" : Str) ∈ c.blt) (hg : c.sc.names.lookup ("sorted" : Str) = some .globalImplicit) (hb2 : ("set" : Str) ∈ c.blt) (hg2 : c.sc.names.lookup ("set" : Str) = some .globalImplicit) (h : SE c e m u1) (hs : notStar e = true) :
    SE c (.Call (.Name "sorted" p) [.Call (.Name "set" p2) [e] [] q] [] pos) (m1 oSortSetX m) true := by
  refine se_setX boot_sorted (by decide) (by decide) (fun Y X sx => ⟨_, CallR.or (cr_sortedSet sx.calm) (cr_sortSX sx.calm (sx_units sx)), fun R H v x F Q ri r k => ?_⟩) hb hg hb2 hg2 h hs
  unfold oSortSetX at k
  split at k
  · rename_i k0 kr htu
    obtain ⟨hne, k⟩ := T.wp_must k
    obtain ⟨l, ks, rfl, g1, g2, g3, g4⟩ := tupsIn_rel r htu
    refine .inr ⟨l, ks, rfl, g1, g2, g3, fun a L ha hL hk => .inr ⟨a, L, rfl, upd_same, fun p hp => ?_, fun p hp => ?_, fun L' p pm nd pw hp => ?_⟩⟩
    · rw [sx.K]
      exact sqT_le (Le.new (R := R) ha) ri (g2 p (hL p hp))
    · exact notNil_of hne _ (by rw [← g4]; exact List.mem_map.mpr ⟨p, hL p hp, rfl⟩)
    · have l1 : Le R Y.K H (upd H a (SetTO X.prog X.w a L)) := Le.new ha
      have e : L'.map (·.2) = sortT (k0 :: kr) := sortT_unique pw nd fun z => by
        rw [(pm.map (·.2)).mem_iff, ← g4]
        refine ⟨fun hz => ?_, fun hz => ?_⟩
        · obtain ⟨p, hp, rfl⟩ := List.mem_map.mp hz
          exact List.mem_map.mpr ⟨p, hL p hp, rfl⟩
        · obtain ⟨p, hp, rfl⟩ := List.mem_map.mp hz
          exact hk p hp
      refine newL (l1.row ri) (k.back l1 ri) hp ?_
      rw [← e]
      exact encT_rel fun q hq => sqT_le l1 ri (g2 q (hL q (pm.mem_iff.mp hq)))
  · obtain ⟨ns, hi, k⟩ := T.wp_ofO ((T.wp_bind _ _ _).mp k)
    obtain ⟨hb, k⟩ := T.wp_must k
    rw [Bool.and_eq_true] at hb
    obtain ⟨p, rfl, hq⟩ := intsIn_rel r hi
    refine .inl ⟨p, ns, rfl, hq, bleD hb.1, fun l hl => .inl ⟨l, _, _, rfl, by rw [sx.w]; exact upd_same, Nat.lt_succ_of_le (bleD hb.2), fun ms a h1 h2 h3 ha => ?_⟩⟩
    have e : ms = sortI ns := rise_ext h1 (sortI_rise ns) fun k => by rw [h2 k, sortI_mem]; simp
    subst e
    have l1 : Le R Y.K H (upd H l (setOf Y.w l ns)) := Le.new hl
    exact newL (l1.row ri) (k.back l1 ri) ha (RpA.ofInts _)
theorem se_lenSetX {m : En → T W} {u1 : Bool} {p q p2 : Pos} (hb : ("len" : Str) ∈ c.blt) (hg : c.sc.names.lookup ("len" : Str) = some .globalImplicit) (hb2 : ("set" : Str) ∈ c.blt) (hg2 : c.sc.names.lookup ("set" : Str) = some .globalImplicit) (h : SE c e m u1) (hs : notStar e = true) :
    SE c (.Call (.Name "len" p) [.Call (.Name "set" p2) [e] [] q] [] pos) (m1 oLenSetX m) true := by
  refine se_setX boot_len (by decide) (by decide) (fun Y X sx => ⟨_, CallR.or call_lenSet call_lenST, fun R H v x F Q ri r k => ?_⟩) hb hg hb2 hg2 h hs
  unfold oLenSetX at k
  split at k
  · rename_i k0 kr htu
    obtain ⟨l, ks, rfl, g1, g2, g3, g4⟩ := tupsIn_rel r htu
    refine .inr ⟨l, ks, rfl, g1, g2, g3, fun a L ha hL hk => .inr ⟨a, L, rfl, upd_same, fun p hp => ?_, fun nd => ?_⟩⟩
    · rw [sx.K]
      exact sqT_le (Le.new (R := R) ha) ri (g2 p (hL p hp))
    · have l1 : Le R Y.K H (upd H a (SetTO X.prog X.w a L)) := Le.new ha
      have e : L.length = (dedupT (k0 :: kr)).length := by
        rw [← List.length_map (f := (·.2))]
        refine ((List.perm_ext_iff_of_nodup nd (dedupT_nodup _)).mpr fun z => ?_).length_eq
        rw [dedupT_mem, ← g4]
        refine ⟨fun hz => ?_, fun hz => ?_⟩
        · obtain ⟨p, hp, rfl⟩ := List.mem_map.mp hz
          exact List.mem_map.mpr ⟨p, hL p hp, rfl⟩
        · obtain ⟨p, hp, rfl⟩ := List.mem_map.mp hz
          exact hk p hp
      have k2 := k.back l1 ri
      rw [← e] at k2
      exact k2.here (.int _)
  · obtain ⟨ns, hi, k⟩ := T.wp_ofO ((T.wp_bind _ _ _).mp k)
    obtain ⟨hb, k⟩ := T.wp_must k
    obtain ⟨p, rfl, hq⟩ := intsIn_rel r hi
    refine .inl ⟨p, ns, rfl, hq, bleD hb, fun l hl => .inl ⟨l, ns, rfl, by rw [sx.w]; exact upd_same, bleD hb, ?_⟩⟩
    have l1 : Le R Y.K H (upd H l (setOf Y.w l ns)) := Le.new hl
    exact (k.back l1 ri).here (.int _)
end
end G

set_option Elab.async false
set_option linter.all false
set_option maxRecDepth 100000
/-! G39: lists of lists put together; xs.append(name) that hands on. -/
namespace G
open PySem PySem.Spec PyProof.Rows L2
section
variable {Y : Dyn} {R : Rw} {P : Addr → Prop} {H H1 H2 H' : Hp} {uq : Bool} {Q : VK} {x y : W} {v : V} {F : List Addr} {c : Sc} {e e1 e2 e3 tg : Expr} {pos : Pos} {en : En} {σ : L2.St} {Fs : Nat → List Addr} {D : Ends}
def oAddS : W → W → T W
  | .d (.list xs), .d (.list ys) => T.must (Nat.ble (xs.length + ys.length) lim) (.ret (.d (.list (xs ++ ys))))
  | _, _ => .fail
theorem ok_addS : OpOk c (binaryOp .Add) oAddS false := by
  intro Y X sx
  refine ⟨_, op_cat, fun R H v u x y F F' Q ri rx ax ry ay k => ?_⟩
  unfold oAddS at k
  split at k
  · obtain ⟨hb, k⟩ := T.wp_must k
    cases rx with
    | lst ha ra =>
      cases ry with
      | lst hb2 rb =>
        refine ⟨_, _, _, _, rfl, rfl, ha, hb2, ?_, fun p hp => ?_⟩
        · rw [ra.length, rb.length]
          exact lim_size (bleD hb)
        · exact Kv.lst ri k hp (ra.app rb) (Away.app ax.tail ay.tail) (fun z => nomatch z) (.inr trivial) fun z => nomatch z
  · exact k.elim
/-- xs.append(name): what the name owns is handed on -/
def mAppMove (i j : Nat) : En → T Out := fun en => match en[i]?, en[j]? with
  | some (some ⟨0, .d (.list ds)⟩), some (some ⟨fl, .d d⟩) => match imm d with
    | true => T.must (!Nat.beq i j && Nat.ble ds.length 99999) (.ret (.nx (en.set i (some ⟨0, .d (.list (ds ++ [d]))⟩))))
    | false => T.must (!Nat.beq i j && Nat.beq fl 0 && Nat.ble ds.length 99999) (.ret (.nx ((en.set j none).set i (some ⟨0, .d (.list (ds ++ [d]))⟩))))
  | _, _ => .fail
theorem ss_appMove {i j : Nat} {nm nm2 : Str} {p p2 apos cpos : Pos} (hi : c.N[i]? = some nm) (hv : Vis c.sc nm) (hd : (nm == ("__debug__" : Str)) = false) (hcd : (nm == ("__classdict__" : Str)) = false)
    (hj : c.N[j]? = some nm2) (hv2 : Vis c.sc nm2) (hd2 : (nm2 == ("__debug__" : Str)) = false) (hcd2 : (nm2 == ("__classdict__" : Str)) = false) (hl : (apos.endLine == cpos.line) = true) :
    SS c (.Expr (.Call (.Attribute (.Name nm p) "append" apos) [.Name nm2 p2] [] cpos) pos) (mAppMove i j) := by
  intro Y X sx dy
  refine ⟨_, ps_expr (pe_bm PySem.F.plainAttrs_list PySem.F.slot_list_append PySem.F.type_list_append mt_append (pe_var (by rw [sx.sx.N]; exact hi) (by rw [sx.sx.sc]; exact hv) hd hcd) (pa_cons (pe_var (by rw [sx.sx.N]; exact hj) (by rw [sx.sx.sc]; exact hv2) hd2 hcd2) pa_nil) rfl rfl hl), fun R P en σ H D ⟨Fs, rel⟩ k => ?_⟩
  unfold mAppMove at k
  split at k
  · rename_i ds fl d hsi hsj
    split at k
    · rename_i hb2
      obtain ⟨hb, k⟩ := T.wp_must k
      rw [Bool.and_eq_true] at hb
      obtain ⟨hb1, hb3⟩ := hb
      obtain ⟨p, vs, F0, hv, hp, ra, hF, nd, nP, aw, dis⟩ := own_list rel hsi
      obtain ⟨⟨u, hu, ru⟩, awu⟩ := rel.at_ j _ hsj
      have ru : Rp Y.w Y.K H u d (Fs j) := ru
      have e0 := Rp.imm ru hb2
      rw [e0] at ru
      refine ⟨_, hv, .inl ⟨rfl, vs, SqL.of hp⟩, u, hu, p, vs, u, rfl, rfl, hp, by rw [ra.length]; exact lim_size' (by have := bleD hb3; unfold lim; omega), ?_⟩
      obtain ⟨rel', lp⟩ := rel.mutL (vs' := vs ++ [u]) (ds' := ds ++ [d]) (F' := F0) hsi rfl hv hp (by rw [hF]; exact List.mem_cons_self) (by
          have := ra.app (.cons ru .nil)
          rwa [List.append_nil, List.append_nil] at this) aw.tail nd (fun a ha => nP a (List.mem_cons_of_mem _ ha)) fun t ht tj hs' a ha => dis t ht tj hs' a (List.mem_cons_of_mem _ ha)
      exact k _ _ lp rel'
    · obtain ⟨hb, kk⟩ := T.wp_must k
      rw [Bool.and_eq_true, Bool.and_eq_true] at hb
      have hij : i ≠ j := fun z => by rw [z, Nat.beq_refl] at hb; cases hb.1.1
      have h0 : fl = 0 := Nat.eq_of_beq_eq_true hb.1.2
      subst h0
      obtain ⟨p, vs, F0, hv, hp, ra, hF, nd, nP, aw, dis⟩ := own_list rel hsi
      obtain ⟨⟨u, hu, ru⟩, awu⟩ := rel.at_ j _ hsj
      obtain ⟨j1, j2, j3⟩ := rel.own j _ hsj rfl
      refine ⟨_, hv, .inl ⟨rfl, vs, SqL.of hp⟩, u, hu, p, vs, u, rfl, rfl, hp, by rw [ra.length]; exact lim_size' (by have := bleD hb.2; unfold lim; omega), ?_⟩
      have nF : ∀ a ∈ Fs j, a ∉ p :: F0 := fun a ha z => dis j _ (Ne.symm hij) hsj a z ha
      have reld := rel.drop j
      have hsi2 : (en.set j none)[i]? = some (some ⟨0, .d (.list ds)⟩) := by rw [List.getElem?_set_ne (Ne.symm hij)]; exact hsi
      obtain ⟨rel', lp⟩ := reld.mutL (vs' := vs ++ [u]) (ds' := ds ++ [d]) (F' := F0 ++ (Fs j ++ [])) hsi2 rfl hv hp (by rw [hF]; exact List.mem_cons_self) (ra.app (.cons ru .nil)) (aw.tail.app (awu.app Away.nil)) (by
          rw [List.append_nil]
          refine List.nodup_cons.mpr ⟨fun z => ?_, List.nodup_append.mpr ⟨(List.nodup_cons.mp nd).2, j1, fun a ha b hb e => nF b hb (by rw [← e]; exact List.mem_cons_of_mem _ ha)⟩⟩
          rcases List.mem_append.mp z with z | z
          · exact (List.nodup_cons.mp nd).1 z
          · exact nF p z List.mem_cons_self) (fun a ha => by
          rw [List.append_nil] at ha
          rcases List.mem_append.mp ha with ha | ha
          · exact nP a (List.mem_cons_of_mem _ ha)
          · exact j2 a ha) (fun k t hk ht a ha => by
          rw [List.append_nil] at ha
          obtain ⟨hkj, ht⟩ := get_none ht
          rcases List.mem_append.mp ha with ha | ha
          · exact dis k t hk ht a (List.mem_cons_of_mem _ ha)
          · exact j3 k t hkj ht a ha)
      exact kk _ _ lp rel'
  · exact k.elim
/-- len of a dict -/
def rLenDX (X : Cx) : List V → Hp → VK → Prop := fun xs H Q => ∃ a ps kvs F, xs = [V.ref a] ∧ Rd H a (DX a (hs X.w ps)) ∧ RpD X.w X.K H ps kvs F ∧ (ps.map (·.1)).Nodup ∧ (allI kvs || allK kvs) = true ∧ Q (.int (ps.length : Nat)) H
theorem call_lenDX {X : Cx} : CallR X (.builtin "len") (rLenDX X) := by
  rintro pins s σ H xs us Q I r ⟨a, ps, kvs, F, rfl, h, rd, nd, hb, q⟩
  rw [Vals.ref1 r]
  obtain ⟨o, es, ep, op⟩ := dx_open I h
  have z := op.len
  have zl := sizeLine_eq
  rcases Bool.or_eq_true_iff.mp hb with hb | hb
  · obtain ⟨vs, h1, h2, _⟩ := op.num rd nd hb
    have e := Paired.length h1
    refine call_len_dict (knd := numKind X.prog X.w) op.sys h2 (by omega) ?_
    exact ⟨.int (ps.length : Nat), H, I.tok _, ⟨_, by rw [e]⟩, q⟩
  · obtain ⟨vs, h1, h2⟩ := op.tup I rd nd hb
    have e := Paired.length h1
    refine call_len_dictH (knd := nestedKind X.prog X.w) op.sys h2 (by omega) ?_
    exact ⟨.int (ps.length : Nat), H, I.tok _, ⟨_, by rw [e]⟩, q⟩
def oLenX : W → T W
  | .d (.list xs) => .ret (.d (.int (xs.length : Int)))
  | .d (.tuple xs) => .ret (.d (.int (xs.length : Int)))
  | x => match dictIn x with
    | some kvs => T.must (allI kvs || allK kvs) (.ret (.d (.int (kvs.length : Nat))))
    | none => oLen x
theorem ok_lenX : CallOk c (.builtin "len") (o1 oLenX) true := call_one fun Y X sx => by
  refine ⟨_, CallR.or (CallR.or call_len_seq call_len_str) call_lenDX, fun R H v x F Q ri rx aw k => ?_⟩
  unfold oLenX at k
  split at k
  · cases rx with
    | lst h r => exact .inl (.inl ⟨_, _, rfl, .inl (SqL.of h), by rw [r.length]; exact Kv.here k (.int _)⟩)
  · cases rx with
    | tup h r => exact .inl (.inl ⟨_, _, rfl, .inr (by rw [sx.K]; exact h), by rw [r.length]; exact Kv.here k (.int _)⟩)
  · split at k
    · rename_i kvs hx
      obtain ⟨hb, k⟩ := T.wp_must k
      obtain ⟨a, ps, F', rfl, hr, rd, nd, _⟩ := dictIn_rel rx hx
      refine .inr ⟨a, ps, kvs, F', rfl, by rw [sx.w]; exact hr, by rw [sx.w, sx.K]; exact rd, nd, hb, ?_⟩
      rw [rd.length]
      exact Kv.here k (.int _)
    · unfold oLen at k
      split at k
      · rename_i h1 _ _
        exact absurd rfl (h1 _)
      · rename_i _ h1 _
        exact absurd rfl (h1 _)
      · obtain ⟨hb, k⟩ := T.wp_must k
        cases rx
        exact .inl (.inr ⟨_, rfl, lim_size (bleD hb), Kv.here k (.int _)⟩)
      · exact k.elim
end
end G

set_option Elab.async false
set_option linter.all false
set_option maxRecDepth 100000
/-! TA: from a text to what it is worth. -/
namespace G
open PySem PySem.Spec PyProof.Rows L2

/-! ### what a text is worth, with its proof -/
structure RE (c : Sc) (e : Expr) where
  u : Bool
  m : En → T W
  ok : SE c e m u
structure RT (c : Sc) (e : Expr) where
  m : En → T Bool
  ok : ST c e m
structure RA (c : Sc) (es : List Expr) (u : Bool) where
  m : En → T (List W)
  ok : SA c es m u
structure RI (c : Sc) (tg e : Expr) where
  m : En → T (List W)
  ok : SI c tg e m
structure RG (c : Sc) (tg : Expr) where
  g : W → T (List (Nat × W))
  ok : SG c tg g
structure RGs (c : Sc) (tgs : List Expr) where
  g : List PyData → T (List (Nat × W))
  ok : SGs c tgs g
structure RS (c : Sc) (st : Stmt) where
  m : En → T Out
  ok : SS c st m
structure RSs (c : Sc) (st : List Stmt) where
  m : En → T Out
  ok : SSs c st m
def RE.weak {c : Sc} {e : Expr} (r : RE c e) : Σ' m : En → T W, SE c e m false := match r with
  | ⟨true, m, ok⟩ => ⟨m, ok.weak⟩
  | ⟨false, m, ok⟩ => ⟨m, ok⟩
def RE.own {c : Sc} {e : Expr} (r : RE c e) : Σ' m : En → T W, SE c e m true := match r with
  | ⟨true, m, ok⟩ => ⟨m, ok⟩
  | ⟨false, m, ok⟩ => ⟨mImm m, SE.own ok⟩

def findIx : (N : List Str) → (nm : Str) → Option {i : Nat // N[i]? = some nm}
  | [], _ => none
  | x :: xs, nm => if h : x = nm then some ⟨0, by rw [h]; rfl⟩ else match findIx xs nm with
    | some ⟨i, hi⟩ => some ⟨i + 1, hi⟩
    | none => none
def findFE : (tab : List FE) → (nm : Str) → Option {f : FE // f ∈ tab ∧ f.name = nm}
  | [], _ => none
  | f :: fs, nm => if h : f.name = nm then some ⟨f, List.mem_cons_self, h⟩ else match findFE fs nm with
    | some ⟨g, h1, h2⟩ => some ⟨g, List.mem_cons_of_mem _ h1, h2⟩
    | none => none
def findC : (cs : List (Str × PyData)) → (nm : Str) → Option {d : PyData // (nm, d) ∈ cs}
  | [], _ => none
  | p :: cs, nm => if h : p.1 = nm then some ⟨p.2, by rw [← h]; exact List.mem_cons_self⟩ else match findC cs nm with
    | some ⟨d, h1⟩ => some ⟨d, List.mem_cons_of_mem _ h1⟩
    | none => none
def nameR (c : Sc) (nm : Str) (p : Pos) : Option (RE c (.Name nm p)) :=
  if hd : (nm == ("__debug__" : Str)) = false then
    match findIx c.N nm with
    | some ⟨i, hi⟩ => if hv : visB c.sc nm = true then if hcd : (nm == ("__classdict__" : Str)) = false then some ⟨false, mVar i, se_var hi (vis_of hv) hd hcd⟩ else none else none
    | none => match findC c.cons nm with
      | some ⟨d, hm⟩ => if hg : c.sc.names.lookup nm = some .globalImplicit then some ⟨true, mC d, se_glob hm hg hd⟩ else none
      | none => none
  else none

/-- names that may hold a dict where a loop walks them -/
def dictHint : List Str := ["later", "some", "first", "found"]
/-- the slot of a dict that is walked -/
def lockIx (c : Sc) : Expr → Option Nat
  | .Name nm _ => match dictHint.contains nm with
    | true => (findIx c.N nm).map (·.1)
    | false => none
  | .Call (.Attribute (.Name nm _) m _) [] [] _ => match m == "items" || m == "values" with
    | true => (findIx c.N nm).map (·.1)
    | false => none
  | _ => none
/-- no call without arguments (super().m) -/
def notCall0 : Expr → Bool
  | .Call (.Name _ _) [] [] _ => false
  | _ => true
theorem base_of {e : Expr} {attr : Str} (h : notCall0 e = true) (env : PySem.Env) : attributeBase e attr env (eval e env) = eval e env := by
  unfold attributeBase
  split
  · cases h
  · rfl
theorem m1_of {o e : Expr} {m : Str} {apos cpos : Pos} (h : notCall0 o = true) (hn : notStar e = true) (hl : (apos.endLine == cpos.line) = true) (X : Cx) : M1 X o m apos e cpos :=
  ⟨base_of h X.env, by rw [star_eq hn]; rfl, hl, by rw [star_eq hn]; rfl⟩
theorem m2_of {o e f : Expr} {m : Str} {apos cpos : Pos} (h : notCall0 o = true) (hn : notStar e = true) (hf : notStar f = true) (hl : (apos.endLine == cpos.line) = true) (X : Cx) : M2 X o m apos e f cpos :=
  ⟨base_of h X.env, by rw [star_eq hn, star_eq hf]; rfl, hl, by rw [star_eq hn, star_eq hf]; rfl⟩
structure TR where
  e : (c : Sc) → (e : Expr) → Option (RE c e)
  t : (c : Sc) → (e : Expr) → Option (RT c e)
section
variable (r : TR) (c : Sc)
/-- arguments that may be shared -/
def argsF : (es : List Expr) → Option (RA c es false)
  | [] => some ⟨mNil, sa_nil⟩
  | e :: es => if hn : notStar e = true then match r.e c e, argsF es with
    | some a, some as => some ⟨_, sa_cons a.weak.2 as.ok hn⟩
    | _, _ => none else none
/-- arguments each its own -/
def argsO : (es : List Expr) → Option (RA c es true)
  | [] => some ⟨mNil, sa_nil⟩
  | e :: es => if hn : notStar e = true then match r.e c e, argsO es with
    | some a, some as => some ⟨_, sa_cons a.own.2 as.ok hn⟩
    | _, _ => none else none
/-- .. by nature -/
def argsN : (es : List Expr) → Option (RA c es true)
  | [] => some ⟨mNil, sa_nil⟩
  | e :: es => if hn : notStar e = true then match r.e c e, argsN es with
    | some ⟨true, m, ok⟩, some as => some ⟨_, sa_cons ok as.ok hn⟩
    | _, _ => none else none
/-- displays: arguments that may be starred; f: how one is read -/
def dispR (u : Bool) (f : (e : Expr) → Option (Σ' m : En → T W, SE c e m u)) : (es : List Expr) → Option (RA c es u)
  | [] => some ⟨mNil, sa_nil⟩
  | .Starred e p :: es => match r.e c e, dispR u f es with
    | some a, some as => some ⟨_, sa_star a.ok as.ok⟩
    | _, _ => none
  | e :: es => if hn : notStar e = true then match f e, dispR u f es with
    | some a, some as => some ⟨_, sa_cons a.2 as.ok hn⟩
    | _, _ => none else none
def dispF : (es : List Expr) → Option (RA c es false) := dispR r c false fun e => (r.e c e).map (·.weak)
def dispO : (es : List Expr) → Option (RA c es true) := dispR r c true fun e => (r.e c e).map (·.own)
def dispN : (es : List Expr) → Option (RA c es true) := dispR r c true fun e => match r.e c e with
  | some ⟨true, m, ok⟩ => some ⟨m, ok⟩
  | _ => none
def orR : (es : List Expr) → (p : Pos) → Option (RE c (.BoolOp .Or es p))
  | [], _ => none
  | [e], p => match r.e c e with
    | some a => some ⟨true, _, se_logic1 a.own.2⟩
    | none => none
  | e :: e2 :: es, p => match r.e c e, orR (e2 :: es) p with
    | some a, some ⟨true, m, ok⟩ => some ⟨true, _, se_or a.own.2 ok⟩
    | _, _ => none
def andR : (es : List Expr) → (p : Pos) → Option (RE c (.BoolOp .And es p))
  | [], _ => none
  | [e], p => match r.e c e with
    | some a => some ⟨true, _, se_logic1 a.own.2⟩
    | none => none
  | e :: e2 :: es, p => match r.e c e, andR (e2 :: es) p with
    | some a, some ⟨true, m, ok⟩ => some ⟨true, _, se_and a.own.2 ok⟩
    | _, _ => none
def orT : (es : List Expr) → (p : Pos) → Option (Σ' m : En → T Bool, SW c (.BoolOp .Or es p) m)
  | [], _ => none
  | [e], p => match r.t c e with
    | some a => some ⟨_, sw_or1 a.ok⟩
    | none => none
  | e :: e2 :: es, p => match r.t c e, orT (e2 :: es) p with
    | some a, some ⟨m, ok⟩ => some ⟨_, sw_or a.ok ok⟩
    | _, _ => none
def andT : (es : List Expr) → (p : Pos) → Option (Σ' m : En → T Bool, SW c (.BoolOp .And es p) m)
  | [], _ => none
  | [e], p => match r.t c e with
    | some a => some ⟨_, sw_and1 a.ok⟩
    | none => none
  | e :: e2 :: es, p => match r.t c e, andT (e2 :: es) p with
    | some a, some ⟨m, ok⟩ => some ⟨_, sw_and a.ok ok⟩
    | _, _ => none
end
/-- comparisons of values -/
def cmpOp (c : Sc) : (o : CmpOp) → Option (Σ' op : W → W → T W, OpOk c (compareOp o) op true)
  | .Eq => some ⟨_, ok_eq⟩
  | .NotEq => some ⟨_, ok_ne⟩
  | .Lt => some ⟨_, ok_lt⟩
  | .LtE => some ⟨_, ok_le⟩
  | .Gt => some ⟨_, ok_gt⟩
  | .GtE => some ⟨_, ok_ge⟩
  | .In => some ⟨_, ok_inX⟩
  | .NotIn => some ⟨_, ok_notInX⟩
  | _ => none
def binO (c : Sc) : (o : Operator) → Option (Σ' op : W → W → T W, OpOk c (binaryOp o) op true)
  | .Add => some ⟨_, ok_add⟩
  | .Sub => some ⟨_, ok_sub⟩
  | .Mult => some ⟨_, ok_mul⟩
  | .FloorDiv => some ⟨_, ok_fdiv⟩
  | .Mod => some ⟨_, ok_mod⟩
  | _ => none
/-- built-ins that are called with so many arguments -/
structure BT where
  nm : Str
  n : Nat
  op : List W → T W
  ok : ∀ (c : Sc) (p pos : Pos) (e : Expr) (es : List Expr) (ms : En → T (List W)), nm ∈ c.blt → c.sc.names.lookup nm = some .globalImplicit → SA c (e :: es) ms false → (e :: es).all notStar = true → SE c (.Call (.Name nm p) (e :: es) [] pos) (mArgs op ms) true
def btsB (nm : Str) (n : Nat) (id : String) (op : List W → T W) (ho : ∀ c, CallOk c (.builtin id) op true) (hv : bootBuiltins nm = some (.builtin id)) (hn : nm ≠ "__name__") (hd : (nm == ("__debug__" : Str)) = false) : BT :=
  ⟨nm, n, op, fun c p pos e es ms hb hg h hs => se_callB (ho c) hv hb hg hn hd h hs⟩
def btsT (nm : Str) (n : Nat) (id : String) (op : List W → T W) (ho : ∀ c, CallOk c (.type id) op true) (hv : bootBuiltins nm = some (.type id)) (hn : nm ≠ "__name__") (hd : (nm == ("__debug__" : Str)) = false) : BT :=
  ⟨nm, n, op, fun c p pos e es ms hb hg h hs => se_callT (ho c) hv hb hg hn hd h hs⟩
def bts : List BT := [
  btsB "len" 1 "len" _ (fun _ => ok_lenX) boot_len (by decide) (by decide),
  btsT "list" 1 "list" _ (fun _ => ok_listX) boot_list (by decide) (by decide),
  btsT "tuple" 1 "tuple" _ (fun _ => ok_tuple) boot_tuple (by decide) (by decide),
  btsB "sum" 1 "sum" _ (fun _ => ok_sumX) boot_sum (by decide) (by decide),
  btsB "abs" 1 "abs" _ (fun _ => ok_abs) boot_abs (by decide) (by decide),
  btsT "int" 1 "int" _ (fun _ => ok_int) boot_int (by decide) (by decide),
  btsB "max" 2 "max" _ (fun _ => ok_max2) boot_max (by decide) (by decide),
  btsB "min" 2 "min" _ (fun _ => ok_min2) boot_min (by decide) (by decide),
  btsB "max" 1 "max" _ (fun _ => ok_max) boot_max (by decide) (by decide),
  btsB "min" 1 "min" _ (fun _ => ok_min) boot_min (by decide) (by decide),
  btsB "any" 1 "any" _ (fun _ => ok_any) boot_any (by decide) (by decide),
  btsB "all" 1 "all" _ (fun _ => ok_all) boot_all (by decide) (by decide),
  btsB "sorted" 1 "sorted" _ (fun _ => ok_sortX) boot_sorted (by decide) (by decide)]
def findB : (bs : List BT) → (nm : Str) → (n : Nat) → Option {b : BT // b.nm = nm}
  | [], _, _ => none
  | b :: bs, nm, n => if h : b.nm = nm then (if b.n = n then some ⟨b, h⟩ else findB bs nm n) else findB bs nm n
/-- isinstance(e, T) -/
structure IT where
  tn : Str
  T' : String
  f : PyData → Bool
  hr : ∀ X : Cx, CallR X (.builtin "isinstance") (rIsD X.K T' f)
  hv : bootBuiltins tn = some (.type T')
  hn : tn ≠ "__name__"
  hd : (tn == ("__debug__" : Str)) = false
def its : List IT := [⟨"int", "int", _, isr_int, boot_int, by decide, by decide⟩, ⟨"bool", "bool", _, isr_bool, boot_bool, by decide, by decide⟩, ⟨"tuple", "tuple", _, isr_tuple, boot_tuple, by decide, by decide⟩, ⟨"str", "str", _, isr_str, boot_str, by decide, by decide⟩]
def findI : (bs : List IT) → (nm : Str) → Option {b : IT // b.tn = nm}
  | [], _ => none
  | b :: bs, nm => if h : b.tn = nm then some ⟨b, h⟩ else findI bs nm
section
variable (r : TR) (c : Sc)
def callR (nm : Str) (p : Pos) (es : List Expr) (pos : Pos) : Option (RE c (.Call (.Name nm p) es [] pos)) :=
  match es with
  | [] => none
  | e :: es =>
    if hd : (nm == ("__debug__" : Str)) = false then if hg : c.sc.names.lookup nm = some .globalImplicit then if hs : (e :: es).all notStar = true then
      match findFE c.tab nm with
      | some ⟨f, hf, hn⟩ => if hl : f.lv ≤ c.lv then match argsF r c (e :: es) with
        | some a => some ⟨true, _, se_call hf hn hl hg hd a.ok hs⟩
        | none => none else none
      | none => if hb : nm ∈ c.blt then match findB bts nm (es.length + 1) with
        | some ⟨b, hn⟩ => match argsF r c (e :: es) with
          | some a => some ⟨true, mArgs b.op a.m, by subst hn; exact b.ok c p pos e es a.m hb hg a.ok hs⟩
          | none => none
        | none => none else none
    else none else none else none
def isR (p : Pos) (e : Expr) (tn : Str) (p2 pos : Pos) : Option (RE c (.Call (.Name "isinstance" p) [e, .Name tn p2] [] pos)) :=
  match findI its tn with
  | some ⟨b, hn⟩ => match r.e c e with
    | some a => if h : ("isinstance" : Str) ∈ c.blt ∧ tn ∈ c.blt ∧ c.sc.names.lookup ("isinstance" : Str) = some .globalImplicit ∧ c.sc.names.lookup tn = some .globalImplicit ∧ notStar e = true then
        some ⟨true, m1 (oIs b.f) a.m, by subst hn; exact se_isinst b.hr b.hv h.1 h.2.1 h.2.2.1 h.2.2.2.1 b.hn b.hd a.ok h.2.2.2.2⟩ else none
    | none => none
  | none => none
def callE (nm : Str) (p : Pos) : (es : List Expr) → (pos : Pos) → Option (RE c (.Call (.Name nm p) es [] pos))
  | [e, .Name tn p2], pos => if h : nm = "isinstance" then (match isR r c p e tn p2 pos with
      | some a => some ⟨a.u, a.m, by rw [h]; exact a.ok⟩
      | none => none) else callR r c nm p [e, .Name tn p2] pos
  | es, pos => callR r c nm p es pos
/-- methods -/
def methR (o : Expr) (m : Str) (apos : Pos) : (es : List Expr) → (cpos : Pos) → Option (RE c (.Call (.Attribute o m apos) es [] cpos))
  | [e], cpos => if hl : (apos.endLine == cpos.line) = true ∧ notStar e = true ∧ notCall0 o = true then match r.e c e with
    | some b =>
      if h : m = "get" then match r.e c o with
        | some a => some ⟨false, mGet1 a.m b.m, by subst h; exact se_get1 a.ok b.ok (m1_of hl.2.2 hl.2.1 hl.1)⟩
        | none => none
      else match o with
        | .Name nm p => match r.e c (.Name nm p) with
          | some a => if h : m = "count" then some ⟨true, mCount a.m b.m, by subst h; exact se_count a.ok b.ok hl.2.1 hl.1⟩
            else if h : m = "index" then some ⟨true, mIndex a.m b.m, by subst h; exact se_index a.ok b.ok hl.2.1 hl.1⟩ else none
          | none => none
        | _ => none
    | none => none else none
  | [e, f], cpos => if hl : (apos.endLine == cpos.line) = true ∧ notStar e = true ∧ notStar f = true ∧ notCall0 o = true then
      if h : m = "get" then match r.e c o, r.e c e, r.e c f with
        | some a, some b, some d => some ⟨false, mGet2 a.m b.m d.m, by subst h; exact se_get2 a.ok b.ok d.ok (m2_of hl.2.2.2 hl.2.1 hl.2.2.1 hl.1)⟩
        | _, _, _ => none
      else none else none
  | _, _ => none
/-- f(g(..)) for some f, g -/
def nestR (nm : Str) (p : Pos) (es : List Expr) (pos : Pos) : Option (RE c (.Call (.Name nm p) es [] pos)) := match es with
  | [.Call (.Name g p2) [e] [] q] => if hs : notStar e = true then (match r.e c e with
      | some a => if h : nm = "sorted" ∧ g = "set" ∧ ("sorted" : Str) ∈ c.blt ∧ c.sc.names.lookup ("sorted" : Str) = some .globalImplicit ∧ ("set" : Str) ∈ c.blt ∧ c.sc.names.lookup ("set" : Str) = some .globalImplicit then
            some ⟨true, m1 oSortSetX a.m, by obtain ⟨rfl, rfl, h1, h2, h3, h4⟩ := h; exact se_sortSetX h1 h2 h3 h4 a.ok hs⟩
          else if h : nm = "len" ∧ g = "set" ∧ ("len" : Str) ∈ c.blt ∧ c.sc.names.lookup ("len" : Str) = some .globalImplicit ∧ ("set" : Str) ∈ c.blt ∧ c.sc.names.lookup ("set" : Str) = some .globalImplicit then
            some ⟨true, m1 oLenSetX a.m, by obtain ⟨rfl, rfl, h1, h2, h3, h4⟩ := h; exact se_lenSetX h1 h2 h3 h4 a.ok hs⟩
          else if h : nm = "tuple" ∧ g = "range" ∧ ("tuple" : Str) ∈ c.blt ∧ c.sc.names.lookup ("tuple" : Str) = some .globalImplicit ∧ ("range" : Str) ∈ c.blt ∧ c.sc.names.lookup ("range" : Str) = some .globalImplicit then
            some ⟨true, mArgs (oRng .tuple) (mCons a.m mNil), by obtain ⟨rfl, rfl, h1, h2, h3, h4⟩ := h; exact se_tupRng1 h1 h2 h3 h4 a.ok hs⟩
          else if h : nm = "list" ∧ g = "range" ∧ ("list" : Str) ∈ c.blt ∧ c.sc.names.lookup ("list" : Str) = some .globalImplicit ∧ ("range" : Str) ∈ c.blt ∧ c.sc.names.lookup ("range" : Str) = some .globalImplicit then
            some ⟨true, mArgs (oRng .list) (mCons a.m mNil), by obtain ⟨rfl, rfl, h1, h2, h3, h4⟩ := h; exact se_lstRng1 h1 h2 h3 h4 a.ok hs⟩
          else none
      | none => none) else none
  | [.Call (.Name g p2) [e, f] [] q] => if hs : notStar e = true ∧ notStar f = true then (match r.e c e, r.e c f with
      | some a, some b => if h : nm = "tuple" ∧ g = "range" ∧ ("tuple" : Str) ∈ c.blt ∧ c.sc.names.lookup ("tuple" : Str) = some .globalImplicit ∧ ("range" : Str) ∈ c.blt ∧ c.sc.names.lookup ("range" : Str) = some .globalImplicit then
            some ⟨true, mArgs (oRng .tuple) (mCons a.m (mCons b.m mNil)), by obtain ⟨rfl, rfl, h1, h2, h3, h4⟩ := h; exact se_tupRng2 h1 h2 h3 h4 a.ok b.ok hs.1 hs.2⟩
          else none
      | _, _ => none) else none
  | [.Call (.Attribute o m apos) [] [] cpos] => if h : nm = "list" ∧ m = "values" ∧ ("list" : Str) ∈ c.blt ∧ c.sc.names.lookup ("list" : Str) = some .globalImplicit ∧ notCall0 o = true ∧ (apos.endLine == cpos.line) = true then (match r.e c o with
      | some a => some ⟨true, m1 oValsL a.m, by obtain ⟨rfl, rfl, h1, h2, h3, h4⟩ := h; exact se_listVals a.ok h1 h2 (base_of h3) h4⟩
      | none => none) else none
  | _ => none
/-- targets -/
def tgR : Nat → (tg : Expr) → Option (RG c tg)
  | 0, _ => none
  | n + 1, tg => match tg with
    | .Name nm p => match findIx c.N nm with
      | some ⟨i, hi⟩ => if h : locB c.sc nm = true ∧ nm ∈ c.own then some ⟨_, sg_name hi h.1 h.2⟩ else none
      | none => none
    | .Tuple es j p => if hn : es.all notStar = true then
        let rec go : (es : List Expr) → es.all notStar = true → Option (RGs c es)
          | [], _ => some ⟨_, sgs_nil⟩
          | e :: es, hn => match tgR n e, go es (by rw [List.all_cons, Bool.and_eq_true] at hn; exact hn.2) with
            | some a, some as => some ⟨_, sgs_cons a.ok as.ok (by rw [List.all_cons, Bool.and_eq_true] at hn; exact hn.1)⟩
            | _, _ => none
        match go es hn with
        | some a => some ⟨_, sg_tup a.ok hn⟩
        | none => none
      else none
    | _ => none
def itR (tg : Expr) (e : Expr) : Option (RI c tg e) :=
  match r.e c e with
  | some ⟨false, m, ok⟩ => (match e with
    | .Name nm p => match dictHint.contains nm with
      | true => some ⟨_, si_any ok⟩
      | false => some ⟨_, si_seq ok⟩
    | _ => some ⟨_, si_seq ok⟩)
  | some ⟨true, m, ok⟩ => some ⟨_, si_any ok⟩
  | none => none
/-- d.values(), d.items() -/
def viewR : (tg e : Expr) → Option (RI c tg e)
  | .Tuple ts k tp, .Call (.Attribute e m apos) [] [] cpos => if h : m = "items" ∧ notCall0 e = true ∧ (apos.endLine == cpos.line) = true then match r.e c e with
      | some a => some ⟨fun en => (a.m en).bind (dictW a.u itmsW), by obtain ⟨rfl, h1, h2⟩ := h; exact si_itms a.ok (base_of h1) h2⟩
      | none => none else none
  | tg, .Call (.Attribute e m apos) [] [] cpos => if h : m = "values" ∧ notCall0 e = true ∧ (apos.endLine == cpos.line) = true then match r.e c e with
      | some a => some ⟨fun en => (a.m en).bind (dictW a.u valsW), by obtain ⟨rfl, h1, h2⟩ := h; exact si_vals a.ok (base_of h1) h2⟩
      | none => none else none
  | _, _ => none
structure RI0 (c : Sc) (tg e : Expr) where
  m : En → T (List W)
  ok : SI0 c tg e m
def rgR (tg : Expr) : (e : Expr) → Option (RI0 c tg e)
  | .Call (.Name nm p) [a] [] pos => if h : nm = "range" ∧ ("range" : Str) ∈ c.blt ∧ c.sc.names.lookup ("range" : Str) = some .globalImplicit ∧ notStar a = true then match argsF r c [a] with
      | some as => some ⟨fun en => (as.m en).bind rng1, by obtain ⟨rfl, h1, h2, h3⟩ := h; exact si0_range1 h1 h2 as.ok h3⟩
      | none => none else none
  | .Call (.Name nm p) [a, b] [] pos => if h : nm = "range" ∧ ("range" : Str) ∈ c.blt ∧ c.sc.names.lookup ("range" : Str) = some .globalImplicit ∧ notStar a = true ∧ notStar b = true then match argsF r c [a, b] with
      | some as => some ⟨fun en => (as.m en).bind rng2, by obtain ⟨rfl, h1, h2, h3, h4⟩ := h; exact si0_range2 h1 h2 as.ok h3 h4⟩
      | none => none else none
  | _ => none
def enR : (tg e : Expr) → Option (RI c tg e)
  | .Tuple ts k tp, .Call (.Name nm p) [a] [] pos => if h : nm = "enumerate" ∧ ("enumerate" : Str) ∈ c.blt ∧ c.sc.names.lookup ("enumerate" : Str) = some .globalImplicit ∧ notStar a = true then match argsF r c [a] with
      | some as => some ⟨fun en => (as.m en).bind enumOf, by obtain ⟨rfl, h1, h2, h3⟩ := h; exact si_enum h1 h2 as.ok h3⟩
      | none => none else none
  | _, _ => none
def anyIt (tg : Expr) (e : Expr) : Option (RI c tg e) := match rgR r c tg e with
  | some a => some ⟨_, a.ok.si⟩
  | none => match enR r c tg e with
    | some a => some a
    | none => match viewR r c tg e with
      | some a => some a
      | none => itR r c tg e
/-- a block's own names with their slots -/
def ownOf (N : List Str) (scope : Scope) : List (Str × Nat) := scope.names.filterMap fun (n, k) => match k == .local || k == .cell with
  | true => match findIx N n with
    | some ⟨i, _⟩ => some (n, i)
    | none => none
  | false => none
abbrev blkSc (scope : Scope) : Sc := { c with sc := relS scope c.sc, own := (ownOf c.N scope).map (·.1) }
/-- what a comprehension is made of -/
structure LC (c : Sc) (elt tg iter : Expr) (ifs : List Expr) (scope : Scope) where
  ok : blkC c.N c.sc scope (ownOf c.N scope) = true
  ho : ((ownOf c.N scope).map (·.1)).all (fun x => scope.names.lookup x == some .cell || (relS scope c.sc).names.lookup x == some .local) = true
  i : RI c tg iter
  g : RG (blkSc c scope) tg
  mt : En → T Bool
  t : STs (blkSc c scope) ifs mt
  e : RE (blkSc c scope) elt
  hs : notSet iter = true
def lcR (elt tg iter : Expr) (ifs : List Expr) (scope : Scope) : Option (LC c elt tg iter ifs scope) :=
  if h : blkC c.N c.sc scope (ownOf c.N scope) = true ∧ ((ownOf c.N scope).map (·.1)).all (fun x => scope.names.lookup x == some .cell || (relS scope c.sc).names.lookup x == some .local) = true ∧ notSet iter = true then
    match anyIt r c tg iter, tgR (blkSc c scope) 4 tg, r.e (blkSc c scope) elt with
    | some i, some g, some e => match ifs with
      | [] => some ⟨h.1, h.2.1, i, g, _, sts_nil, e, h.2.2⟩
      | [t] => match r.t (blkSc c scope) t with
        | some t => some ⟨h.1, h.2.1, i, g, _, sts_one t.ok, e, h.2.2⟩
        | none => none
      | _ => none
    | _, _, _ => none
  else none
def partR : (o : Option Expr) → Option (Σ' m : En → T (Option Int), SO c o m)
  | none => some ⟨_, so_none⟩
  | some e => match r.e c e with
    | some a => some ⟨_, so_some a.ok⟩
    | none => none
/-- [..] of lists, by its text -/
def lolE : Expr → Bool
  | .ListComp (.List _ _) _ _ _ => true
  | _ => false
def stepE : (e : Expr) → Option (RE c e)
  | .Constant (.int i) j p => some ⟨true, _, se_int⟩
  | .Constant (.bool b) j p => some ⟨true, _, se_bl⟩
  | .Constant .none j p => some ⟨true, _, se_non⟩
  | .Constant (.str s) j p => some ⟨true, _, se_str⟩
  | .Name nm p => nameR c nm p
  | .BinOp a .Add b p => match r.e c a, r.e c b with
    | some x, some y => match lolE b with
      | true => some ⟨false, _, se_bin x.ok y.ok ok_addS⟩
      | false => some ⟨true, _, se_bin x.ok y.ok ok_add⟩
    | _, _ => none
  | .BinOp a o b p => match r.e c a, r.e c b, binO c o with
    | some x, some y, some op => some ⟨true, _, se_bin x.ok y.ok op.2⟩
    | _, _, _ => none
  | .Compare a [.Is] [.Constant .none j q] p => match r.e c a with
    | some x => some ⟨true, _, se_isN x.ok⟩
    | none => none
  | .Compare a [.IsNot] [.Constant .none j q] p => match r.e c a with
    | some x => some ⟨true, _, se_notN x.ok⟩
    | none => none
  | .Compare a [o] [b] p => match r.e c a, r.e c b, cmpOp c o with
    | some x, some y, some op => if hm : behindInMarks o b = false then some ⟨true, _, se_cmp x.ok y.ok op.2 hm⟩ else none
    | _, _, _ => none
  | .Compare a [o, o'] [b, d] p => match r.e c a, r.e c b, r.e c d, cmpOp c o, cmpOp c o' with
    | some x, some y, some z, some op, some op' => if hm : lastMarks [o, o'] [b, d] = false then some ⟨true, _, se_chain x.ok y.ok z.ok op.2 op'.2 hm⟩ else none
    | _, _, _, _, _ => none
  | .BoolOp .Or es p => orR r c es p
  | .BoolOp .And es p => andR r c es p
  | .UnaryOp .Not a p => match r.e c a with
    | some x => some ⟨true, _, se_not x.ok⟩
    | none => none
  | .UnaryOp .USub a p => match r.e c a with
    | some x => some ⟨true, _, se_neg x.ok⟩
    | none => none
  | .IfExp t a b p => match r.t c t, r.e c a, r.e c b with
    | some x, some ⟨true, ma, oa⟩, some ⟨true, mb, ob⟩ => some ⟨true, _, se_if x.ok oa ob⟩
    | some x, some y, some z => some ⟨false, _, se_if x.ok y.weak.2 z.weak.2⟩
    | _, _, _ => none
  | .Call (.Name nm p) es [] pos => match nestR r c nm p es pos with
    | some x => some x
    | none => callE r c nm p es pos
  | .Subscript a (.Slice lo hi none p2) p => match r.e c a, partR r c lo, partR r c hi with
    | some x, some y, some z => some ⟨true, _, se_slice x.ok y.2 z.2⟩
    | _, _, _ => none
  | .Subscript a b p => match r.e c a, r.e c b with
    | some x, some y => if h : notSlice b = true then some ⟨false, _, se_get x.ok y.ok (plainIx_of h)⟩ else none
    | _, _ => none
  | .Dict [] [] p => some ⟨true, _, se_dict0⟩
  | .Dict [some k] [v] p => match r.e c k, r.e c v with
    | some x, some y => some ⟨true, _, se_dict1 x.ok y.own.2⟩
    | _, _ => none
  | .Tuple es j p => match dispN r c es with
    | some a => some ⟨true, _, se_tup a.ok⟩
    | none => match dispF r c es with
      | some a => some ⟨false, _, se_tup a.ok⟩
      | none => none
  | .List es p => match dispO r c es with
    | some a => some ⟨true, _, se_lst a.ok⟩
    | none => none
  | .ListComp elt [⟨tg, iter, ifs, 0⟩] scope p => match lcR r c elt tg iter ifs scope with
    | some x => match lockIx c iter with
      | some j => some ⟨true, _, se_lock j (se_lc rfl x.ok x.ho x.i.ok x.g.ok x.t x.e.own.2 (folded_of x.hs))⟩
      | none => some ⟨true, _, se_lc rfl x.ok x.ho x.i.ok x.g.ok x.t x.e.own.2 (folded_of x.hs)⟩
    | none => none
  | .Call (.Attribute o m apos) es [] cpos => methR r c o m apos es cpos
  | _ => none
def valT (e : Expr) : Option (RT c e) := match r.e c e with
  | some x => if h : plainTest e = true then some ⟨_, st_val x.ok h⟩ else none
  | none => none
def stepT : (e : Expr) → Option (RT c e)
  | .Compare a [.Is] [.Constant .none j q] p => match r.e c a with
    | some x => some ⟨_, st_isN x.ok⟩
    | none => none
  | .Compare a [.IsNot] [.Constant .none j q] p => match r.e c a with
    | some x => some ⟨_, st_notN x.ok⟩
    | none => none
  | .Compare a [o] [b] p => match r.e c a, r.e c b, cmpOp c o with
    | some x, some y, some op => if hm : behindInMarks o b = false then some ⟨_, st_cmp x.ok y.ok op.2 hm⟩ else none
    | _, _, _ => none
  | .Compare a [o, o'] [b, d] p => match r.e c a, r.e c b, r.e c d, cmpOp c o, cmpOp c o' with
    | some x, some y, some z, some op, some op' => if hm : lastMarks [o, o'] [b, d] = false then some ⟨_, st_chain x.ok y.ok z.ok op.2 op'.2 hm⟩ else none
    | _, _, _, _, _ => none
  | .BoolOp .Or es p => match orT r c es p with
    | some x => some ⟨x.1, x.2.st⟩
    | none => none
  | .BoolOp .And es p => match andT r c es p with
    | some x => some ⟨x.1, x.2.st⟩
    | none => none
  | .UnaryOp .Not a p => match r.t c a with
    | some x => some ⟨_, st_not x.ok⟩
    | none => none
  | e => valT r c e
end
def trN : Nat → TR
  | 0 => ⟨fun _ _ => none, fun _ _ => none⟩
  | n + 1 => ⟨fun c e => stepE (trN n) c e, fun c e => stepT (trN n) c e⟩
end G

set_option Elab.async false
set_option linter.all false
set_option maxRecDepth 100000
/-! TB: statements and defs from their texts. -/
namespace G
open PySem PySem.Spec PyProof.Rows L2

def namesIn : Nat → Expr → List Str
  | 0, _ => []
  | n + 1, e => match e with
    | .Name nm _ => [nm]
    | .BoolOp _ es _ => es.flatMap (namesIn n)
    | .BinOp a _ b _ => namesIn n a ++ namesIn n b
    | .UnaryOp _ a _ => namesIn n a
    | .IfExp a b d _ => namesIn n a ++ namesIn n b ++ namesIn n d
    | .Compare a _ es _ => namesIn n a ++ es.flatMap (namesIn n)
    | .Call f es _ _ => namesIn n f ++ es.flatMap (namesIn n)
    | .Attribute a _ _ => namesIn n a
    | .Subscript a b _ => namesIn n a ++ namesIn n b
    | .Starred a _ => namesIn n a
    | .List es _ => es.flatMap (namesIn n)
    | .Tuple es _ _ => es.flatMap (namesIn n)
    | .Slice a b d _ => (match a with | some a => namesIn n a | none => []) ++ (match b with | some b => namesIn n b | none => []) ++ (match d with | some d => namesIn n d | none => [])
    | .ListComp a gs _ _ => namesIn n a ++ gs.flatMap fun g => namesIn n g.iter ++ g.ifs.flatMap (namesIn n)
    | .DictComp a b gs _ _ => namesIn n a ++ namesIn n b ++ gs.flatMap fun g => namesIn n g.iter ++ g.ifs.flatMap (namesIn n)
    | .Dict ks vs _ => (ks.flatMap fun o => match o with | some k => namesIn n k | none => []) ++ vs.flatMap (namesIn n)
    | _ => []
/-- the slots that a text reads -/
def slotsOf (N : List Str) (e : Expr) : List Nat := (namesIn 12 e).filterMap fun nm => match findIx N nm with
  | some ⟨i, _⟩ => some i
  | none => none
section
variable (r : TR) (c : Sc)
def setR (nm : Str) (p : Pos) (e : Expr) (pos : Pos) : Option (RS c (.Assign [.Name nm p] e pos)) :=
  match findIx c.N nm with
  | none => none
  | some ⟨i, hi⟩ => if h : locB c.sc nm = true ∧ nm ∈ c.own then
      if hc : notComp e = true then
        match r.e c e with
        | some ⟨true, m, ok⟩ => some ⟨_, ss_set ok hi h.1 h.2 fun env _ => swaps_of hc _ _ env⟩
        | some ⟨false, m, ok⟩ => some ⟨_, ss_setS (slotsOf c.N e) ok hi h.1 h.2 fun env _ => swaps_of hc _ _ env⟩
        | none => none
      else if hk : c.sc.kind = .function then match e with
        | .ListComp elt [⟨tg, iter, ifs, 0⟩] scope q => match lcR r c elt tg iter ifs scope with
          | some x => if hs : lcSwap c.sc scope nm p q = true then
              match x.e with
              | ⟨u, m, ok⟩ => match (RE.own ⟨u, m, ok⟩ : Σ' m : En → T W, SE (blkSc c scope) elt m true) with
                | ⟨m', ok'⟩ => if hl : c.sc.names.lookup nm = some .local then some ⟨_, ss_setLc rfl x.ok x.ho x.i.ok x.g.ok x.t ok' (folded_of x.hs) hi hl fun env he => by rw [lcSwap_of he hk, hs]⟩ else none
            else if hs2 : lcSwap c.sc scope nm p q = false then
              match x.e with
              | ⟨u, m, ok⟩ => match (RE.own ⟨u, m, ok⟩ : Σ' m : En → T W, SE (blkSc c scope) elt m true) with
                | ⟨m', ok'⟩ => some ⟨_, ss_set (se_lc (c := c) rfl x.ok x.ho x.i.ok x.g.ok x.t ok' (folded_of x.hs)) hi h.1 h.2 fun env he => by rw [lcSwap_of he hk, hs2]⟩
            else none
          | none => none
        | _ => none else none
    else none
def moveR (nm : Str) (p : Pos) (nm2 : Str) (p2 : Pos) (pos : Pos) : Option (RS c (.Assign [.Name nm p] (.Name nm2 p2) pos)) :=
  match findIx c.N nm, findIx c.N nm2 with
  | some ⟨i, hi⟩, some ⟨j, hj⟩ => if h : locB c.sc nm = true ∧ nm ∈ c.own ∧ visB c.sc nm2 = true ∧ (nm2 == ("__debug__" : Str)) = false ∧ (nm2 == ("__classdict__" : Str)) = false then some ⟨_, ss_move hi h.1 h.2.1 hj (vis_of h.2.2.1) h.2.2.2.1 h.2.2.2.2⟩ else none
  | _, _ => none
/-- names as targets -/
def nmsR : (es : List Expr) → Option (Σ' is : List Nat, SNs c es is)
  | [] => some ⟨[], True.intro⟩
  | .Name n p :: es => match findIx c.N n, nmsR es with
    | some ⟨i, hi⟩, some ⟨is, h⟩ => if hl : locB c.sc n = true ∧ n ∈ c.own then some ⟨i :: is, hi, hl.1, hl.2, h⟩ else none
    | _, _ => none
  | _ :: _ => none
def unpR (ts : List Expr) (k : Nat) (pt : Pos) (e : Expr) (pos : Pos) : Option (RS c (.Assign [.Tuple ts k pt] e pos)) :=
  if hc : notComp e = true then match nmsR c ts, r.e c e with
    | some ⟨is, hn⟩, some a => match e with
      | .Tuple vs k2 p2 => if hk : c.sc.kind = .function then if hw : swN c.sc ts vs = some none then match argsO r c vs with
        | some as => some ⟨_, ss_unp (se_tup as.ok) hn (fun env _ => swSole_of hc _ _ env) fun env he => swN_ok he hk hw⟩
        | none => none else none else none
      | .Call f as kws p => some ⟨_, ss_unp a.own.2 hn (fun env _ => swSole_of hc _ _ env) fun env _ => rfl⟩
      | .Name f p => some ⟨_, ss_unp a.own.2 hn (fun env _ => swSole_of hc _ _ env) fun env _ => rfl⟩
      | .Subscript f q p => some ⟨_, ss_unp a.own.2 hn (fun env _ => swSole_of hc _ _ env) fun env _ => rfl⟩
      | _ => none
    | _, _ => none else none
def par2R (n1 n2 : Str) (p1 p2 : Pos) (kt : Nat) (pt : Pos) (a b : Expr) (k2 : Nat) (pt2 pos : Pos) : Option (RS c (.Assign [.Tuple [.Name n1 p1, .Name n2 p2] kt pt] (.Tuple [a, b] k2 pt2) pos)) :=
  match findIx c.N n1, findIx c.N n2, argsO r c [a, b] with
  | some ⟨i, hi⟩, some ⟨j, hj⟩, some as => if h : i ≠ j ∧ c.sc.names.lookup n1 = some .local ∧ c.sc.names.lookup n2 = some .local ∧ c.sc.kind = .function ∧ swN c.sc [.Name n1 p1, .Name n2 p2] [a, b] = some (some [n1, n2]) then
      some ⟨_, ss_par2 as.ok hi hj h.1 h.2.1 h.2.2.1 h.2.2.2.1 h.2.2.2.2⟩ else none
  | _, _, _ => none
def par3R (n1 n2 n3 : Str) (p1 p2 p3 : Pos) (kt : Nat) (pt : Pos) (a b d : Expr) (k2 : Nat) (pt2 pos : Pos) : Option (RS c (.Assign [.Tuple [.Name n1 p1, .Name n2 p2, .Name n3 p3] kt pt] (.Tuple [a, b, d] k2 pt2) pos)) :=
  match findIx c.N n1, findIx c.N n2, findIx c.N n3, argsO r c [a, b, d] with
  | some ⟨i, hi⟩, some ⟨j, hj⟩, some ⟨l, hl⟩, some as => if h : i ≠ j ∧ i ≠ l ∧ j ≠ l ∧ c.sc.names.lookup n1 = some .local ∧ c.sc.names.lookup n2 = some .local ∧ c.sc.names.lookup n3 = some .local ∧ c.sc.kind = .function ∧ swN c.sc [.Name n1 p1, .Name n2 p2, .Name n3 p3] [a, b, d] = some (some [n1, n2, n3]) then
      some ⟨_, ss_par3 as.ok hi hj hl h.1 h.2.1 h.2.2.1 h.2.2.2.1 h.2.2.2.2.1 h.2.2.2.2.2.1 h.2.2.2.2.2.2.1 h.2.2.2.2.2.2.2⟩ else none
  | _, _, _, _ => none
def subR (nm : Str) (p : Pos) (ix : Expr) (pt : Pos) (e : Expr) (pos : Pos) : Option (RS c (.Assign [.Subscript (.Name nm p) ix pt] e pos)) :=
  if hc : notComp e = true then match findIx c.N nm, r.e c ix, r.e c e with
    | some ⟨i, hi⟩, some k, some a => if h : visB c.sc nm = true ∧ (nm == ("__debug__" : Str)) = false ∧ (nm == ("__classdict__" : Str)) = false ∧ notSlice ix = true then
        some ⟨_, ss_subX a.own.2 k.ok hi (vis_of h.1) h.2.1 h.2.2.1 h.2.2.2 (fun env => swSole_of hc _ _ env) fun env => swNone_sub⟩ else none
    | _, _, _ => none else none
def sub2R (nm : Str) (p : Pos) (ix : Expr) (pt2 : Pos) (ix2 : Expr) (pt : Pos) (e : Expr) (pos : Pos) : Option (RS c (.Assign [.Subscript (.Subscript (.Name nm p) ix pt2) ix2 pt] e pos)) :=
  if hc : notComp e = true then match findIx c.N nm, r.e c ix, r.e c ix2, r.e c e with
    | some ⟨i, hi⟩, some j, some k, some a => if h : visB c.sc nm = true ∧ (nm == ("__debug__" : Str)) = false ∧ (nm == ("__classdict__" : Str)) = false ∧ notSlice ix = true ∧ notSlice ix2 = true then
        some ⟨_, ss_sub2 a.own.2 j.ok k.ok hi (vis_of h.1) h.2.1 h.2.2.1 h.2.2.2.1 h.2.2.2.2 (fun env => swSole_of hc _ _ env) fun env => swNone_sub⟩ else none
    | _, _, _, _ => none else none
def extR (nm : Str) (p apos : Pos) (e : Expr) (cpos pos : Pos) : Option (RS c (.Expr (.Call (.Attribute (.Name nm p) "extend" apos) [e] [] cpos) pos)) :=
  match findIx c.N nm, r.e c e with
  | some ⟨i, hi⟩, some a => if h : visB c.sc nm = true ∧ (nm == ("__debug__" : Str)) = false ∧ (nm == ("__classdict__" : Str)) = false ∧ notStar e = true ∧ (apos.endLine == cpos.line) = true then
      some ⟨_, ss_ext a.ok h.2.2.2.1 hi (vis_of h.1) h.2.1 h.2.2.1 h.2.2.2.2⟩ else none
  | _, _ => none
def appMoveR (nm : Str) (p apos : Pos) (nm2 : Str) (p2 cpos pos : Pos) : Option (RS c (.Expr (.Call (.Attribute (.Name nm p) "append" apos) [.Name nm2 p2] [] cpos) pos)) :=
  match findIx c.N nm, findIx c.N nm2 with
  | some ⟨i, hi⟩, some ⟨j, hj⟩ => if h : (visB c.sc nm = true ∧ (nm == ("__debug__" : Str)) = false ∧ (nm == ("__classdict__" : Str)) = false) ∧ (visB c.sc nm2 = true ∧ (nm2 == ("__debug__" : Str)) = false ∧ (nm2 == ("__classdict__" : Str)) = false) ∧ (apos.endLine == cpos.line) = true then
      some ⟨_, ss_appMove hi (vis_of h.1.1) h.1.2.1 h.1.2.2 hj (vis_of h.2.1.1) h.2.1.2.1 h.2.1.2.2 h.2.2⟩ else none
  | _, _ => none
def appPopR (nm : Str) (p apos : Pos) (nm2 : Str) (p2 apos2 : Pos) (e : Expr) (cpos2 cpos pos : Pos) : Option (RS c (.Expr (.Call (.Attribute (.Name nm p) "append" apos) [.Call (.Attribute (.Name nm2 p2) "pop" apos2) [e] [] cpos2] [] cpos) pos)) :=
  match findIx c.N nm, findIx c.N nm2, r.e c e with
  | some ⟨i, hi⟩, some ⟨j, hj⟩, some a => if h : (visB c.sc nm = true ∧ (nm == ("__debug__" : Str)) = false ∧ (nm == ("__classdict__" : Str)) = false) ∧ (visB c.sc nm2 = true ∧ (nm2 == ("__debug__" : Str)) = false ∧ (nm2 == ("__classdict__" : Str)) = false) ∧ notStar e = true ∧ (apos.endLine == cpos.line) = true ∧ (apos2.endLine == cpos2.line) = true then
      some ⟨_, ss_appPop a.ok h.2.2.1 hi (vis_of h.1.1) h.1.2.1 h.1.2.2 hj (vis_of h.2.1.1) h.2.1.2.1 h.2.1.2.2 h.2.2.2.1 h.2.2.2.2⟩ else none
  | _, _, _ => none
def subAppR (nm : Str) (p : Pos) (ix : Expr) (pt apos : Pos) (e : Expr) (cpos pos : Pos) : Option (RS c (.Expr (.Call (.Attribute (.Subscript (.Name nm p) ix pt) "append" apos) [e] [] cpos) pos)) :=
  match findIx c.N nm, r.e c ix, r.e c e with
  | some ⟨i, hi⟩, some j, some a => if h : visB c.sc nm = true ∧ (nm == ("__debug__" : Str)) = false ∧ (nm == ("__classdict__" : Str)) = false ∧ notStar e = true ∧ notSlice ix = true ∧ (apos.endLine == cpos.line) = true then
      some ⟨_, ss_subApp a.own.2 j.ok h.2.2.2.1 hi (vis_of h.1) h.2.1 h.2.2.1 h.2.2.2.2.1 h.2.2.2.2.2⟩ else none
  | _, _, _ => none
def popR (nm : Str) (p : Pos) (nm2 : Str) (p2 apos cpos pos : Pos) : Option (RS c (.Assign [.Name nm p] (.Call (.Attribute (.Name nm2 p2) "pop" apos) [] [] cpos) pos)) :=
  match findIx c.N nm, findIx c.N nm2 with
  | some ⟨i, hi⟩, some ⟨j, hj⟩ => if h : locB c.sc nm = true ∧ nm ∈ c.own ∧ visB c.sc nm2 = true ∧ (nm2 == ("__debug__" : Str)) = false ∧ (nm2 == ("__classdict__" : Str)) = false ∧ (apos.endLine == cpos.line) = true then
      some ⟨_, ss_pop hi h.1 h.2.1 hj (vis_of h.2.2.1) h.2.2.2.1 h.2.2.2.2.1 h.2.2.2.2.2⟩ else none
  | _, _ => none
def appR (nm : Str) (p apos : Pos) (e : Expr) (cpos pos : Pos) : Option (RS c (.Expr (.Call (.Attribute (.Name nm p) "append" apos) [e] [] cpos) pos)) :=
  match findIx c.N nm, r.e c e with
  | some ⟨i, hi⟩, some a => if h : visB c.sc nm = true ∧ (nm == ("__debug__" : Str)) = false ∧ (nm == ("__classdict__" : Str)) = false ∧ notStar e = true ∧ (apos.endLine == cpos.line) = true then
      some ⟨_, ss_app a.own.2 h.2.2.2.1 hi (vis_of h.1) h.2.1 h.2.2.1 h.2.2.2.2⟩ else none
  | _, _ => none
def augR (nm : Str) (p : Pos) (o : Operator) (e : Expr) (pos : Pos) : Option (RS c (.AugAssign (.Name nm p) o e pos)) :=
  match findIx c.N nm, r.e c e with
  | some ⟨i, hi⟩, some a => if h : locB c.sc nm = true ∧ nm ∈ c.own then match o with
      | .Add => some ⟨_, ss_aug (fun _ => ip_add) a.ok hi h.1 h.2⟩
      | .Sub => some ⟨_, ss_aug (fun _ => ip_sub) a.ok hi h.1 h.2⟩
      | _ => none else none
  | _, _ => none
def augSR (nm : Str) (p : Pos) (ix : Expr) (pt : Pos) (o : Operator) (e : Expr) (pos : Pos) : Option (RS c (.AugAssign (.Subscript (.Name nm p) ix pt) o e pos)) :=
  match findIx c.N nm, r.e c ix, r.e c e with
  | some ⟨i, hi⟩, some k, some a => if h : visB c.sc nm = true ∧ (nm == ("__debug__" : Str)) = false ∧ (nm == ("__classdict__" : Str)) = false ∧ notSlice ix = true then match o with
      | .Add => some ⟨_, ss_augS (fun _ => ip_add) a.ok k.ok hi (vis_of h.1) h.2.1 h.2.2.1 h.2.2.2⟩
      | .Sub => some ⟨_, ss_augS (fun _ => ip_sub) a.ok k.ok hi (vis_of h.1) h.2.1 h.2.2.1 h.2.2.2⟩
      | _ => none else none
  | _, _, _ => none
def retR : (o : Option Expr) → (pos : Pos) → Option (RS c (.Return o pos))
  | none, pos => some ⟨_, ss_retN⟩
  | some (.Name nm p), pos => match findIx c.N nm with
    | some ⟨i, hi⟩ => if h : visB c.sc nm = true ∧ (nm == ("__debug__" : Str)) = false ∧ (nm == ("__classdict__" : Str)) = false then some ⟨_, ss_retV hi (vis_of h.1) h.2.1 h.2.2⟩ else none
    | none => match r.e c (.Name nm p) with
      | some a => some ⟨_, ss_ret a.own.2⟩
      | none => none
  | some e, pos => match r.e c e with
    | some a => some ⟨_, ss_ret a.own.2⟩
    | none => none
def listR (f : (st : Stmt) → Option (RS c st)) : (sts : List Stmt) → Option (RSs c sts)
  | [] => some ⟨_, sss_nil⟩
  | s :: ss => match f s, listR f ss with
    | some a, some b => some ⟨_, sss_cons a.ok b.ok⟩
    | _, _ => none
/-- how often a while may turn -/
def fuel : Nat := 100000
def exprR (f : Unit → Option Unit) : (e : Expr) → (pos : Pos) → Option (RS c (.Expr e pos))
  | .Constant (.str s) j p, pos => some ⟨_, ss_doc⟩
  | .Call (.Attribute (.Subscript (.Name nm p) ix pt) a apos) [e] [] cpos, pos => if h : a = "append" then (match subAppR r c nm p ix pt apos e cpos pos with
      | some x => some ⟨x.m, by rw [h]; exact x.ok⟩
      | none => none) else none
  | .Call (.Attribute (.Name nm p) a apos) [.Call (.Attribute (.Name nm2 p2) a2 apos2) [e] [] cpos2] [] cpos, pos => if h : a = "append" ∧ a2 = "pop" then (match appPopR r c nm p apos nm2 p2 apos2 e cpos2 cpos pos with
      | some x => some ⟨x.m, by rw [h.1, h.2]; exact x.ok⟩
      | none => none) else if h : a = "append" then (match appR r c nm p apos (.Call (.Attribute (.Name nm2 p2) a2 apos2) [e] [] cpos2) cpos pos with
      | some x => some ⟨x.m, by rw [h]; exact x.ok⟩
      | none => none) else none
  | .Call (.Attribute (.Name nm p) a apos) [.Name nm2 p2] [] cpos, pos => if h : a = "append" then (match appMoveR c nm p apos nm2 p2 cpos pos with
      | some x => some ⟨x.m, by rw [h]; exact x.ok⟩
      | none => none) else if h : a = "extend" then (match extR r c nm p apos (.Name nm2 p2) cpos pos with
      | some x => some ⟨x.m, by rw [h]; exact x.ok⟩
      | none => none) else none
  | .Call (.Attribute (.Name nm p) a apos) [e] [] cpos, pos => if h : a = "append" then (match appR r c nm p apos e cpos pos with
      | some x => some ⟨x.m, by rw [h]; exact x.ok⟩
      | none => none) else if h : a = "extend" then (match extR r c nm p apos e cpos pos with
      | some x => some ⟨x.m, by rw [h]; exact x.ok⟩
      | none => none) else none
  | e, pos => if hc : notComp e = true then match r.e c e with
    | some a => some ⟨_, ss_expr a.ok fun env => swaps_of hc _ _ env⟩
    | none => none else none
/-- the slot of a dict that a comprehension walks, where it is a statement's own -/
def lockOf : Expr → Option Nat
  | .ListComp _ [⟨_, iter, _, 0⟩] _ _ => lockIx c iter
  | _ => none
def asgR : (ts : List Expr) → (e : Expr) → (pos : Pos) → Option (RS c (.Assign ts e pos))
  | [.Name nm p], .Name nm2 p2, pos => match moveR c nm p nm2 p2 pos with
    | some x => some x
    | none => setR r c nm p (.Name nm2 p2) pos
  | [.Name nm p], .Call (.Attribute (.Name nm2 p2) a apos) [] [] cpos, pos => if h : a = "pop" then (match popR c nm p nm2 p2 apos cpos pos with
      | some x => some ⟨x.m, by rw [h]; exact x.ok⟩
      | none => none) else none
  | [.Name nm p], e, pos => match setR r c nm p e pos with
    | some x => match lockOf c e with
      | some j => some ⟨_, ss_lock j x.ok⟩
      | none => some x
    | none => none
  | [.Tuple [.Name n1 p1, .Name n2 p2] kt pt], .Tuple [a, b] k2 pt2, pos => match par2R r c n1 n2 p1 p2 kt pt a b k2 pt2 pos with
    | some x => some x
    | none => unpR r c [.Name n1 p1, .Name n2 p2] kt pt (.Tuple [a, b] k2 pt2) pos
  | [.Tuple [.Name n1 p1, .Name n2 p2, .Name n3 p3] kt pt], .Tuple [a, b, d] k2 pt2, pos => match par3R r c n1 n2 n3 p1 p2 p3 kt pt a b d k2 pt2 pos with
    | some x => some x
    | none => unpR r c [.Name n1 p1, .Name n2 p2, .Name n3 p3] kt pt (.Tuple [a, b, d] k2 pt2) pos
  | [.Tuple ts kt pt], e, pos => unpR r c ts kt pt e pos
  | [.Subscript (.Name nm p) ix pt], e, pos => subR r c nm p ix pt e pos
  | [.Subscript (.Subscript (.Name nm p) ix pt2) ix2 pt], e, pos => sub2R r c nm p ix pt2 ix2 pt e pos
  | _, _, _ => none
def forR (f : (st : Stmt) → Option (RS c st)) (tg e : Expr) (b : List Stmt) (pos : Pos) : Option (RS c (.For tg e b [] pos)) :=
  if hs : notSet e = true then match tgR c 4 tg, listR c f b with
    | some g, some m => match rgR r c tg e with
      | some i => some ⟨_, ss_for0 i.ok g.ok m.ok (folded_of hs)⟩
      | none => match anyIt r c tg e with
        | some i => match lockIx c e with
          | some j => some ⟨_, ss_lock j (ss_for (slotsOf c.N e) i.ok g.ok m.ok (folded_of hs))⟩
          | none => some ⟨_, ss_for (slotsOf c.N e) i.ok g.ok m.ok (folded_of hs)⟩
        | none => none
    | _, _ => none else none
def trS : Nat → (st : Stmt) → Option (RS c st)
  | 0, _ => none
  | n + 1, st => match st with
    | .Pass p => some ⟨_, ss_pass⟩
    | .Break p => some ⟨_, ss_break⟩
    | .Continue p => some ⟨_, ss_continue⟩
    | .Raise a b p => some ⟨_, ss_never⟩
    | .Return o p => retR r c o p
    | .Expr e p => exprR r c (fun _ => none) e p
    | .If t a b p => match r.t c t, listR c (trS n) a, listR c (trS n) b with
      | some x, some y, some z => some ⟨_, ss_if x.ok y.ok z.ok⟩
      | _, _, _ => none
    | .While t b [] p => match r.t c t, listR c (trS n) b with
      | some x, some y => some ⟨_, ss_while fuel x.ok y.ok⟩
      | _, _ => none
    | .For tg e b [] p => forR r c (trS n) tg e b p
    | .AugAssign (.Name nm p) o e pos => augR r c nm p o e pos
    | .AugAssign (.Subscript (.Name nm p) ix pt) o e pos => augSR r c nm p ix pt o e pos
    | .Assign ts e pos => asgR r c ts e pos
    | _ => none
end
def trB (c : Sc) (b : List Stmt) : Option (RSs c b) := listR c (trS (trN 24) c 12) b
end G

set_option Elab.async false
set_option linter.all false
set_option maxRecDepth 100000
set_option exponentiation.threshold 5000
/-! G21: the draws: _law_taken. -/
namespace G
open PySem PySem.Spec PyProof.Rows L2

/-- a draw of k -/
def phTaken : List W → T W
  | [.row, .d (.int k)] => T.must (decide (0 < k) && decide (k < 1073741824)) (.draw k.toNat fun d => .ret (.d (.int (d : Nat))))
  | _ => .fail
section
variable {X : Cx} {p q : Pos} {j : Nat}
/-- row[k] -/
abbrev tRow (K : PySem.W.Frag) (k : Int) : TE := tOp (rIxL K) (tVar 0) (tC (.int k))
theorem pe_row {sc : Scope} {nm : Str} {p1 p2 p3 : Pos} {j : Nat} {k : Int} (hN : X.N[0]? = some nm) (hv : Vis X.env.scope nm) (hd : (nm == ("__debug__" : Str)) = false) (hcd : (nm == ("__classdict__" : Str)) = false) :
    PE X (.Subscript (.Name nm p1) (.Constant (.int k) j p2) p3) (tRow X.K k) := pe_ix ix_list (pe_var hN hv hd hcd) pe_int (fun _ _ => rfl)
end
/-- the row's object, its numbers -/
theorem row_at {R : Rw} {K : PySem.W.Frag} {H : Hp} {r : Addr} (a b c : Int) (h : H r = some (.lst [.ref R.scr, .int a, .int b, .int c])) : SqL K H r [.ref R.scr, .int a, .int b, .int c] := SqL.of h
section
variable {R : Rw} {K : PySem.W.Frag} {H : Hp} {r : Addr}
/-- the row turned -/
theorem row_le {a b c a' b' c' : Int} (hr : R.row = some r) (h : H r = some (.lst [.ref R.scr, .int a, .int b, .int c])) (hs : SqL K H R.scr (R.xs.map V.int)) (hne : (∀ G, SqL K G R.scr (R.xs.map V.int)) ∨ R.scr ≠ r) (hl : R.xs.length ≤ 63) (h0 : 0 ≤ a' ∧ 0 ≤ b' ∧ b' < 4294967296) :
    Le R K H (upd H r (.lst [.ref R.scr, .int a', .int b', .int c'])) ∧ SqL K (upd H r (.lst [.ref R.scr, .int a', .int b', .int c'])) R.scr (R.xs.map V.int) := by
  have hs' : SqL K (upd H r (.lst [.ref R.scr, .int a', .int b', .int c'])) R.scr (R.xs.map V.int) := by
    rcases hne with hne | hne
    · exact hne _
    · rcases hs with (hs | ⟨o, hs⟩) | hs
      · exact .inl (.inl (by rw [upd_ne hne]; exact hs))
      · exact .inl (.inr ⟨o, by rw [upd_ne hne]; exact hs⟩)
      · exact .inr hs
  refine ⟨⟨fun x o hx e => ?_, fun x o e => ?_, fun _ q hq => ?_⟩, hs'⟩
  · rw [upd_ne (fun z => hx (by rw [hr, z]))]; exact e
  · by_cases z : x = r
    · exact ⟨_, by rw [z]; exact upd_same⟩
    · exact ⟨o, by rw [upd_ne z]; exact e⟩
  · have : q = r := Option.some.inj (hq.symm.trans hr)
    subst this
    exact ⟨a', b', c', upd_same, hs', hne, hl, h0⟩
end
/-! ### what the draw's def does -/
abbrev rGt : R2 := rI0 fun i j => .bl (decide (j < i))
abbrev rGe : R2 := rI0 fun i j => .bl (decide (j ≤ i))
abbrev rMd : R2 := rI (fun _ j => 0 < j) fun i j => .int (i % j)
abbrev rFd : R2 := rI CDivW fun i j => .int (i / j)
abbrev rMl : R2 := rI CMulW fun i j => .int (i * j)
abbrev rAd : R2 := rI0 fun i j => .int (i + j)
abbrev rSb : R2 := rI0 fun i j => .int (i - j)
abbrev rPw : R2 := rI CPow fun i j => .int (i ^ j.toNat)
abbrev rIn1 : List V → Hp → VK → Prop := fun xs H Q => (∃ i, xs = [V.int i] ∧ Q (.int i) H) ∨ ∃ k, xs = [V.bl k] ∧ Q (.int (if k then 1 else 0)) H
abbrev rLn (K : PySem.W.Frag) : List V → Hp → VK → Prop := fun xs H Q => ∃ p ys, xs = [V.ref p] ∧ (SqL K H p ys ∨ SqT K H p ys) ∧ Q (.int (ys.length : Nat)) H
abbrev tIn (t : TE) : TE := tCB rIn1 (tCons t tNil)
abbrev tPut (k : Int) : TG := gSub (tVar 0) (tC (.int k)) rSetL
abbrev tTk1 (K : PySem.W.Frag) : TS := tSeq (tAsg (tOp rMd (tIn (tRow K 3)) (tVar 1)) (gName 2)) (tSeq (tAsg (tOp rFd (tRow K 3) (tVar 1)) (tPut 3)) (tRet (tVar 2)))
abbrev tTk2 (K : PySem.W.Frag) : TS := tSeq (tAsg (tOp rMd (tIn (tOp rAd (tOp rMl (tRow K 2) (tC (.int 48271))) (tC (.int 11)))) (tC (.int 2147483647))) (tPut 2)) (tRet (tOp rMd (tIn (tOp rFd (tRow K 2) (tC (.int 7)))) (tVar 1)))
abbrev tTk3 (K : PySem.W.Frag) : TS := tSeq (tAsg (tOp (rIxL K) (tRow K 0) (tOp rSb (tRow K 1) (tC (.int 1)))) (gName 3))
  (tSeq (tAsg (tOp rMd (tIn (tOp rAd (tOp rAd (tOp rMl (tRow K 2) (tC (.int 48271))) (tVar 3)) (tC (.int 11)))) (tC (.int 2147483647))) (tPut 2))
  (tSeq (tIfS (tTest (tOp rGe (tVar 3) (tOp rPw (tC (.int 10)) (tC (.int 18))))) (tAsg (tOp rFd (tVar 3) (tVar 1)) (tPut 3)) tNext) (tRet (tOp rMd (tIn (tVar 3)) (tVar 1)))))
abbrev tTaken (K : PySem.W.Frag) : TS := tSeq (tIfS (tTest (tOp rGt (tRow K 3) (tC (.int 0)))) (tTk1 K) tNext) (tSeq (tAsg (tOp rAd (tRow K 1) (tC (.int 1))) (tPut 1))
  (tSeq (tIfS (tTest (tOp rGt (tRow K 1) (tCB (rLn K) (tCons (tRow K 0) tNil)))) (tTk2 K) tNext) (tTk3 K)))
/-- the state: the row at r holds a, b, c -/
structure RowAt (R : Rw) (K : PySem.W.Frag) (H : Hp) (r : Addr) (a b c : Int) : Prop where
  at_ : H r = some (.lst [.ref R.scr, .int a, .int b, .int c])
  scr : SqL K H R.scr (R.xs.map V.int)
section
variable {R : Rw} {K : PySem.W.Frag} {H : Hp} {r : Addr} {a b c k : Int} {σ : L2.St} {Q : VK}
theorem rd_row (h : RowAt R K H r a b c) (hσ : σ[0]? = some (some (.ref r))) {i : Int} {v : V} (hv : L2.atI [V.ref R.scr, .int a, .int b, .int c] i = some v) (q : Q v H) : tRow K i σ H Q :=
  ⟨_, hσ, r, _, i, v, rfl, rfl, SqL.of h.at_, hv, q⟩
theorem put_row (h : RowAt R K H r a b c) (hσ : σ[0]? = some (some (.ref r))) {i z : Int} {j : Nat} {a' b' c' : Int} {G : L2.St → Hp → Prop} (hj : ixN 4 i = some j) (hs : [V.ref R.scr, .int a, .int b, .int c].set j (.int z) = [V.ref R.scr, .int a', .int b', .int c'])
    (hr : R.row = some r) (hne : (∀ G, SqL K G R.scr (R.xs.map V.int)) ∨ R.scr ≠ r) (hl : R.xs.length ≤ 63) (h0 : 0 ≤ a' ∧ 0 ≤ b' ∧ b' < 4294967296) (q : ∀ H', Le R K H H' → RowAt R K H' r a' b' c' → G σ H') : tPut i (.int z) σ H G := by
  refine ⟨_, hσ, r, [V.ref R.scr, .int a, .int b, .int c], i, j, rfl, rfl, h.at_, hj, ?_⟩
  rw [hs]
  obtain ⟨l, s⟩ := row_le (c' := c') hr h.at_ h.scr hne hl h0
  exact q _ l ⟨upd_same, s⟩
/-- its end: a number below k -/
abbrev Ends3 (R : Rw) (K : PySem.W.Frag) (H : Hp) (k : Int) (Q : VK) : Prop := ∀ d : Int, 0 ≤ d → d < k → ∀ H', Le R K H H' → Q (.int d) H'
theorem modB {x : Int} (hk : 0 < k) : 0 ≤ x % k ∧ x % k < k := ⟨Int.emod_nonneg x (by omega), Int.emod_lt_of_pos x hk⟩
theorem taken_pure {r : Addr} {σ : L2.St} (hr : R.row = some r) (hne : (∀ G, SqL K G R.scr (R.xs.map V.int)) ∨ R.scr ≠ r) (hl : R.xs.length ≤ 63) (hk : 0 < k) (hk2 : k < 1073741824) (h : RowAt R K H r a b c) (h0 : 0 ≤ a ∧ 0 ≤ b ∧ b < 4294967296)
    (hs0 : σ[0]? = some (some (.ref r))) (hs1 : σ[1]? = some (some (.int k))) (hs4 : σ.length = 4) (q : Ends3 R K H k Q) : tTaken K { nx := fun _ H' => Q .non H', rt := Q } σ H := by
  have hkn : k.natAbs < 2 ^ 40 := by
    have : (2 : Nat) ^ 40 = 1099511627776 := by decide
    omega
  have hkd : ∀ x : Int, CDivW x k := fun x => wide_div hk hkn (by decide) (by decide)
  refine rd_row h hs0 (i := 3) rfl ⟨c, 0, rfl, rfl, _, rfl, ?_⟩
  dsimp only
  by_cases hc : 0 < c
  · rw [if_pos (decide_eq_true hc)]
    refine rd_row h hs0 (i := 3) rfl (.inl ⟨c, rfl, _, hs1, c, k, rfl, rfl, hk, ?_⟩)
    have g0 : (σ.set 2 (some (V.int (c % k))))[0]? = some (some (.ref r)) := by rw [List.getElem?_set_ne (by decide)]; exact hs0
    have g1 : (σ.set 2 (some (V.int (c % k))))[1]? = some (some (.int k)) := by rw [List.getElem?_set_ne (by decide)]; exact hs1
    have g2 : (σ.set 2 (some (V.int (c % k))))[2]? = some (some (.int (c % k))) := List.getElem?_set_self (by omega)
    refine rd_row h g0 (i := 3) rfl ⟨_, g1, c, k, rfl, rfl, hkd c, ?_⟩
    refine put_row h g0 (j := 3) (a' := a) (b' := b) (c' := c / k) rfl rfl hr hne hl h0 fun H1 l1 h1 => ?_
    exact ⟨_, g2, q _ (modB hk).1 (modB hk).2 H1 l1⟩
  · rw [if_neg (by rw [decide_eq_false hc]; decide)]
    refine rd_row h hs0 (i := 1) rfl ⟨a, 1, rfl, rfl, ?_⟩
    refine put_row h hs0 (j := 1) (a' := a + 1) (b' := b) (c' := c) rfl rfl hr hne hl (by omega) fun H1 l1 h1 => ?_
    refine rd_row h1 hs0 (i := 1) rfl (rd_row h1 hs0 (i := 0) rfl ⟨R.scr, _, rfl, .inl h1.scr, a + 1, _, rfl, rfl, _, rfl, ?_⟩)
    have mb : ∀ x : Int, 0 ≤ x % 2147483647 ∧ x % 2147483647 < 4294967296 := fun x => by omega
    have hml : CMulW b 48271 := wide_mul (a := 40) (b := 20) (by
      have : (2 : Nat) ^ 40 = 1099511627776 := by decide
      omega) (by decide) (by decide) (by decide) (by decide)
    dsimp only
    by_cases hlen : (((R.xs.map V.int).length : Nat) : Int) < a + 1
    · rw [if_pos (decide_eq_true hlen)]
      refine rd_row h1 hs0 (i := 2) rfl ⟨b, 48271, rfl, rfl, hml, _, 11, rfl, rfl, .inl ⟨_, rfl, _, 2147483647, rfl, rfl, (show (0 : Int) < 2147483647 by decide), ?_⟩⟩
      refine put_row h1 hs0 (j := 2) (a' := a + 1) (b' := (b * 48271 + 11) % 2147483647) (c' := c) rfl rfl hr hne hl ⟨by omega, mb _⟩ fun H2 l2 h2 => ?_
      refine rd_row h2 hs0 (i := 2) rfl ⟨_, 7, rfl, rfl, wide_div (b := 10) (by decide) (by decide) (by decide) (by decide), .inl ⟨_, rfl, _, hs1, _, k, rfl, rfl, hk, ?_⟩⟩
      exact q _ (modB hk).1 (modB hk).2 H2 (l1.trans l2)
    · rw [if_neg (by rw [decide_eq_false hlen]; decide)]
      have hin : a.toNat < R.xs.length := by rw [List.length_map] at hlen; omega
      obtain ⟨z, hz⟩ : ∃ z, R.xs[a.toNat]? = some z := ⟨_, List.getElem?_eq_getElem hin⟩
      refine rd_row h1 hs0 (i := 0) rfl (rd_row h1 hs0 (i := 1) rfl ⟨a + 1, 1, rfl, rfl, R.scr, _, a + 1 - 1, .int z, rfl, rfl, h1.scr, ?_, ?_⟩)
      · rw [show a + 1 - 1 = ((a.toNat : Nat) : Int) by omega]
        exact L2.atI_nat (by rw [List.getElem?_map, hz]; rfl)
      have g0 : (σ.set 3 (some (V.int z)))[0]? = some (some (.ref r)) := by rw [List.getElem?_set_ne (by decide)]; exact hs0
      have g1 : (σ.set 3 (some (V.int z)))[1]? = some (some (.int k)) := by rw [List.getElem?_set_ne (by decide)]; exact hs1
      have g3 : (σ.set 3 (some (V.int z)))[3]? = some (some (.int z)) := List.getElem?_set_self (by omega)
      refine rd_row h1 g0 (i := 2) rfl ⟨b, 48271, rfl, rfl, hml, _, g3, _, z, rfl, rfl, _, 11, rfl, rfl, .inl ⟨_, rfl, _, 2147483647, rfl, rfl, (show (0 : Int) < 2147483647 by decide), ?_⟩⟩
      refine put_row h1 g0 (j := 2) (a' := a + 1) (b' := (b * 48271 + z + 11) % 2147483647) (c' := c) rfl rfl hr hne hl ⟨by omega, mb _⟩ fun H2 l2 h2 => ?_
      have l12 := l1.trans l2
      refine ⟨_, g3, 10, 18, rfl, rfl, ⟨by decide, by decide, by decide⟩, z, _, rfl, rfl, _, rfl, ?_⟩
      have fin : ∀ H3, Le R K H2 H3 → tRet (tOp rMd (tIn (tVar 3)) (tVar 1)) { nx := fun _ H' => Q .non H', rt := Q } (σ.set 3 (some (V.int z))) H3 := fun H3 l3 => by
        refine ⟨_, g3, .inl ⟨z, rfl, _, g1, z, k, rfl, rfl, hk, ?_⟩⟩
        exact q _ (modB hk).1 (modB hk).2 H3 (l12.trans l3)
      dsimp only
      split
      · refine ⟨_, g3, _, g1, z, k, rfl, rfl, hkd z, ?_⟩
        exact put_row h2 g0 (j := 3) (a' := a + 1) (b' := (b * 48271 + z + 11) % 2147483647) (c' := z / k) rfl rfl hr hne hl ⟨by omega, mb _⟩ fun H3 l3 h3 => fin H3 l3
      · exact fin H2 Le.refl
end
end G

set_option Elab.async false
set_option linter.all false
set_option maxRecDepth 100000
/-! G22: the draws' def and the law's def keep their promises; all defs of a program. -/
namespace G
open PySem PySem.Spec PyProof.Rows L2
theorem fn_taken {Y : Dyn} {nm qual : Str} {params : Arguments} {body : List Stmt} {scope : Scope} {f : Addr} {fd : FuncData} (lv : Nat) (FD : FunD Y.K nm qual params body scope [] [] f fd) (hmg : Y.mg nm = some (.ref f)) (S : FnScope ["row", "many", "found", "cell"] ["row", "many"] scope) (hb : Binds Y.K fd ["row", "many"] [])
    (hp : ∀ cdv A outer s H E, PSs (cxOf CX0 Y.P Y.w Y.K Y.mg Y.base ["row", "many", "found", "cell"] qual scope f cdv A outer s H E).nox body (tTaken Y.K)) : FnIs Y ⟨nm, ["row", "many"], lv + 1, phTaken⟩ := by
  refine ⟨f, fd, hmg, FD.kp, hb, FD.ok S (fun vs H Q E h => h.1) fun cdv A outer s H vs Q E hr h => ⟨_, PSs.nox (hp cdv A outer s H E), ?_⟩⟩
  obtain ⟨hl, R, xs, F, ri, rv, aw, k⟩ := h
  have k : (phTaken xs).wp (Kv Y R H true Q) := k
  unfold phTaken at k
  split at k
  · rename_i n
    obtain ⟨hb, k⟩ := T.wp_must k
    rw [Bool.and_eq_true, decide_eq_true_eq, decide_eq_true_eq] at hb
    obtain ⟨v, u, F1, F2, rfl, rfl, r1, r2⟩ := rv.two
    cases r2
    obtain ⟨e1, r, hr, rfl⟩ := r1
    obtain ⟨a, b, c, h1, h2, h3, h4, h5⟩ := ri.row r hr
    refine taken_pure hr h3 h4 hb.1 hb.2 ⟨h1, h2⟩ h5 rfl rfl rfl fun d d0 d1 H' l => ?_
    have kd : Kv Y R H true Q (.d (.int ((d.toNat : Nat) : Int))) := k d.toNat (by omega)
    rw [show ((d.toNat : Nat) : Int) = d by omega] at kd
    exact kd _ H' [] l (.int d) Away.nil fun _ => Uniq.nil
  · exact k.elim

/-! ### the law's def -/
/-- what is promised of it -/
def spLaw (K : PySem.W.Frag) : Sp := fun vs H Q _ => ∃ (a : Addr) (ns : List Int), vs = [.ref a] ∧ ns.length ≤ 63 ∧ SqL K H a (ns.map V.int) ∧ ∀ H', Q (.bl true) H'
/-- the slots when the row has been made -/
def enLaw (n i : Nat) : En := (List.replicate n none).set i (some ⟨1, .row⟩)
theorem fn_law {Y : Dyn} {c : Sc} {nm qual : Str} {params : Arguments} {rest : List Stmt} {scope : Scope} {f : Addr} {fd : FuncData} {m : En → T Out} {i : Nat} {x0 : Int} {p1 p2 p3 p4 p5 p6 p7 : Pos} {j1 j2 j3 : Nat} (hsc : c.sc = scope)
    (FD : FunD Y.K nm qual params (.Assign [.Name "row" p1] (.List [.Name "script" p2, .Constant (.int 0) j1 p3, .Constant (.int x0) j2 p4, .Constant (.int 0) j3 p5] p6) p7 :: rest) scope [] [] f fd) (S : FnScope c.N ["script"] scope) (dy : DynOk c Y) (hm : SSs c rest m)
    (h0 : c.N[0]? = some ("script" : Str)) (hi : c.N[i]? = some ("row" : Str)) (hi0 : i ≠ 0) (hl : locB scope "row" = true) (hv : visB scope "script" = true) (hx : 0 ≤ x0 ∧ x0 < 4294967296) (hk : (m (enLaw c.N.length i)).wp fun o => o = .rt (.d (.bool true))) :
    FnOk Y.P Y.w Y.K Y.mg Y.base CX0 (c.lv + 1) f fd ["script"] (spLaw Y.K) := by
  refine FD.ok S (fun vs H Q E h => ?_) fun cdv A outer s H vs Q E hr h => ?_
  · obtain ⟨a, ns, rfl, _⟩ := h; rfl
  · obtain ⟨a, ns, rfl, hn, hS, hQ⟩ := h
    have SX : SSx c Y (cxOf CX0 Y.P Y.w Y.K Y.mg Y.base c.N qual scope f cdv A outer s H E).nox := ⟨⟨rfl, rfl, rfl, rfl, rfl, rfl, hsc.symm, rfl, hr, S.nd, fun _ _ => .inl rfl⟩, rfl⟩
    obtain ⟨t, p, s'⟩ := hm Y _ SX dy
    refine ⟨_, PSs.nox (pss_cons (ps_set (i := i) S.nd hi (loc_of hl) (pe_lst (pa_cons (pe_var (i := 0) h0 (vis_of hv)) (pa_cons pe_int (pa_cons pe_int (pa_cons pe_int pa_nil)))))) p), ?_⟩
    have hlen : 1 ≤ c.N.length := by
      have := (List.getElem?_eq_some_iff.mp h0).1; omega
    refine ⟨.ref a, rfl, show 4 ≤ sizeLine by decide, fun r hr => ?_⟩
    show t _ ((L2.start c.N [V.ref a]).set i (some (.ref r))) (upd H r (.lst [.ref a, .int 0, .int x0, .int 0]))
    have hil : i < c.N.length := (List.getElem?_eq_some_iff.mp hi).1
    have hS1 : SqL Y.K (upd H r (.lst [.ref a, .int 0, .int x0, .int 0])) a (ns.map V.int) := by
      rcases hS with (hS | ⟨o, hS⟩) | hS
      · exact .inl (.inl (by rw [upd_ne (ne_of_none hS hr)]; exact hS))
      · exact .inl (.inr ⟨o, by rw [upd_ne (ne_of_none hS hr)]; exact hS⟩)
      · exact .inr hS
    have hne : (∀ G, SqL Y.K G a (ns.map V.int)) ∨ a ≠ r := by
      rcases hS with (hS | ⟨o, hS⟩) | hS
      · exact .inr (ne_of_none hS hr)
      · exact .inr (ne_of_none hS hr)
      · exact .inl fun _ => .inr hS
    refine s' ⟨some r, a, ns, fun _ => False, none⟩ (fun b => ∃ o, H b = some o) (enLaw c.N.length i) _ _ _ ⟨fun _ => [], ⟨fun q hq => ?_, fun _ z => z.elim⟩, fun b ⟨o, ho⟩ => ⟨o, by rw [upd_ne (ne_of_none ho hr)]; exact ho⟩, fun q _ => ?_, ?_, fun j sl h => ?_, fun j sl h hf => ?_⟩ (T.wp_mono hk fun o e => ?_)
    · have e : r = q := Option.some.inj hq
      subst e
      exact ⟨0, x0, 0, upd_same, hS1, hne, hn, Int.le_refl 0, hx⟩
    · rcases hS with (hS | ⟨o, hS⟩) | hS
      · exact .inl ⟨_, hS⟩
      · exact .inl ⟨_, hS⟩
      · exact .inr fun _ => .inr hS
    · unfold enLaw L2.start
      rw [List.length_set, List.length_set, List.length_replicate, List.length_append, List.length_map, List.length_replicate]
      show c.N.length = 1 + (c.N.length - 1)
      omega
    · unfold enLaw at h
      rcases get_set h with ⟨rfl, _, rfl⟩ | ⟨_, h⟩
      · refine ⟨⟨.ref r, List.getElem?_set_self ?_, rfl, r, rfl, rfl⟩, Away.nil⟩
        unfold L2.start
        rw [List.length_append, List.length_map, List.length_replicate]
        show j < 1 + (c.N.length - 1)
        omega
      · have := (List.mem_replicate.mp (List.mem_of_getElem? h)).2
        cases this
    · unfold enLaw at h
      rcases get_set h with ⟨_, _, rfl⟩ | ⟨_, h⟩
      · cases hf
      · have := (List.mem_replicate.mp (List.mem_of_getElem? h)).2
        cases this
    · subst e
      exact fun v H' F l r _ _ _ => by
        cases r
        exact hQ H'

/-! ### all defs -/
structure DF where
  nm : Str
  args : Arguments
  body : List Stmt
  sc : Scope
/-- what a def is worth, where its text can be read -/
def trD (Ns : List (Str × List Str)) (cons : List (Str × PyData)) (blt : List Str) (d : DF) (n : Nat) (tab : List FE) : Option FE := match Ns.lookup d.nm with
  | none => none
  | some N => match scopeB N (d.args.args.map (·.arg)) d.sc && plainP d.args with
    | true => match trB ⟨N, d.sc, N, n, tab, cons, blt⟩ d.body with
      | some x => some ⟨d.nm, d.args.args.map (·.arg), n + 1, fnV N.length x.m⟩
      | none => none
    | false => none
def build (Ns : List (Str × List Str)) (cons : List (Str × PyData)) (blt : List Str) : List DF → Nat → List FE → List FE
  | [], _, tab => tab
  | d :: ds, n, tab => match trD Ns cons blt d n tab with
    | some fe => build Ns cons blt ds (n + 1) (fe :: tab)
    | none => build Ns cons blt ds (n + 1) tab
/-- it stands in the model -/
def Stands (Y : Dyn) (d : DF) : Prop := ∃ f fd, FunD Y.K d.nm d.nm d.args d.body d.sc [] [] f fd ∧ Y.mg d.nm = some (.ref f)
theorem trD_ok {Y : Dyn} {Ns : List (Str × List Str)} {cons : List (Str × PyData)} {blt : List Str} {d : DF} {n : Nat} {tab : List FE} {fe : FE} (h : trD Ns cons blt d n tab = some fe) (st : Stands Y d) (ht : ∀ e ∈ tab, FnIs Y e) (hc : ∀ p ∈ cons, ∃ u v, Y.mg p.1 = some u ∧ RelV v u ∧ ∀ H, Rp Y.w Y.K H v p.2 []) (hb : ∀ b ∈ blt, Y.mg b = none) : FnIs Y fe := by
  unfold trD at h
  split at h
  · cases h
  · rename_i N hN
    split at h
    · rename_i hs
      rw [Bool.and_eq_true] at hs
      split at h
      · rename_i x hx
        cases h
        obtain ⟨f, fd, FD, hmg⟩ := st
        have S := scope_of hs.1
        have nd : (d.args.args.map (·.arg)).Nodup := by
          rw [← S.pre]
          exact S.nd.sublist (List.take_sublist _ _)
        have hps : (d.args.args.map (·.arg)).length ≤ N.length := by
          have := congrArg List.length S.pre
          rw [List.length_take] at this
          omega
        exact fn_is (c := ⟨N, d.sc, N, n, tab, cons, blt⟩) rfl FD hmg S (binds_of FD hs.2 nd) ⟨ht, hc, hb⟩ x.ok hps
      · cases h
    · cases h
theorem build_ok {Y : Dyn} {Ns : List (Str × List Str)} {cons : List (Str × PyData)} {blt : List Str} (hc : ∀ p ∈ cons, ∃ u v, Y.mg p.1 = some u ∧ RelV v u ∧ ∀ H, Rp Y.w Y.K H v p.2 []) (hb : ∀ b ∈ blt, Y.mg b = none) :
    ∀ {ds : List DF} {n : Nat} {tab : List FE}, (∀ d ∈ ds, Stands Y d) → (∀ e ∈ tab, FnIs Y e) → ∀ e ∈ build Ns cons blt ds n tab, FnIs Y e
  | [], _, _, _, ht => ht
  | d :: ds, n, tab, hs, ht => by
    unfold build
    split
    · rename_i fe h
      refine build_ok hc hb (fun d hd => hs d (List.mem_cons_of_mem _ hd)) fun e he => ?_
      rcases List.mem_cons.mp he with rfl | he
      · exact trD_ok h (hs d List.mem_cons_self) ht hc hb
      · exact ht e he
    · exact build_ok hc hb (fun d hd => hs d (List.mem_cons_of_mem _ hd)) ht
end G

set_option Elab.async false
set_option linter.all false
set_option maxRecDepth 100000
/-! G24: from the head's facts to the defs. -/
namespace G
open PySem PySem.Spec PyProof.Rows L2
def dfOf : Stmt → Option DF
  | .FunctionDef nm a b _ _ _ sc _ _ _ => some ⟨nm, a, b, sc⟩
  | _ => none
def deOf : Stmt → Option He.DefD
  | .FunctionDef nm a b _ _ _ sc _ _ _ => some ⟨(nm, none), nm, nm, a, b, sc, [], []⟩
  | _ => none
def faInt : Str × PyData → Option He.Fa
  | (x, .int i) => some (.int x i)
  | _ => none
def faOf (body : List Stmt) (blt : List Str) (cons : List (Str × PyData)) : List He.Fa := (body.filterMap dfOf).map (fun d => He.Fa.glo d.nm) ++ (blt.map He.Fa.free ++ cons.filterMap faInt)
/-- only whole numbers -/
def intsB : List (Str × PyData) → Bool
  | [] => true
  | (_, .int _) :: r => intsB r
  | _ :: _ => false
section
variable {K : PySem.W.Frag} {h : Heap} {mg : Str → Option Value} {body : List Stmt} {blt : List Str} {cons : List (Str × PyData)} {Y : Dyn}
theorem stands_of (X : K.In h) (Gs : h.Ns mainGlobals mg) (c : He.SaysD (faOf body blt cons) (body.filterMap deOf) K) (eK : Y.K = K) (em : Y.mg = mg) : ∀ d ∈ body.filterMap dfOf, Stands Y d := by
  subst eK em
  intro d hd
  have hg : He.Fa.glo d.nm ∈ faOf body blt cons := List.mem_append_left _ (List.mem_map.mpr ⟨d, hd, rfl⟩)
  obtain ⟨st, hst, e⟩ := List.mem_filterMap.mp hd
  cases st with
  | FunctionDef nm a b x1 x2 x3 sc x4 x5 x6 =>
    cases e
    have hd' : (⟨(nm, none), nm, nm, a, b, sc, [], []⟩ : He.DefD) ∈ body.filterMap deOf := List.mem_filterMap.mpr ⟨_, hst, rfl⟩
    obtain ⟨fd, F⟩ := c.defs hd'
    exact ⟨_, fd, F, He.glo_ok X Gs (c.facts hg)⟩
  | _ => cases e
theorem frees_of (X : K.In h) (Gs : h.Ns mainGlobals mg) (c : He.SaysD (faOf body blt cons) (body.filterMap deOf) K) : ∀ b ∈ blt, mg b = none := fun b hb =>
  He.free_ok X Gs (c.facts (List.mem_append_right _ (List.mem_append_left _ (List.mem_map.mpr ⟨b, hb, rfl⟩))))
theorem intsB_of : ∀ {cs : List (Str × PyData)}, intsB cs = true → ∀ p ∈ cs, ∃ i, p.2 = .int i
  | [], _, _, h => nomatch h
  | (x, .int i) :: r, hb, p, hp => by
    rcases List.mem_cons.mp hp with rfl | hp
    · exact ⟨i, rfl⟩
    · exact intsB_of (cs := r) hb p hp
  | (_, .none) :: _, hb, _, _ => nomatch hb
  | (_, .bool _) :: _, hb, _, _ => nomatch hb
  | (_, .str _) :: _, hb, _, _ => nomatch hb
  | (_, .list _) :: _, hb, _, _ => nomatch hb
  | (_, .tuple _) :: _, hb, _, _ => nomatch hb
  | (_, .dict _) :: _, hb, _, _ => nomatch hb
theorem cons_of (X : K.In h) (Gs : h.Ns mainGlobals mg) (c : He.SaysD (faOf body blt cons) (body.filterMap deOf) K) (hi : intsB cons = true) (w : World) : ∀ p ∈ cons, ∃ u v, mg p.1 = some u ∧ RelV v u ∧ ∀ H, Rp w K H v p.2 [] := fun p hp => by
  obtain ⟨i, e⟩ := intsB_of hi p hp
  have hm : He.Fa.int p.1 i ∈ faOf body blt cons := List.mem_append_right _ (List.mem_append_right _ (List.mem_filterMap.mpr ⟨p, hp, by obtain ⟨x, d⟩ := p; cases e; rfl⟩))
  obtain ⟨t, ht⟩ := He.int_ok X Gs (c.facts hm)
  exact ⟨_, .int i, ht, ⟨t, rfl⟩, fun H => by rw [e]; exact .int i⟩
end
end G

set_option Elab.async false
set_option linter.all false
set_option maxRecDepth 100000
/-! G25: cuts in a law, all draws tried. -/
namespace G
open PySem PySem.Spec PyProof.Rows L2

/-! ### a cut: from here on only the row of the draws is known -/
def mCutR (i : Nat) (m : En → T Out) : En → T Out := fun en => match en[i]? with
  | some (some ⟨1, .row⟩) => m (enLaw en.length i)
  | _ => .fail
theorem sss_cut {c : Sc} {sts : List Stmt} {m : En → T Out} (i : Nat) (h : SSs c sts m) : SSs c sts (mCutR i m) := by
  intro Y X sx dy
  obtain ⟨t, p, s⟩ := h Y X sx dy
  refine ⟨t, p, fun R P en σ H D rel k => ?_⟩
  unfold mCutR at k
  split at k
  · rename_i hi
    obtain ⟨Fs, rel⟩ := rel
    refine s R P _ σ H D ⟨Fs, rel.ri, rel.live, rel.scr, ?_, fun j sl hs => ?_, fun j sl hs hf => ?_⟩ k
    · unfold enLaw
      rw [List.length_set, List.length_replicate]
      exact rel.len
    · unfold enLaw at hs
      rcases get_set hs with ⟨rfl, _, rfl⟩ | ⟨_, hs⟩
      · exact rel.at_ j _ hi
      · cases (List.mem_replicate.mp (List.mem_of_getElem? hs)).2
    · unfold enLaw at hs
      rcases get_set hs with ⟨rfl, _, rfl⟩ | ⟨_, hs⟩
      · cases hf
      · cases (List.mem_replicate.mp (List.mem_of_getElem? hs)).2
  · exact k.elim
def mNx : En → T Out := fun en => .ret (.nx en)
def nest : List (En → T Out) → (En → T Out) → En → T Out
  | [], t => t
  | s :: ss, t => mSeq s (nest ss t)
theorem nest_wp : ∀ (ss : List (En → T Out)) (tl : En → T Out) (en : En) (K : Out → Prop), (nest ss mNx en).wp (fun o => (bindO o tl).wp K) → (nest ss tl en).wp K
  | [], tl, en, K, h => h
  | s :: ss, tl, en, K, h => by
    refine (T.wp_bind _ _ _).mpr (T.wp_mono ((T.wp_bind _ _ _).mp h) fun o ho => ?_)
    cases o with
    | nx en' => exact nest_wp ss tl en' K ho
    | bk en' => exact ho
    | ct en' => exact ho
    | rt x => exact ho
/-- the block's text read with cuts ahead of some statements -/
def cutsR {c : Sc} (f : (st : Stmt) → Option (RS c st)) (i : Nat) (ks : List Nat) : Nat → (sts : List Stmt) → Option (RSs c sts)
  | _, [] => some ⟨_, sss_nil⟩
  | n, s :: ss => match f s, cutsR f i ks (n + 1) ss with
    | some a, some b => match ks.any (Nat.beq n) with
      | true => some ⟨_, sss_cut i (sss_cons a.ok b.ok)⟩
      | false => some ⟨_, sss_cons a.ok b.ok⟩
    | _, _ => none
def trCuts (c : Sc) (i : Nat) (ks : List Nat) (b : List Stmt) : Option (RSs c b) := cutsR (trS (trN 24) c 12) i ks 0 b

/-! ### all draws -/
namespace T
def upTo : Nat → (Nat → Bool) → Bool
  | 0, _ => true
  | n + 1, p => upTo n p && p n
theorem upTo_of {p : Nat → Bool} : ∀ {n : Nat}, upTo n p = true → ∀ d, d < n → p d = true
  | 0, _, d, h => absurd h (Nat.not_lt_zero d)
  | n + 1, h, d, hd => by
    unfold upTo at h
    rw [Bool.and_eq_true] at h
    rcases Nat.lt_succ_iff_lt_or_eq.mp hd with hd | rfl
    · exact upTo_of h.1 d hd
    · exact h.2
def all {α : Type} (p : α → Bool) : T α → Bool
  | .ret a => p a
  | .fail => false
  | .draw k f => upTo k fun d => all p (f d)
theorem all_wp {α : Type} {p : α → Bool} : ∀ {t : T α}, all p t = true → t.wp fun a => p a = true
  | .ret _, h => h
  | .fail, h => nomatch h
  | .draw k f, h => fun d hd => all_wp (upTo_of h d hd)
/-- the first draw is of so many -/
def dk {α : Type} : T α → Nat
  | .draw k _ => k
  | _ => 0
def at_ {α : Type} : T α → Nat → T α
  | .draw _ f, d => f d
  | t, _ => t
theorem wp_at {α : Type} {t : T α} {k : Nat} {K : α → Prop} (hk : Nat.beq t.dk (k + 1) = true) (h : ∀ d, d < k + 1 → (t.at_ d).wp K) : t.wp K := by
  have hk := Nat.eq_of_beq_eq_true hk
  cases t with
  | ret a => cases hk
  | fail => cases hk
  | draw j f =>
    cases (show j = k + 1 from hk)
    exact h
end T
def isTrue : Out → Bool
  | .rt (.d (.bool true)) => true
  | _ => false
theorem isTrue_of {o : Out} (h : isTrue o = true) : o = .rt (.d (.bool true)) := by
  unfold isTrue at h
  split at h
  · rfl
  · cases h
/-- at the cut: the row is known, or the law is done -/
def isCut (n i : Nat) : Out → Bool
  | .nx en => Nat.beq en.length n && (match en[i]? with
    | some (some ⟨1, .row⟩) => true
    | _ => false)
  | o => isTrue o
theorem cut_wp {n i : Nat} {ss : List (En → T Out)} {m : En → T Out} {en : En} (h1 : (nest ss mNx en).wp fun o => isCut n i o = true) (h2 : (m (enLaw n i)).wp fun o => o = .rt (.d (.bool true))) :
    (nest ss (mCutR i m) en).wp fun o => o = .rt (.d (.bool true)) := by
  refine nest_wp _ _ _ _ (T.wp_mono h1 fun o ho => ?_)
  unfold isCut at ho
  split at ho
  · rename_i en'
    rw [Bool.and_eq_true] at ho
    have hl := Nat.eq_of_beq_eq_true ho.1
    have hr := ho.2
    show (mCutR i m en').wp _
    unfold mCutR
    split at hr
    · rw [hl]
      exact h2
    · cases hr
  · cases o with
    | nx en' => rename_i hne; exact absurd rfl (hne en')
    | bk en' => cases ho
    | ct en' => cases ho
    | rt x => exact isTrue_of ho
theorem true_wp {t : T Out} (h : t.wp fun o => isTrue o = true) : t.wp fun o => o = .rt (.d (.bool true)) := T.wp_mono h fun _ => isTrue_of

/-! ### tables of defs step by step -/
theorem tb_step {Y : Dyn} {Ns : List (Str × List Str)} {cons : List (Str × PyData)} {blt : List Str} {d : DF} {n : Nat} {tab : List FE} {fe : FE} (h : trD Ns cons blt d n tab = some fe) (st : Stands Y d) (ht : ∀ e ∈ tab, FnIs Y e) (hc : ∀ p ∈ cons, ∃ u v, Y.mg p.1 = some u ∧ RelV v u ∧ ∀ H, Rp Y.w Y.K H v p.2 []) (hb : ∀ b ∈ blt, Y.mg b = none) : ∀ e ∈ fe :: tab, FnIs Y e := fun e he => by
  rcases List.mem_cons.mp he with rfl | he
  · exact trD_ok h st ht hc hb
  · exact ht e he
end G

set_option Elab.async false
set_option linter.all false
set_option maxRecDepth 100000
/-! G26: cuts at which the names' values are known. -/
namespace G
open PySem PySem.Spec PyProof.Rows L2
mutual
def beqD : PyData → PyData → Bool
  | .none, .none => true
  | .bool a, .bool b => a == b
  | .int a, .int b => decide (a = b)
  | .str a, .str b => decide (a = b)
  | .list xs, .list ys => beqL xs ys
  | .tuple xs, .tuple ys => beqL xs ys
  | _, _ => false
def beqL : List PyData → List PyData → Bool
  | [], [] => true
  | x :: xs, y :: ys => beqD x y && beqL xs ys
  | _, _ => false
end
mutual
theorem beqD_eq : ∀ {x y : PyData}, beqD x y = true → x = y
  | .none, y, h => by cases y <;> simp [beqD] at h ⊢
  | .bool a, y, h => by cases y <;> simp [beqD] at h ⊢; exact h
  | .int a, y, h => by cases y <;> simp [beqD] at h ⊢; exact h
  | .str a, y, h => by cases y <;> simp [beqD] at h ⊢; exact h
  | .list xs, y, h => by cases y <;> simp [beqD] at h ⊢; exact beqL_eq h
  | .tuple xs, y, h => by cases y <;> simp [beqD] at h ⊢; exact beqL_eq h
  | .dict xs, y, h => by cases y <;> simp [beqD] at h
theorem beqL_eq : ∀ {xs ys : List PyData}, beqL xs ys = true → xs = ys
  | [], ys, h => by cases ys <;> simp [beqL] at h ⊢
  | x :: xs, ys, h => by
    cases ys with
    | nil => simp [beqL] at h
    | cons y ys =>
      simp [beqL] at h
      rw [beqD_eq h.1, beqL_eq h.2]
end
def beqW : W → W → Bool
  | .row, .row => true
  | .d x, .d y => beqD x y
  | _, _ => false
theorem beqW_eq : ∀ {x y : W}, beqW x y = true → x = y
  | .row, y, h => by cases y <;> simp [beqW] at h ⊢
  | .d x, y, h => by cases y <;> simp [beqW] at h ⊢; exact beqD_eq h
  | .lk k, y, h => by cases y <;> simp [beqW] at h
/-- en knows what e0 says (all of e0 marked shared) -/
def matchO : Option Slot → Option Slot → Bool
  | _, none => true
  | some s, some ⟨1, w⟩ => beqW s.w w
  | _, _ => false
def matchE : En → En → Bool
  | [], [] => true
  | s :: en, t :: e0 => matchE en e0 && matchO s t
  | _, _ => false
theorem matchE_len : ∀ {en e0 : En}, matchE en e0 = true → e0.length = en.length
  | [], [], _ => rfl
  | s :: en, t :: e0, h => by
    unfold matchE at h
    rw [Bool.and_eq_true] at h
    rw [List.length_cons, List.length_cons, matchE_len h.1]
theorem matchE_get : ∀ {en e0 : En} {i : Nat} {t : Slot}, matchE en e0 = true → e0[i]? = some (some t) → ∃ s, en[i]? = some (some s) ∧ s.w = t.w ∧ t.fl = 1
  | [], [], _, _, _, h => by cases h
  | s :: en, u :: e0, 0, t, hm, h => by
    cases h
    unfold matchE at hm
    rw [Bool.and_eq_true] at hm
    have h1 := hm.2
    unfold matchO at h1
    split at h1
    · rename_i hx; cases hx
    · rename_i hx
      cases hx
      exact ⟨_, rfl, beqW_eq h1, rfl⟩
    · cases h1
  | s :: en, u :: e0, i + 1, t, hm, h => by
    unfold matchE at hm
    rw [Bool.and_eq_true] at hm
    exact matchE_get (i := i) hm.1 h
def mCutS (es : List En) (m : En → T Out) : En → T Out := fun en => match es.find? (matchE en) with
  | some e0 => m e0
  | none => .fail
theorem sss_cutS {c : Sc} {sts : List Stmt} {m : En → T Out} (es : List En) (h : SSs c sts m) : SSs c sts (mCutS es m) := by
  intro Y X sx dy
  obtain ⟨t, p, s⟩ := h Y X sx dy
  refine ⟨t, p, fun R P en σ H D rel k => ?_⟩
  unfold mCutS at k
  split at k
  · rename_i e0 he
    have hm := List.find?_some he
    obtain ⟨Fs, rel⟩ := rel
    refine s R P _ σ H D ⟨Fs, rel.ri, rel.live, rel.scr, ?_, fun j sl hs => ?_, fun j sl hs hf => ?_⟩ k
    · rw [matchE_len hm]; exact rel.len
    · obtain ⟨s', h1, h2, _⟩ := matchE_get hm hs
      obtain ⟨⟨v, e1, rv⟩, aw⟩ := rel.at_ j s' h1
      rw [h2] at rv
      exact ⟨⟨v, e1, rv⟩, aw⟩
    · obtain ⟨s', h1, h2, h3⟩ := matchE_get hm hs
      rw [hf] at h3; cases h3
  · exact k.elim
def isCutS (es : List En) : Out → Bool
  | .nx en => (es.find? (matchE en)).isSome
  | o => isTrue o
theorem cutS_wp {es : List En} {ss : List (En → T Out)} {m : En → T Out} {en : En} (h1 : (nest ss mNx en).wp fun o => isCutS es o = true) (h2 : ∀ e0 ∈ es, (m e0).wp fun o => o = .rt (.d (.bool true))) :
    (nest ss (mCutS es m) en).wp fun o => o = .rt (.d (.bool true)) := by
  refine nest_wp _ _ _ _ (T.wp_mono h1 fun o ho => ?_)
  cases o with
  | nx en' =>
    have ho : (es.find? (matchE en')).isSome = true := ho
    show (mCutS es m en').wp _
    unfold mCutS
    cases he : es.find? (matchE en') with
    | none => rw [he] at ho; cases ho
    | some e0 => exact h2 e0 (List.mem_of_find?_eq_some he)
  | bk en' => cases ho
  | ct en' => cases ho
  | rt x => exact isTrue_of ho
/-! ### a cut at which the known values are picked by a function -/
def mCutP (pk : En → Option En) (m : En → T Out) : En → T Out := fun en => match pk en with
  | some e0 => match matchE en e0 with
    | true => m e0
    | false => .fail
  | none => .fail
theorem sss_cutP {c : Sc} {sts : List Stmt} {m : En → T Out} (pk : En → Option En) (h : SSs c sts m) : SSs c sts (mCutP pk m) := by
  intro Y X sx dy
  obtain ⟨t, p, s⟩ := h Y X sx dy
  refine ⟨t, p, fun R P en σ H D rel k => ?_⟩
  unfold mCutP at k
  split at k
  · rename_i e0 he
    split at k
    · rename_i hm
      obtain ⟨Fs, rel⟩ := rel
      refine s R P _ σ H D ⟨Fs, rel.ri, rel.live, rel.scr, ?_, fun j sl hs => ?_, fun j sl hs hf => ?_⟩ k
      · rw [matchE_len hm]; exact rel.len
      · obtain ⟨s', h1, h2, _⟩ := matchE_get hm hs
        obtain ⟨⟨v, e1, rv⟩, aw⟩ := rel.at_ j s' h1
        rw [h2] at rv
        exact ⟨⟨v, e1, rv⟩, aw⟩
      · obtain ⟨s', h1, h2, h3⟩ := matchE_get hm hs
        rw [hf] at h3; cases h3
    · exact k.elim
  · exact k.elim
def isCutP (pk : En → Option En) : Out → Bool
  | .nx en => match pk en with
    | some e0 => matchE en e0
    | none => false
  | o => isTrue o
theorem cutP_wp {pk : En → Option En} {ss : List (En → T Out)} {m : En → T Out} {en : En} (h1 : (nest ss mNx en).wp fun o => isCutP pk o = true) (h2 : ∀ en e0, pk en = some e0 → (m e0).wp fun o => o = .rt (.d (.bool true))) :
    (nest ss (mCutP pk m) en).wp fun o => o = .rt (.d (.bool true)) := by
  refine nest_wp _ _ _ _ (T.wp_mono h1 fun o ho => ?_)
  cases o with
  | nx en' =>
    have ho : (match pk en' with | some e0 => matchE en' e0 | none => false) = true := ho
    show (mCutP pk m en').wp _
    unfold mCutP
    cases he : pk en' with
    | none => rw [he] at ho; cases ho
    | some e0 =>
      rw [he] at ho
      have ho : matchE en' e0 = true := ho
      show (match matchE en' e0 with | true => m e0 | false => T.fail).wp _
      rw [ho]
      exact h2 _ _ he
  | bk en' => cases ho
  | ct en' => cases ho
  | rt x => exact isTrue_of ho
def pk1 (es : List En) : En → Option En := fun en => es.find? (matchE en)
theorem pk1_of {es : List En} {Q : En → Prop} (h : ∀ e ∈ es, Q e) : ∀ en e0, pk1 es en = some e0 → Q e0 := fun en e0 he => h e0 (List.mem_of_find?_eq_some he)
def findW {α : Type} : W → List (W × α) → Option α
  | _, [] => none
  | w, (x, a) :: r => match beqW w x with
    | true => some a
    | false => findW w r
theorem findW_mem {α : Type} {w : W} {a : α} : ∀ {l : List (W × α)}, findW w l = some a → ∃ p ∈ l, p.2 = a
  | [], h => nomatch h
  | (x, b) :: r, h => by
    unfold findW at h
    split at h
    · cases h; exact ⟨_, List.mem_cons_self, rfl⟩
    · obtain ⟨p, hp, e⟩ := findW_mem h
      exact ⟨p, List.mem_cons_of_mem _ hp, e⟩
def slotW (en : En) (i : Nat) : W := match en[i]? with
  | some (some s) => s.w
  | _ => .row
/-- by the values of two names -/
def pk2 (i j : Nat) (t : List (W × List (W × En))) : En → Option En := fun en => match findW (slotW en i) t with
  | some r => findW (slotW en j) r
  | none => none
theorem pk2_of {i j : Nat} {t : List (W × List (W × En))} {Q : En → Prop} (h : ∀ p ∈ t, ∀ q ∈ p.2, Q q.2) : ∀ en e0, pk2 i j t en = some e0 → Q e0 := fun en e0 he => by
  unfold pk2 at he
  split at he
  · rename_i r hr
    obtain ⟨p, hp, rfl⟩ := findW_mem hr
    obtain ⟨q, hq, rfl⟩ := findW_mem he
    exact h p hp q hq
  · cases he
/-- the same, hidden from the elaborator's unfolding -/
structure Wp {α : Type} (t : T α) (K : α → Prop) : Prop where
  out : t.wp K
theorem Wp.all {α : Type} {p : α → Bool} {t : T α} (h : T.all p t = true) : Wp t fun a => p a = true := ⟨T.all_wp h⟩
theorem Wp.at_ {α : Type} {t : T α} {n : Nat} {K : α → Prop} (h : Nat.beq (T.dk t) (n + 1) = true) (f : ∀ d, d < n + 1 → Wp (T.at_ t d) K) : Wp t K := ⟨T.wp_at h fun d hd => (f d hd).out⟩
theorem ltz {Q : Nat → Prop} : ∀ d, d < 0 → Q d := fun d h => absurd h (Nat.not_lt_zero d)
theorem lts {Q : Nat → Prop} {n : Nat} (h : ∀ d, d < n → Q d) (q : Q n) : ∀ d, d < n + 1 → Q d := fun d hd => by
  rcases Nat.lt_succ_iff_lt_or_eq.mp hd with hd | rfl
  · exact h d hd
  · exact q
theorem Wp.tru {t : T Out} (h : Wp t fun o => isTrue o = true) : Wp t fun o => o = .rt (.d (.bool true)) := ⟨T.wp_mono h.out fun o ho => isTrue_of ho⟩
theorem Wp.cut {pk : En → Option En} {ss : List (En → T Out)} {m : En → T Out} {en : En} (h1 : Wp (nest ss mNx en) fun o => isCutP pk o = true) (h2 : ∀ en e0, pk en = some e0 → Wp (m e0) fun o => o = .rt (.d (.bool true))) :
    Wp (nest ss (mCutP pk m) en) fun o => o = .rt (.d (.bool true)) := ⟨cutP_wp h1.out fun en e0 h => (h2 en e0 h).out⟩
/-- cuts of both kinds -/
def cutsX {c : Sc} (f : (st : Stmt) → Option (RS c st)) (i : Nat) (ks : List (Nat × Option (En → Option En))) : Nat → (sts : List Stmt) → Option (RSs c sts)
  | _, [] => some ⟨_, sss_nil⟩
  | n, s :: ss => match f s, cutsX f i ks (n + 1) ss with
    | some a, some b => match ks.find? (fun p => Nat.beq p.1 n) with
      | some (_, none) => some ⟨_, sss_cut i (sss_cons a.ok b.ok)⟩
      | some (_, some pk) => some ⟨_, sss_cutP pk (sss_cons a.ok b.ok)⟩
      | none => some ⟨_, sss_cons a.ok b.ok⟩
    | _, _ => none
def trCutX (c : Sc) (i : Nat) (ks : List (Nat × Option (En → Option En))) (b : List Stmt) : Option (RSs c b) := cutsX (trS (trN 24) c 12) i ks 0 b
end G

set_option Elab.async false
set_option linter.all false
set_option maxRecDepth 100000
/-! the texts of this law's program: names, constants, order -/
namespace G
open PySem PySem.Spec PyProof.Rows L2
def Ns : List (Str × List Str) := ([(("is_integer" : Str), (["value"] : List Str)), (("is_in" : Str), (["value", "least", "most"] : List Str)), (("is_list" : Str), (["value", "least", "most"] : List Str)), (("need_web" : Str), (["web", "houses", "index", "near", "other"] : List Str)), (("need_house" : Str), (["web", "house"] : List Str)), (("roads_in" : Str), (["web", "found", "one", "other"] : List Str)), (("roads" : Str), (["web"] : List Str)), (("neighbours" : Str), (["web", "house"] : List Str)), (("need_places" : Str), (["web", "where"] : List Str)), (("need_where" : Str), (["web", "where", "index", "house"] : List Str)), (("need_guest" : Str), (["where", "guest"] : List Str)), (("everywhere" : Str), (["web"] : List Str)), (("used" : Str), (["where"] : List Str)), (("in_use" : Str), (["web", "where"] : List Str)), (("need_calls" : Str), (["web", "calls", "index", "house"] : List Str)), (("call_in" : Str), (["web", "where", "house", "there"] : List Str)), (("call" : Str), (["web", "where", "house"] : List Str)), (("movers_in" : Str), (["web", "where", "house", "there"] : List Str)), (("movers" : Str), (["web", "where"] : List Str)), (("story_in" : Str), (["web", "where", "calls", "found", "house"] : List Str))] : List (Str × List Str)) ++ ([(("after" : Str), (["web", "where", "calls"] : List Str)), (("story" : Str), (["web", "where", "calls"] : List Str)), (("still_calls" : Str), (["web", "where", "calls", "states", "found", "at"] : List Str)), (("drawn" : Str), (["web", "where", "calls", "states", "found", "at", "guest"] : List Str)), (("way_of" : Str), (["web", "where", "calls", "guest", "found", "here"] : List Str)), (("moves" : Str), (["web", "where", "calls", "states", "found", "at", "guest"] : List Str)), (("seen_houses" : Str), (["web", "where", "calls", "guest", "here"] : List Str)), (("seen_by_all" : Str), (["web", "where", "calls", "states", "found", "house", "here", "guest"] : List Str)), (("longest_stay" : Str), (["web", "where", "calls", "guest", "best", "many", "here", "house", "there"] : List Str)), (("shared" : Str), (["one", "other"] : List Str)), (("ratio" : Str), (["top", "low", "part"] : List Str)), (("drawing_chance" : Str), (["web", "where"] : List Str)), (("mean_drawn" : Str), (["web", "where", "house"] : List Str)), (("_law_taken" : Str), (["row", "many", "found", "cell"] : List Str)), (("_law_gcd" : Str), (["one", "other"] : List Str)), (("_law_lowest" : Str), (["numerator", "denominator", "common"] : List Str)), (("_law_by" : Str), (["many", "couples", "found", "one", "other", "person", "own"] : List Str)), (("_law_web" : Str), (["row", "most", "many", "couples", "rare", "one", "other"] : List Str)), (("_law_row" : Str), (["row", "web", "most", "turn"] : List Str)), (("_law_put" : Str), (["row", "web", "most", "guest"] : List Str))] : List (Str × List Str)) ++ ([(("law" : Str), (["script", "row", "web", "where", "calls", "gone", "counts", "guest", "way", "stay", "some", "at", "rest", "total", "near", "spot", "house"] : List Str))] : List (Str × List Str))
def blt : List Str := ([("ValueError" : Str), ("abs" : Str), ("all" : Str), ("any" : Str), ("bool" : Str), ("enumerate" : Str), ("int" : Str), ("isinstance" : Str), ("len" : Str), ("list" : Str), ("max" : Str), ("range" : Str), ("set" : Str), ("sorted" : Str), ("sum" : Str), ("super" : Str), ("tuple" : Str)] : List (Str))
def cons : List (Str × PyData) := ([(("MOST_HOUSES" : Str), (.int (6) : PyData)), (("MOST_GUESTS" : Str), (.int (6) : PyData)), (("MOST_CALLS" : Str), (.int (60) : PyData))] : List (Str × PyData))
def ord : List Str := (["is_integer", "is_in", "is_list", "need_web", "need_house", "roads_in", "roads", "neighbours", "need_where", "need_places", "need_guest", "everywhere", "used", "in_use", "need_calls", "call_in", "call", "movers_in", "movers", "story_in"] : List (Str)) ++ (["after", "story", "still_calls", "drawn", "way_of", "moves", "seen_houses", "seen_by_all", "longest_stay", "shared", "ratio", "drawing_chance", "mean_drawn", "_law_gcd", "_law_lowest", "_law_by", "_law_web", "_law_row", "_law_put"] : List (Str))
abbrev bodyP : List Stmt := PySem.Challenge.pw_gatherers_k76_whole_drawn_guests.main.body
def dfs : List DF := bodyP.filterMap dfOf
def dord : List DF := ord.filterMap fun n => dfs.find? fun d => d.nm == n
abbrev sTaken : Stmt := bodyP.getD 51 (.Pass ⟨0, 0, 0, 0⟩)
abbrev sLaw : Stmt := bodyP.getD 58 (.Pass ⟨0, 0, 0, 0⟩)
abbrev lvL : Nat := 43
def NL : List Str := ["script", "row", "web", "where", "calls", "gone", "counts", "guest", "way", "stay", "some", "at", "rest", "total", "near", "spot", "house"]
end G
namespace G
open PySem PySem.Spec PyProof.Rows L2
def dAt (n : Nat) : DF := match dord[n]? with
  | some d => d
  | none => ⟨"", defArgs sTaken, [], defScope sTaken⟩
def tb0 : List FE := [⟨"_law_taken", ["row", "many"], 1, phTaken⟩]
def ph_is_integer : List W → T W := fnV 1 (mSeq (mRet (mAnd (m1 (oIs PyData.isInt) (mVar 0)) (m1 oNot (m1 (oIs PyData.isBool) (mVar 0)))))
  (fun en => .ret (.nx en)))
def tb1 : List FE := ⟨"is_integer", ["value"], 2, ph_is_integer⟩ :: tb0
theorem bd0 : trD Ns cons blt (dAt 0) 1 tb0 = some ⟨"is_integer", ["value"], 2, ph_is_integer⟩ := by kernel_rfl
def ph_is_in : List W → T W := fnV 3 (mSeq (mRet (mAnd (mCall (fun xs => T.must (Nat.beq xs.length 1) (ph_is_integer xs)) (mCons (mVar 0) mNil)) (mChain (oDD pLt fLe) (oDD pLt fLe) (mVar 1) (mVar 0) (mVar 2))))
  (fun en => .ret (.nx en)))
def tb2 : List FE := ⟨"is_in", ["value", "least", "most"], 3, ph_is_in⟩ :: tb1
theorem bd1 : trD Ns cons blt (dAt 1) 2 tb1 = some ⟨"is_in", ["value", "least", "most"], 3, ph_is_in⟩ := by kernel_rfl
def ph_is_list : List W → T W := fnV 3 (mSeq (mRet (mAnd (m1 (oIs PyData.isTuple) (mVar 0)) (mChain (oDD pLt fLe) (oDD pLt fLe) (mVar 1) (mArgs (o1 oLenX) (mCons (mVar 0) mNil)) (mVar 2))))
  (fun en => .ret (.nx en)))
def tb3 : List FE := ⟨"is_list", ["value", "least", "most"], 4, ph_is_list⟩ :: tb2
theorem bd2 : trD Ns cons blt (dAt 2) 3 tb2 = some ⟨"is_list", ["value", "least", "most"], 4, ph_is_list⟩ := by kernel_rfl
def ph_need_web : List W → T W := fnV 5 (mSeq (mIfS (tNotM (mT (mCall (fun xs => T.must (Nat.beq xs.length 3) (ph_is_list xs)) (mCons (mVar 0) (mCons (mC (.int (1))) (mCons (mC (.int (6))) mNil)))))) (mSeq (fun _ => .fail)
  (fun en => .ret (.nx en))) (fun en => .ret (.nx en)))
  (mSeq (mSet 1 (mArgs (o1 oLenX) (mCons (mVar 0) mNil)))
  (mSeq (mFor [0] (fun en => ((mCons (mVar 0) mNil) en).bind enumOf) (gTupM 2 (gsCons (fun x => .ret [(2, x)]) (gsCons (fun x => .ret [(3, x)]) gsNil))) (mSeq (mIfS (tOrM (tNotM (mT (mCall (fun xs => T.must (Nat.beq xs.length 3) (ph_is_list xs)) (mCons (mVar 3) (mCons (mC (.int (0))) (mCons (m2 oSub (mVar 1) (mC (.int (1)))) mNil)))))) (tNotM (mT (mArgs (o1 oAll) (mCons (mLC (fun en => ((mVar 3) en).bind itemsOf) (fun x => .ret [(4, x)]) [4] (fun _ => .ret true) (mCall (fun xs => T.must (Nat.beq xs.length 3) (ph_is_in xs)) (mCons (mVar 4) (mCons (mC (.int (0))) (mCons (m2 oSub (mVar 1) (mC (.int (1)))) mNil))))) mNil))))) (mSeq (fun _ => .fail)
  (fun en => .ret (.nx en))) (fun en => .ret (.nx en)))
  (mSeq (mIfS (tOrM (mT (m2 (oDD pAny fNe) (mArgs (o1 oListX) (mCons (mVar 3) mNil)) (m1 oSortSetX (mVar 3)))) (mT (m2 (oInX false) (mVar 2) (mVar 3)))) (mSeq (fun _ => .fail)
  (fun en => .ret (.nx en))) (fun en => .ret (.nx en)))
  (fun en => .ret (.nx en)))))
  (mSeq (mFor [0] (fun en => ((mCons (mVar 0) mNil) en).bind enumOf) (gTupM 2 (gsCons (fun x => .ret [(2, x)]) (gsCons (fun x => .ret [(3, x)]) gsNil))) (mSeq (mIfS (mT (mArgs (o1 oAny) (mCons (mLC (fun en => ((mVar 3) en).bind itemsOf) (fun x => .ret [(4, x)]) [4] (fun _ => .ret true) (m2 (oInX true) (mVar 2) (m2 oGet (mVar 0) (mVar 4)))) mNil))) (mSeq (fun _ => .fail)
  (fun en => .ret (.nx en))) (fun en => .ret (.nx en)))
  (fun en => .ret (.nx en))))
  (fun en => .ret (.nx en))))))
def tb4 : List FE := ⟨"need_web", ["web"], 5, ph_need_web⟩ :: tb3
theorem bd3 : trD Ns cons blt (dAt 3) 4 tb3 = some ⟨"need_web", ["web"], 5, ph_need_web⟩ := by kernel_rfl
def ph_need_house : List W → T W := fnV 2 (mSeq (mIfS (tNotM (mT (mCall (fun xs => T.must (Nat.beq xs.length 3) (ph_is_in xs)) (mCons (mVar 1) (mCons (mC (.int (0))) (mCons (m2 oSub (mArgs (o1 oLenX) (mCons (mVar 0) mNil)) (mC (.int (1)))) mNil)))))) (mSeq (fun _ => .fail)
  (fun en => .ret (.nx en))) (fun en => .ret (.nx en)))
  (fun en => .ret (.nx en)))
def tb5 : List FE := ⟨"need_house", ["web", "house"], 6, ph_need_house⟩ :: tb4
theorem bd4 : trD Ns cons blt (dAt 4) 5 tb4 = some ⟨"need_house", ["web", "house"], 6, ph_need_house⟩ := by kernel_rfl
def ph_roads_in : List W → T W := fnV 4 (mSeq (mSet 1 (mLst mNil))
  (mSeq (mFor0 (fun en => ((mCons (mArgs (o1 oLenX) (mCons (mVar 0) mNil)) mNil) en).bind rng1) (fun x => .ret [(2, x)]) (mSeq (mFor [0, 2] (fun en => ((m2 oGet (mVar 0) (mVar 2)) en).bind itemsOf) (fun x => .ret [(3, x)]) (mSeq (mIfS (mT (m2 (oDD pLt ltD) (mVar 2) (mVar 3))) (mSeq (mApp 1 (mImm (mTup (mCons (mVar 2) (mCons (mVar 3) mNil)))))
  (fun en => .ret (.nx en))) (fun en => .ret (.nx en)))
  (fun en => .ret (.nx en))))
  (fun en => .ret (.nx en))))
  (mSeq (mRetV 1)
  (fun en => .ret (.nx en)))))
def tb6 : List FE := ⟨"roads_in", ["web"], 7, ph_roads_in⟩ :: tb5
theorem bd5 : trD Ns cons blt (dAt 5) 6 tb5 = some ⟨"roads_in", ["web"], 7, ph_roads_in⟩ := by kernel_rfl
def ph_roads : List W → T W := fnV 1 (mSeq (mDrop (mCall (fun xs => T.must (Nat.beq xs.length 1) (ph_need_web xs)) (mCons (mVar 0) mNil)))
  (mSeq (mRet (mArgs (o1 oTuple) (mCons (mCall (fun xs => T.must (Nat.beq xs.length 1) (ph_roads_in xs)) (mCons (mVar 0) mNil)) mNil)))
  (fun en => .ret (.nx en))))
def tb7 : List FE := ⟨"roads", ["web"], 8, ph_roads⟩ :: tb6
theorem bd6 : trD Ns cons blt (dAt 6) 7 tb6 = some ⟨"roads", ["web"], 8, ph_roads⟩ := by kernel_rfl
def ph_neighbours : List W → T W := fnV 2 (mSeq (mDrop (mCall (fun xs => T.must (Nat.beq xs.length 1) (ph_need_web xs)) (mCons (mVar 0) mNil)))
  (mSeq (mDrop (mCall (fun xs => T.must (Nat.beq xs.length 2) (ph_need_house xs)) (mCons (mVar 0) (mCons (mVar 1) mNil))))
  (mSeq (mRet (mImm (m2 oGet (mVar 0) (mVar 1))))
  (fun en => .ret (.nx en)))))
def tb8 : List FE := ⟨"neighbours", ["web", "house"], 9, ph_neighbours⟩ :: tb7
theorem bd7 : trD Ns cons blt (dAt 7) 8 tb7 = some ⟨"neighbours", ["web", "house"], 9, ph_neighbours⟩ := by kernel_rfl
def ph_need_where : List W → T W := fnV 4 (mSeq (mIfS (tNotM (mT (mCall (fun xs => T.must (Nat.beq xs.length 3) (ph_is_list xs)) (mCons (mVar 1) (mCons (mC (.int (1))) (mCons (mC (.int (6))) mNil)))))) (mSeq (fun _ => .fail)
  (fun en => .ret (.nx en))) (fun en => .ret (.nx en)))
  (mSeq (mFor [1] (fun en => ((mCons (mVar 1) mNil) en).bind enumOf) (gTupM 2 (gsCons (fun x => .ret [(2, x)]) (gsCons (fun x => .ret [(3, x)]) gsNil))) (mSeq (mIfS (tNotM (mT (mCall (fun xs => T.must (Nat.beq xs.length 3) (ph_is_in xs)) (mCons (mVar 3) (mCons (mC (.int (0))) (mCons (m2 oSub (mArgs (o1 oLenX) (mCons (mVar 0) mNil)) (mC (.int (1)))) mNil)))))) (mSeq (fun _ => .fail)
  (fun en => .ret (.nx en))) (fun en => .ret (.nx en)))
  (fun en => .ret (.nx en))))
  (fun en => .ret (.nx en))))
def tb9 : List FE := ⟨"need_where", ["web", "where"], 10, ph_need_where⟩ :: tb8
theorem bd8 : trD Ns cons blt (dAt 8) 9 tb8 = some ⟨"need_where", ["web", "where"], 10, ph_need_where⟩ := by kernel_rfl
def ph_need_places : List W → T W := fnV 2 (mSeq (mDrop (mCall (fun xs => T.must (Nat.beq xs.length 1) (ph_need_web xs)) (mCons (mVar 0) mNil)))
  (mSeq (mDrop (mCall (fun xs => T.must (Nat.beq xs.length 2) (ph_need_where xs)) (mCons (mVar 0) (mCons (mVar 1) mNil))))
  (fun en => .ret (.nx en))))
def tb10 : List FE := ⟨"need_places", ["web", "where"], 11, ph_need_places⟩ :: tb9
theorem bd9 : trD Ns cons blt (dAt 9) 10 tb9 = some ⟨"need_places", ["web", "where"], 11, ph_need_places⟩ := by kernel_rfl
def ph_need_guest : List W → T W := fnV 2 (mSeq (mIfS (tNotM (mT (mCall (fun xs => T.must (Nat.beq xs.length 3) (ph_is_in xs)) (mCons (mVar 1) (mCons (mC (.int (0))) (mCons (m2 oSub (mArgs (o1 oLenX) (mCons (mVar 0) mNil)) (mC (.int (1)))) mNil)))))) (mSeq (fun _ => .fail)
  (fun en => .ret (.nx en))) (fun en => .ret (.nx en)))
  (fun en => .ret (.nx en)))
def tb11 : List FE := ⟨"need_guest", ["where", "guest"], 12, ph_need_guest⟩ :: tb10
theorem bd10 : trD Ns cons blt (dAt 10) 11 tb10 = some ⟨"need_guest", ["where", "guest"], 12, ph_need_guest⟩ := by kernel_rfl
def ph_everywhere : List W → T W := fnV 1 (mSeq (mDrop (mCall (fun xs => T.must (Nat.beq xs.length 1) (ph_need_web xs)) (mCons (mVar 0) mNil)))
  (mSeq (mRet (mArgs (oRng .tuple) (mCons (mArgs (o1 oLenX) (mCons (mVar 0) mNil)) mNil)))
  (fun en => .ret (.nx en))))
def tb12 : List FE := ⟨"everywhere", ["web"], 13, ph_everywhere⟩ :: tb11
theorem bd11 : trD Ns cons blt (dAt 11) 12 tb11 = some ⟨"everywhere", ["web"], 13, ph_everywhere⟩ := by kernel_rfl
def ph_used : List W → T W := fnV 1 (mSeq (mRet (mArgs (o1 oTuple) (mCons (m1 oSortSetX (mVar 0)) mNil)))
  (fun en => .ret (.nx en)))
def tb13 : List FE := ⟨"used", ["where"], 14, ph_used⟩ :: tb12
theorem bd12 : trD Ns cons blt (dAt 12) 13 tb12 = some ⟨"used", ["where"], 14, ph_used⟩ := by kernel_rfl
def ph_in_use : List W → T W := fnV 2 (mSeq (mDrop (mCall (fun xs => T.must (Nat.beq xs.length 2) (ph_need_places xs)) (mCons (mVar 0) (mCons (mVar 1) mNil))))
  (mSeq (mRet (mCall (fun xs => T.must (Nat.beq xs.length 1) (ph_used xs)) (mCons (mVar 1) mNil)))
  (fun en => .ret (.nx en))))
def tb14 : List FE := ⟨"in_use", ["web", "where"], 15, ph_in_use⟩ :: tb13
theorem bd13 : trD Ns cons blt (dAt 13) 14 tb13 = some ⟨"in_use", ["web", "where"], 15, ph_in_use⟩ := by kernel_rfl
def ph_need_calls : List W → T W := fnV 4 (mSeq (mIfS (tNotM (mT (mCall (fun xs => T.must (Nat.beq xs.length 3) (ph_is_list xs)) (mCons (mVar 1) (mCons (mC (.int (0))) (mCons (mC (.int (60))) mNil)))))) (mSeq (fun _ => .fail)
  (fun en => .ret (.nx en))) (fun en => .ret (.nx en)))
  (mSeq (mFor [1] (fun en => ((mCons (mVar 1) mNil) en).bind enumOf) (gTupM 2 (gsCons (fun x => .ret [(2, x)]) (gsCons (fun x => .ret [(3, x)]) gsNil))) (mSeq (mIfS (tNotM (mT (mCall (fun xs => T.must (Nat.beq xs.length 3) (ph_is_in xs)) (mCons (mVar 3) (mCons (mC (.int (0))) (mCons (m2 oSub (mArgs (o1 oLenX) (mCons (mVar 0) mNil)) (mC (.int (1)))) mNil)))))) (mSeq (fun _ => .fail)
  (fun en => .ret (.nx en))) (fun en => .ret (.nx en)))
  (fun en => .ret (.nx en))))
  (fun en => .ret (.nx en))))
def tb15 : List FE := ⟨"need_calls", ["web", "calls"], 16, ph_need_calls⟩ :: tb14
theorem bd14 : trD Ns cons blt (dAt 14) 15 tb14 = some ⟨"need_calls", ["web", "calls"], 16, ph_need_calls⟩ := by kernel_rfl
def ph_call_in : List W → T W := fnV 4 (mSeq (mRet (mArgs (o1 oTuple) (mCons (mLC (fun en => ((mVar 1) en).bind itemsOf) (fun x => .ret [(3, x)]) [3] (fun _ => .ret true) (mImm (mIf (mT (m2 (oInX false) (mVar 3) (m2 oGet (mVar 0) (mVar 2)))) (mVar 2) (mVar 3)))) mNil)))
  (fun en => .ret (.nx en)))
def tb16 : List FE := ⟨"call_in", ["web", "where", "house"], 17, ph_call_in⟩ :: tb15
theorem bd15 : trD Ns cons blt (dAt 15) 16 tb15 = some ⟨"call_in", ["web", "where", "house"], 17, ph_call_in⟩ := by kernel_rfl
def ph_call : List W → T W := fnV 3 (mSeq (mDrop (mCall (fun xs => T.must (Nat.beq xs.length 2) (ph_need_places xs)) (mCons (mVar 0) (mCons (mVar 1) mNil))))
  (mSeq (mDrop (mCall (fun xs => T.must (Nat.beq xs.length 2) (ph_need_house xs)) (mCons (mVar 0) (mCons (mVar 2) mNil))))
  (mSeq (mRet (mCall (fun xs => T.must (Nat.beq xs.length 3) (ph_call_in xs)) (mCons (mVar 0) (mCons (mVar 1) (mCons (mVar 2) mNil)))))
  (fun en => .ret (.nx en)))))
def tb17 : List FE := ⟨"call", ["web", "where", "house"], 18, ph_call⟩ :: tb16
theorem bd16 : trD Ns cons blt (dAt 16) 17 tb16 = some ⟨"call", ["web", "where", "house"], 18, ph_call⟩ := by kernel_rfl
def ph_movers_in : List W → T W := fnV 4 (mSeq (mRet (mLC (fun en => ((mCons (mArgs (o1 oLenX) (mCons (mVar 0) mNil)) mNil) en).bind rng1) (fun x => .ret [(2, x)]) [2] (mT (mArgs (o1 oAny) (mCons (mLC (fun en => ((mVar 1) en).bind itemsOf) (fun x => .ret [(3, x)]) [3] (fun _ => .ret true) (m2 (oInX false) (mVar 3) (m2 oGet (mVar 0) (mVar 2)))) mNil))) (mImm (mVar 2))))
  (fun en => .ret (.nx en)))
def tb18 : List FE := ⟨"movers_in", ["web", "where"], 19, ph_movers_in⟩ :: tb17
theorem bd17 : trD Ns cons blt (dAt 17) 18 tb17 = some ⟨"movers_in", ["web", "where"], 19, ph_movers_in⟩ := by kernel_rfl
def ph_movers : List W → T W := fnV 2 (mSeq (mDrop (mCall (fun xs => T.must (Nat.beq xs.length 2) (ph_need_places xs)) (mCons (mVar 0) (mCons (mVar 1) mNil))))
  (mSeq (mRet (mArgs (o1 oTuple) (mCons (mCall (fun xs => T.must (Nat.beq xs.length 2) (ph_movers_in xs)) (mCons (mVar 0) (mCons (mVar 1) mNil))) mNil)))
  (fun en => .ret (.nx en))))
def tb19 : List FE := ⟨"movers", ["web", "where"], 20, ph_movers⟩ :: tb18
theorem bd18 : trD Ns cons blt (dAt 18) 19 tb18 = some ⟨"movers", ["web", "where"], 20, ph_movers⟩ := by kernel_rfl
def ph_story_in : List W → T W := fnV 5 (mSeq (mSet 3 (mLst (mCons (mImm (mVar 1)) mNil)))
  (mSeq (mFor [2] (fun en => ((mVar 2) en).bind itemsOf) (fun x => .ret [(4, x)]) (mSeq (mApp 3 (mCall (fun xs => T.must (Nat.beq xs.length 3) (ph_call_in xs)) (mCons (mVar 0) (mCons (m2 oGet (mVar 3) (m1 oNeg (mC (.int (1))))) (mCons (mVar 4) mNil)))))
  (fun en => .ret (.nx en))))
  (mSeq (mRetV 3)
  (fun en => .ret (.nx en)))))
def tb20 : List FE := ⟨"story_in", ["web", "where", "calls"], 21, ph_story_in⟩ :: tb19
theorem bd19 : trD Ns cons blt (dAt 19) 20 tb19 = some ⟨"story_in", ["web", "where", "calls"], 21, ph_story_in⟩ := by kernel_rfl
def ph_after : List W → T W := fnV 3 (mSeq (mDrop (mCall (fun xs => T.must (Nat.beq xs.length 2) (ph_need_places xs)) (mCons (mVar 0) (mCons (mVar 1) mNil))))
  (mSeq (mDrop (mCall (fun xs => T.must (Nat.beq xs.length 2) (ph_need_calls xs)) (mCons (mVar 0) (mCons (mVar 2) mNil))))
  (mSeq (mRet (mImm (m2 oGet (mCall (fun xs => T.must (Nat.beq xs.length 3) (ph_story_in xs)) (mCons (mVar 0) (mCons (mVar 1) (mCons (mVar 2) mNil)))) (m1 oNeg (mC (.int (1)))))))
  (fun en => .ret (.nx en)))))
def tb21 : List FE := ⟨"after", ["web", "where", "calls"], 22, ph_after⟩ :: tb20
theorem bd20 : trD Ns cons blt (dAt 20) 21 tb20 = some ⟨"after", ["web", "where", "calls"], 22, ph_after⟩ := by kernel_rfl
def ph_story : List W → T W := fnV 3 (mSeq (mDrop (mCall (fun xs => T.must (Nat.beq xs.length 2) (ph_need_places xs)) (mCons (mVar 0) (mCons (mVar 1) mNil))))
  (mSeq (mDrop (mCall (fun xs => T.must (Nat.beq xs.length 2) (ph_need_calls xs)) (mCons (mVar 0) (mCons (mVar 2) mNil))))
  (mSeq (mRet (mCall (fun xs => T.must (Nat.beq xs.length 3) (ph_story_in xs)) (mCons (mVar 0) (mCons (mVar 1) (mCons (mVar 2) mNil)))))
  (fun en => .ret (.nx en)))))
def tb22 : List FE := ⟨"story", ["web", "where", "calls"], 23, ph_story⟩ :: tb21
theorem bd21 : trD Ns cons blt (dAt 21) 22 tb21 = some ⟨"story", ["web", "where", "calls"], 23, ph_story⟩ := by kernel_rfl
def ph_still_calls : List W → T W := fnV 6 (mSeq (mDrop (mCall (fun xs => T.must (Nat.beq xs.length 2) (ph_need_places xs)) (mCons (mVar 0) (mCons (mVar 1) mNil))))
  (mSeq (mDrop (mCall (fun xs => T.must (Nat.beq xs.length 2) (ph_need_calls xs)) (mCons (mVar 0) (mCons (mVar 2) mNil))))
  (mSeq (mSets [3, 4] (mCons (mCall (fun xs => T.must (Nat.beq xs.length 3) (ph_story_in xs)) (mCons (mVar 0) (mCons (mVar 1) (mCons (mVar 2) mNil)))) (mCons (mLst mNil) mNil)))
  (mSeq (mFor0 (fun en => ((mCons (mArgs (o1 oLenX) (mCons (mVar 2) mNil)) mNil) en).bind rng1) (fun x => .ret [(5, x)]) (mSeq (mIfS (mT (m2 (oDD pAny PyData.eqv) (m2 oGet (mVar 3) (mVar 5)) (m2 oGet (mVar 3) (m2 oAdd (mVar 5) (mC (.int (1))))))) (mSeq (mAppMove 4 5)
  (fun en => .ret (.nx en))) (fun en => .ret (.nx en)))
  (fun en => .ret (.nx en))))
  (mSeq (mRet (mArgs (o1 oTuple) (mCons (mVar 4) mNil)))
  (fun en => .ret (.nx en)))))))
def tb23 : List FE := ⟨"still_calls", ["web", "where", "calls"], 24, ph_still_calls⟩ :: tb22
theorem bd22 : trD Ns cons blt (dAt 22) 23 tb22 = some ⟨"still_calls", ["web", "where", "calls"], 24, ph_still_calls⟩ := by kernel_rfl
def ph_drawn : List W → T W := fnV 7 (mSeq (mDrop (mCall (fun xs => T.must (Nat.beq xs.length 2) (ph_need_places xs)) (mCons (mVar 0) (mCons (mVar 1) mNil))))
  (mSeq (mDrop (mCall (fun xs => T.must (Nat.beq xs.length 2) (ph_need_calls xs)) (mCons (mVar 0) (mCons (mVar 2) mNil))))
  (mSeq (mUnp [3, 4] (mTup (mCons (mCall (fun xs => T.must (Nat.beq xs.length 3) (ph_story_in xs)) (mCons (mVar 0) (mCons (mVar 1) (mCons (mVar 2) mNil)))) (mCons (mLst mNil) mNil))))
  (mSeq (mFor0 (fun en => ((mCons (mArgs (o1 oLenX) (mCons (mVar 2) mNil)) mNil) en).bind rng1) (fun x => .ret [(5, x)]) (mSeq (mApp 4 (mArgs (o1 oTuple) (mCons (mLC (fun en => ((mCons (mArgs (o1 oLenX) (mCons (mVar 1) mNil)) mNil) en).bind rng1) (fun x => .ret [(6, x)]) [6] (mT (m2 (oDD pAny fNe) (m2 oGet (m2 oGet (mVar 3) (mVar 5)) (mVar 6)) (m2 oGet (m2 oGet (mVar 3) (m2 oAdd (mVar 5) (mC (.int (1))))) (mVar 6)))) (mImm (mVar 6))) mNil)))
  (fun en => .ret (.nx en))))
  (mSeq (mRet (mArgs (o1 oTuple) (mCons (mVar 4) mNil)))
  (fun en => .ret (.nx en)))))))
def tb24 : List FE := ⟨"drawn", ["web", "where", "calls"], 25, ph_drawn⟩ :: tb23
theorem bd23 : trD Ns cons blt (dAt 23) 24 tb23 = some ⟨"drawn", ["web", "where", "calls"], 25, ph_drawn⟩ := by kernel_rfl
def ph_way_of : List W → T W := fnV 6 (mSeq (mDrop (mCall (fun xs => T.must (Nat.beq xs.length 2) (ph_need_places xs)) (mCons (mVar 0) (mCons (mVar 1) mNil))))
  (mSeq (mDrop (mCall (fun xs => T.must (Nat.beq xs.length 2) (ph_need_calls xs)) (mCons (mVar 0) (mCons (mVar 2) mNil))))
  (mSeq (mDrop (mCall (fun xs => T.must (Nat.beq xs.length 2) (ph_need_guest xs)) (mCons (mVar 1) (mCons (mVar 3) mNil))))
  (mSeq (mSet 4 (mLst (mCons (mImm (m2 oGet (mVar 1) (mVar 3))) mNil)))
  (mSeq (mFor [0, 1, 2] (fun en => ((mCall (fun xs => T.must (Nat.beq xs.length 3) (ph_story_in xs)) (mCons (mVar 0) (mCons (mVar 1) (mCons (mVar 2) mNil)))) en).bind (itemsX true)) (fun x => .ret [(5, x)]) (mSeq (mIfS (mT (m2 (oDD pAny fNe) (m2 oGet (mVar 5) (mVar 3)) (m2 oGet (mVar 4) (m1 oNeg (mC (.int (1))))))) (mSeq (mApp 4 (mImm (m2 oGet (mVar 5) (mVar 3))))
  (fun en => .ret (.nx en))) (fun en => .ret (.nx en)))
  (fun en => .ret (.nx en))))
  (mSeq (mRet (mArgs (o1 oTuple) (mCons (mVar 4) mNil)))
  (fun en => .ret (.nx en))))))))
def tb25 : List FE := ⟨"way_of", ["web", "where", "calls", "guest"], 26, ph_way_of⟩ :: tb24
theorem bd24 : trD Ns cons blt (dAt 24) 25 tb24 = some ⟨"way_of", ["web", "where", "calls", "guest"], 26, ph_way_of⟩ := by kernel_rfl
def ph_moves : List W → T W := fnV 7 (mSeq (mDrop (mCall (fun xs => T.must (Nat.beq xs.length 2) (ph_need_places xs)) (mCons (mVar 0) (mCons (mVar 1) mNil))))
  (mSeq (mDrop (mCall (fun xs => T.must (Nat.beq xs.length 2) (ph_need_calls xs)) (mCons (mVar 0) (mCons (mVar 2) mNil))))
  (mSeq (mSets [3, 4] (mCons (mCall (fun xs => T.must (Nat.beq xs.length 3) (ph_story_in xs)) (mCons (mVar 0) (mCons (mVar 1) (mCons (mVar 2) mNil)))) (mCons (m2 oMul (mLst (mCons (mC (.int (0))) mNil)) (mArgs (o1 oLenX) (mCons (mVar 1) mNil))) mNil)))
  (mSeq (mFor0 (fun en => ((mCons (mArgs (o1 oLenX) (mCons (mVar 2) mNil)) mNil) en).bind rng1) (fun x => .ret [(5, x)]) (mSeq (mFor0 (fun en => ((mCons (mArgs (o1 oLenX) (mCons (mVar 1) mNil)) mNil) en).bind rng1) (fun x => .ret [(6, x)]) (mSeq (mIfS (mT (m2 (oDD pAny fNe) (m2 oGet (m2 oGet (mVar 3) (mVar 5)) (mVar 6)) (m2 oGet (m2 oGet (mVar 3) (m2 oAdd (mVar 5) (mC (.int (1))))) (mVar 6)))) (mSeq (mAugS (fun a b => a + b) 4 (mVar 6) (mC (.int (1))))
  (fun en => .ret (.nx en))) (fun en => .ret (.nx en)))
  (fun en => .ret (.nx en))))
  (fun en => .ret (.nx en))))
  (mSeq (mRet (mArgs (o1 oTuple) (mCons (mVar 4) mNil)))
  (fun en => .ret (.nx en)))))))
def tb26 : List FE := ⟨"moves", ["web", "where", "calls"], 27, ph_moves⟩ :: tb25
theorem bd25 : trD Ns cons blt (dAt 25) 26 tb25 = some ⟨"moves", ["web", "where", "calls"], 27, ph_moves⟩ := by kernel_rfl
def ph_seen_houses : List W → T W := fnV 5 (mSeq (mDrop (mCall (fun xs => T.must (Nat.beq xs.length 2) (ph_need_places xs)) (mCons (mVar 0) (mCons (mVar 1) mNil))))
  (mSeq (mDrop (mCall (fun xs => T.must (Nat.beq xs.length 2) (ph_need_calls xs)) (mCons (mVar 0) (mCons (mVar 2) mNil))))
  (mSeq (mDrop (mCall (fun xs => T.must (Nat.beq xs.length 2) (ph_need_guest xs)) (mCons (mVar 1) (mCons (mVar 3) mNil))))
  (mSeq (mRet (mArgs (o1 oTuple) (mCons (m1 oSortSetX (mLC (fun en => ((mCall (fun xs => T.must (Nat.beq xs.length 3) (ph_story_in xs)) (mCons (mVar 0) (mCons (mVar 1) (mCons (mVar 2) mNil)))) en).bind (itemsX true)) (fun x => .ret [(4, x)]) [4] (fun _ => .ret true) (mImm (m2 oGet (mVar 4) (mVar 3))))) mNil)))
  (fun en => .ret (.nx en))))))
def tb27 : List FE := ⟨"seen_houses", ["web", "where", "calls", "guest"], 28, ph_seen_houses⟩ :: tb26
theorem bd26 : trD Ns cons blt (dAt 26) 27 tb26 = some ⟨"seen_houses", ["web", "where", "calls", "guest"], 28, ph_seen_houses⟩ := by kernel_rfl
def ph_seen_by_all : List W → T W := fnV 8 (mSeq (mDrop (mCall (fun xs => T.must (Nat.beq xs.length 2) (ph_need_places xs)) (mCons (mVar 0) (mCons (mVar 1) mNil))))
  (mSeq (mDrop (mCall (fun xs => T.must (Nat.beq xs.length 2) (ph_need_calls xs)) (mCons (mVar 0) (mCons (mVar 2) mNil))))
  (mSeq (mUnp [3, 4] (mTup (mCons (mCall (fun xs => T.must (Nat.beq xs.length 3) (ph_story_in xs)) (mCons (mVar 0) (mCons (mVar 1) (mCons (mVar 2) mNil)))) (mCons (mLst mNil) mNil))))
  (mSeq (mFor0 (fun en => ((mCons (mArgs (o1 oLenX) (mCons (mVar 0) mNil)) mNil) en).bind rng1) (fun x => .ret [(5, x)]) (mSeq (mIfS (mT (mArgs (o1 oAll) (mCons (mLC (fun en => ((mCons (mArgs (o1 oLenX) (mCons (mVar 1) mNil)) mNil) en).bind rng1) (fun x => .ret [(7, x)]) [7] (fun _ => .ret true) (mArgs (o1 oAny) (mCons (mLC (fun en => ((mVar 3) en).bind itemsOf) (fun x => .ret [(6, x)]) [6] (fun _ => .ret true) (m2 (oDD pAny PyData.eqv) (m2 oGet (mVar 6) (mVar 7)) (mVar 5))) mNil))) mNil))) (mSeq (mAppMove 4 5)
  (fun en => .ret (.nx en))) (fun en => .ret (.nx en)))
  (fun en => .ret (.nx en))))
  (mSeq (mRet (mArgs (o1 oTuple) (mCons (mVar 4) mNil)))
  (fun en => .ret (.nx en)))))))
def tb28 : List FE := ⟨"seen_by_all", ["web", "where", "calls"], 29, ph_seen_by_all⟩ :: tb27
theorem bd27 : trD Ns cons blt (dAt 27) 28 tb27 = some ⟨"seen_by_all", ["web", "where", "calls"], 29, ph_seen_by_all⟩ := by kernel_rfl
def ph_longest_stay : List W → T W := fnV 9 (mSeq (mDrop (mCall (fun xs => T.must (Nat.beq xs.length 2) (ph_need_places xs)) (mCons (mVar 0) (mCons (mVar 1) mNil))))
  (mSeq (mDrop (mCall (fun xs => T.must (Nat.beq xs.length 2) (ph_need_calls xs)) (mCons (mVar 0) (mCons (mVar 2) mNil))))
  (mSeq (mDrop (mCall (fun xs => T.must (Nat.beq xs.length 2) (ph_need_guest xs)) (mCons (mVar 1) (mCons (mVar 3) mNil))))
  (mSeq (mSets [4, 5, 6] (mCons (mC (.int (0))) (mCons (mC (.int (0))) (mCons (mImm (mVar 1)) mNil))))
  (mSeq (mFor [2] (fun en => ((mVar 2) en).bind itemsOf) (fun x => .ret [(7, x)]) (mSeq (mSet 8 (mCall (fun xs => T.must (Nat.beq xs.length 3) (ph_call_in xs)) (mCons (mVar 0) (mCons (mVar 6) (mCons (mVar 7) mNil)))))
  (mSeq (mSet 5 (mIf (mT (m2 (oDD pAny PyData.eqv) (m2 oGet (mVar 8) (mVar 3)) (m2 oGet (mVar 6) (mVar 3)))) (m2 oAdd (mVar 5) (mC (.int (1)))) (mC (.int (0)))))
  (mSeq (mSets [4, 6] (mCons (mArgs (o2 oMax2) (mCons (mVar 4) (mCons (mVar 5) mNil))) (mCons (mImm (mVar 8)) mNil)))
  (fun en => .ret (.nx en))))))
  (mSeq (mRetV 4)
  (fun en => .ret (.nx en))))))))
def tb29 : List FE := ⟨"longest_stay", ["web", "where", "calls", "guest"], 30, ph_longest_stay⟩ :: tb28
theorem bd28 : trD Ns cons blt (dAt 28) 29 tb28 = some ⟨"longest_stay", ["web", "where", "calls", "guest"], 30, ph_longest_stay⟩ := by kernel_rfl
def ph_shared : List W → T W := fnV 2 (mSeq (mSets [0, 1] (mCons (mArgs (o1 oAbs) (mCons (mVar 0) mNil)) (mCons (mArgs (o1 oAbs) (mCons (mVar 1) mNil)) mNil)))
  (mSeq (wLoop (mT (m2 (oDD pAny fNe) (mVar 1) (mC (.int (0))))) (mSeq (mSets [0, 1] (mCons (mImm (mVar 1)) (mCons (m2 oMod (mVar 0) (mVar 1)) mNil)))
  (fun en => .ret (.nx en))) fuel)
  (mSeq (mRetV 0)
  (fun en => .ret (.nx en)))))
def tb30 : List FE := ⟨"shared", ["one", "other"], 31, ph_shared⟩ :: tb29
theorem bd29 : trD Ns cons blt (dAt 29) 30 tb29 = some ⟨"shared", ["one", "other"], 31, ph_shared⟩ := by kernel_rfl
def ph_ratio : List W → T W := fnV 3 (mSeq (mSet 2 (mCall (fun xs => T.must (Nat.beq xs.length 2) (ph_shared xs)) (mCons (mVar 0) (mCons (mVar 1) mNil))))
  (mSeq (mRet (mTup (mCons (m2 oFdiv (mVar 0) (mVar 2)) (mCons (m2 oFdiv (mVar 1) (mVar 2)) mNil))))
  (fun en => .ret (.nx en))))
def tb31 : List FE := ⟨"ratio", ["top", "low"], 32, ph_ratio⟩ :: tb30
theorem bd30 : trD Ns cons blt (dAt 30) 31 tb30 = some ⟨"ratio", ["top", "low"], 32, ph_ratio⟩ := by kernel_rfl
def ph_drawing_chance : List W → T W := fnV 2 (mSeq (mDrop (mCall (fun xs => T.must (Nat.beq xs.length 2) (ph_need_places xs)) (mCons (mVar 0) (mCons (mVar 1) mNil))))
  (mSeq (mRet (mCall (fun xs => T.must (Nat.beq xs.length 2) (ph_ratio xs)) (mCons (mArgs (o1 oLenX) (mCons (mCall (fun xs => T.must (Nat.beq xs.length 2) (ph_movers_in xs)) (mCons (mVar 0) (mCons (mVar 1) mNil))) mNil)) (mCons (mArgs (o1 oLenX) (mCons (mVar 0) mNil)) mNil))))
  (fun en => .ret (.nx en))))
def tb32 : List FE := ⟨"drawing_chance", ["web", "where"], 33, ph_drawing_chance⟩ :: tb31
theorem bd31 : trD Ns cons blt (dAt 31) 32 tb31 = some ⟨"drawing_chance", ["web", "where"], 33, ph_drawing_chance⟩ := by kernel_rfl
def ph_mean_drawn : List W → T W := fnV 3 (mSeq (mDrop (mCall (fun xs => T.must (Nat.beq xs.length 2) (ph_need_places xs)) (mCons (mVar 0) (mCons (mVar 1) mNil))))
  (mSeq (mRet (mCall (fun xs => T.must (Nat.beq xs.length 2) (ph_ratio xs)) (mCons (mArgs (o1 oSumX) (mCons (mLC (fun en => ((mVar 1) en).bind itemsOf) (fun x => .ret [(2, x)]) [2] (fun _ => .ret true) (mArgs (o1 oLenX) (mCons (m2 oGet (mVar 0) (mVar 2)) mNil))) mNil)) (mCons (mArgs (o1 oLenX) (mCons (mVar 0) mNil)) mNil))))
  (fun en => .ret (.nx en))))
def tb33 : List FE := ⟨"mean_drawn", ["web", "where"], 34, ph_mean_drawn⟩ :: tb32
theorem bd32 : trD Ns cons blt (dAt 32) 33 tb32 = some ⟨"mean_drawn", ["web", "where"], 34, ph_mean_drawn⟩ := by kernel_rfl
def ph__law_gcd : List W → T W := fnV 2 (mSeq (wLoop (mT (m2 (oDD pAny fNe) (mVar 1) (mC (.int (0))))) (mSeq (mSets [0, 1] (mCons (mImm (mVar 1)) (mCons (m2 oMod (mArgs (o1 oInt) (mCons (mVar 0) mNil)) (mVar 1)) mNil)))
  (fun en => .ret (.nx en))) fuel)
  (mSeq (mRetV 0)
  (fun en => .ret (.nx en))))
def tb34 : List FE := ⟨"_law_gcd", ["one", "other"], 35, ph__law_gcd⟩ :: tb33
theorem bd33 : trD Ns cons blt (dAt 33) 34 tb33 = some ⟨"_law_gcd", ["one", "other"], 35, ph__law_gcd⟩ := by kernel_rfl
def ph__law_lowest : List W → T W := fnV 3 (mSeq (mSet 2 (mCall (fun xs => T.must (Nat.beq xs.length 2) (ph__law_gcd xs)) (mCons (mArgs (o1 oAbs) (mCons (mVar 0) mNil)) (mCons (mVar 1) mNil))))
  (mSeq (mRet (mTup (mCons (m2 oFdiv (mVar 0) (mVar 2)) (mCons (m2 oFdiv (mVar 1) (mVar 2)) mNil))))
  (fun en => .ret (.nx en))))
def tb35 : List FE := ⟨"_law_lowest", ["numerator", "denominator"], 36, ph__law_lowest⟩ :: tb34
theorem bd34 : trD Ns cons blt (dAt 34) 35 tb34 = some ⟨"_law_lowest", ["numerator", "denominator"], 36, ph__law_lowest⟩ := by kernel_rfl
def ph__law_by : List W → T W := fnV 7 (mSeq (mSet 2 (mLC (fun en => ((mCons (mVar 0) mNil) en).bind rng1) (fun x => .ret [(5, x)]) [5] (fun _ => .ret true) (mC (.dict []))))
  (mSeq (mFor [1] (fun en => ((mVar 1) en).bind itemsOf) (gTupM 2 (gsCons (fun x => .ret [(3, x)]) (gsCons (fun x => .ret [(4, x)]) gsNil))) (mSeq (mSub2 2 (mVar 3) (mVar 4) (mC (.bool true)))
  (mSeq (mSub2 2 (mVar 4) (mVar 3) (mC (.bool true)))
  (fun en => .ret (.nx en)))))
  (mSeq (mRet (mArgs (o1 oTuple) (mCons (mLock 2 (mLC (fun en => ((mVar 2) en).bind (itemsX false)) (fun x => .ret [(6, x)]) [6] (fun _ => .ret true) (mArgs (o1 oTuple) (mCons (mArgs (o1 oSortX) (mCons (mArgs (o1 oListX) (mCons (mVar 6) mNil)) mNil)) mNil)))) mNil)))
  (fun en => .ret (.nx en)))))
def tb36 : List FE := ⟨"_law_by", ["many", "couples"], 37, ph__law_by⟩ :: tb35
theorem bd35 : trD Ns cons blt (dAt 35) 36 tb35 = some ⟨"_law_by", ["many", "couples"], 37, ph__law_by⟩ := by kernel_rfl
def ph__law_web : List W → T W := fnV 7 (mSeq (mSets [2, 3] (mCons (m2 oAdd (mC (.int (1))) (mCall (fun xs => T.must (Nat.beq xs.length 2) (phTaken xs)) (mCons (mVar 0) (mCons (mVar 1) mNil)))) (mCons (mLst mNil) mNil)))
  (mSeq (mSet 4 (m2 oAdd (mC (.int (2))) (mCall (fun xs => T.must (Nat.beq xs.length 2) (phTaken xs)) (mCons (mVar 0) (mCons (mC (.int (3))) mNil)))))
  (mSeq (mFor0 (fun en => ((mCons (mVar 2) mNil) en).bind rng1) (fun x => .ret [(5, x)]) (mSeq (mSet 3 (m2 oAdd (mVar 3) (mLC (fun en => ((mCons (m2 oAdd (mVar 5) (mC (.int (1)))) (mCons (mVar 2) mNil)) en).bind rng2) (fun x => .ret [(6, x)]) [6] (mT (m2 (oDD pAny PyData.eqv) (mCall (fun xs => T.must (Nat.beq xs.length 2) (phTaken xs)) (mCons (mVar 0) (mCons (mVar 4) mNil))) (mC (.int (0))))) (mImm (mTup (mCons (mVar 5) (mCons (mVar 6) mNil)))))))
  (fun en => .ret (.nx en))))
  (mSeq (mRet (mCall (fun xs => T.must (Nat.beq xs.length 2) (ph__law_by xs)) (mCons (mVar 2) (mCons (mVar 3) mNil))))
  (fun en => .ret (.nx en))))))
def tb37 : List FE := ⟨"_law_web", ["row", "most"], 38, ph__law_web⟩ :: tb36
theorem bd36 : trD Ns cons blt (dAt 36) 37 tb36 = some ⟨"_law_web", ["row", "most"], 38, ph__law_web⟩ := by kernel_rfl
def ph__law_row : List W → T W := fnV 4 (mSeq (mRet (mArgs (o1 oTuple) (mCons (mLC (fun en => ((mCons (mCall (fun xs => T.must (Nat.beq xs.length 2) (phTaken xs)) (mCons (mVar 0) (mCons (m2 oAdd (mVar 2) (mC (.int (1)))) mNil))) mNil) en).bind rng1) (fun x => .ret [(3, x)]) [3] (fun _ => .ret true) (mCall (fun xs => T.must (Nat.beq xs.length 2) (phTaken xs)) (mCons (mVar 0) (mCons (mArgs (o1 oLenX) (mCons (mVar 1) mNil)) mNil)))) mNil)))
  (fun en => .ret (.nx en)))
def tb38 : List FE := ⟨"_law_row", ["row", "web", "most"], 39, ph__law_row⟩ :: tb37
theorem bd37 : trD Ns cons blt (dAt 37) 38 tb37 = some ⟨"_law_row", ["row", "web", "most"], 39, ph__law_row⟩ := by kernel_rfl
def ph__law_put : List W → T W := fnV 4 (mSeq (mRet (mArgs (o1 oTuple) (mCons (mLC (fun en => ((mCons (m2 oAdd (mC (.int (1))) (mCall (fun xs => T.must (Nat.beq xs.length 2) (phTaken xs)) (mCons (mVar 0) (mCons (mVar 2) mNil)))) mNil) en).bind rng1) (fun x => .ret [(3, x)]) [3] (fun _ => .ret true) (mCall (fun xs => T.must (Nat.beq xs.length 2) (phTaken xs)) (mCons (mVar 0) (mCons (mArgs (o1 oLenX) (mCons (mVar 1) mNil)) mNil)))) mNil)))
  (fun en => .ret (.nx en)))
def tb39 : List FE := ⟨"_law_put", ["row", "web", "most"], 40, ph__law_put⟩ :: tb38
theorem bd38 : trD Ns cons blt (dAt 38) 39 tb38 = some ⟨"_law_put", ["row", "web", "most"], 40, ph__law_put⟩ := by kernel_rfl
def lw0 : List (En → T Out) := [(mSet 2 (mCall (fun xs => T.must (Nat.beq xs.length 2) (ph__law_web xs)) (mCons (mVar 1) (mCons (mC (.int (6))) mNil)))),
  (mUnp [3, 4] (mTup (mCons (mCall (fun xs => T.must (Nat.beq xs.length 3) (ph__law_put xs)) (mCons (mVar 1) (mCons (mVar 2) (mCons (mC (.int (5))) mNil)))) (mCons (mCall (fun xs => T.must (Nat.beq xs.length 3) (ph__law_row xs)) (mCons (mVar 1) (mCons (mVar 2) (mCons (mC (.int (12))) mNil)))) mNil)))),
  (mUnp [5, 6] (mTup (mCons (mCall (fun xs => T.must (Nat.beq xs.length 3) (ph_drawn xs)) (mCons (mVar 2) (mCons (mVar 3) (mCons (mVar 4) mNil)))) (mCons (mCall (fun xs => T.must (Nat.beq xs.length 3) (ph_moves xs)) (mCons (mVar 2) (mCons (mVar 3) (mCons (mVar 4) mNil)))) mNil)))),
  (mIfS (mT (m2 (oDD pAny fNe) (mArgs (o1 oSumX) (mCons (mVar 6) mNil)) (mArgs (o1 oSumX) (mCons (mLC (fun en => ((mVar 5) en).bind itemsOf) (fun x => .ret [(10, x)]) [10] (fun _ => .ret true) (mArgs (o1 oLenX) (mCons (mVar 10) mNil))) mNil)))) (mSeq (mRet (mC (.bool false)))
  (fun en => .ret (.nx en))) (fun en => .ret (.nx en))),
  (mIfS (mT (m2 (oDD pAny fNe) (mCall (fun xs => T.must (Nat.beq xs.length 2) (ph_mean_drawn xs)) (mCons (mVar 2) (mCons (mCall (fun xs => T.must (Nat.beq xs.length 1) (ph_everywhere xs)) (mCons (mVar 2) mNil)) mNil))) (mCall (fun xs => T.must (Nat.beq xs.length 2) (ph__law_lowest xs)) (mCons (m2 oMul (mC (.int (2))) (mArgs (o1 oLenX) (mCons (mCall (fun xs => T.must (Nat.beq xs.length 1) (ph_roads xs)) (mCons (mVar 2) mNil)) mNil))) (mCons (mArgs (o1 oLenX) (mCons (mVar 2) mNil)) mNil))))) (mSeq (mRet (mC (.bool false)))
  (fun en => .ret (.nx en))) (fun en => .ret (.nx en))),
  (mIfS (mT (m2 (oDD pAny fNe) (mCall (fun xs => T.must (Nat.beq xs.length 2) (ph_drawing_chance xs)) (mCons (mVar 2) (mCons (mCall (fun xs => T.must (Nat.beq xs.length 1) (ph_everywhere xs)) (mCons (mVar 2) mNil)) mNil))) (mCall (fun xs => T.must (Nat.beq xs.length 2) (ph__law_lowest xs)) (mCons (mArgs (o1 oLenX) (mCons (mLC (fun en => ((mVar 2) en).bind itemsOf) (fun x => .ret [(14, x)]) [14] (mT (m2 (oDD pAny fNe) (mVar 14) (mTup mNil))) (mImm (mVar 14))) mNil)) (mCons (mArgs (o1 oLenX) (mCons (mVar 2) mNil)) mNil))))) (mSeq (mRet (mC (.bool false)))
  (fun en => .ret (.nx en))) (fun en => .ret (.nx en))),
  (mFor0 (fun en => ((mCons (mArgs (o1 oLenX) (mCons (mVar 3) mNil)) mNil) en).bind rng1) (fun x => .ret [(7, x)]) (mSeq (mSets [8, 9] (mCons (mCall (fun xs => T.must (Nat.beq xs.length 4) (ph_way_of xs)) (mCons (mVar 2) (mCons (mVar 3) (mCons (mVar 4) (mCons (mVar 7) mNil))))) (mCons (mCall (fun xs => T.must (Nat.beq xs.length 4) (ph_longest_stay xs)) (mCons (mVar 2) (mCons (mVar 3) (mCons (mVar 4) (mCons (mVar 7) mNil))))) mNil)))
  (mSeq (mIfS (tOrM (mT (m2 (oDD pAny fNe) (m2 oGet (mVar 6) (mVar 7)) (mArgs (o1 oLenX) (mCons (mLC (fun en => ((mVar 5) en).bind itemsOf) (fun x => .ret [(10, x)]) [10] (mT (m2 (oInX false) (mVar 7) (mVar 10))) (mImm (mVar 10))) mNil)))) (mT (m2 (oDD pAny fNe) (mArgs (o1 oLenX) (mCons (mVar 8) mNil)) (m2 oAdd (m2 oGet (mVar 6) (mVar 7)) (mC (.int (1))))))) (mSeq (mRet (mC (.bool false)))
  (fun en => .ret (.nx en))) (fun en => .ret (.nx en)))
  (mSeq (mIfS (mT (m2 (oDD pAny fNe) (mCall (fun xs => T.must (Nat.beq xs.length 4) (ph_seen_houses xs)) (mCons (mVar 2) (mCons (mVar 3) (mCons (mVar 4) (mCons (mVar 7) mNil))))) (mArgs (o1 oTuple) (mCons (m1 oSortSetX (mVar 8)) mNil)))) (mSeq (mRet (mC (.bool false)))
  (fun en => .ret (.nx en))) (fun en => .ret (.nx en)))
  (mSeq (mIfS (tOrM (mT (m2 (oDD pAny fNe) (m2 (oDD pAny PyData.eqv) (m2 oGet (mVar 6) (mVar 7)) (mC (.int (0)))) (m2 (oDD pAny PyData.eqv) (mVar 9) (mArgs (o1 oLenX) (mCons (mVar 4) mNil))))) (mT (m2 (oDD pLt fGt) (mVar 9) (m2 oSub (mArgs (o1 oLenX) (mCons (mVar 4) mNil)) (m2 oGet (mVar 6) (mVar 7)))))) (mSeq (mRet (mC (.bool false)))
  (fun en => .ret (.nx en))) (fun en => .ret (.nx en)))
  (mSeq (mIfS (mT (m2 (oDD pAny fNe) (mLC (fun en => ((mCut (mVar 8) (mPart (mC (.int (1)))) (fun _ => .ret none)) en).bind (itemsX true)) (fun x => .ret [(15, x)]) [15] (mT (m2 (oInX true) (mVar 15) (mVar 4))) (mImm (mVar 15))) (mLst mNil))) (mSeq (mRet (mC (.bool false)))
  (fun en => .ret (.nx en))) (fun en => .ret (.nx en)))
  (mSeq (mIfS (tOrM (mT (m2 (oDD pLt ltD) (m2 oGet (mVar 6) (mVar 7)) (m2 oSub (m1 oLenSetX (mVar 8)) (mC (.int (1)))))) (mT (m2 (oDD pAny fNe) (m2 oGet (mVar 8) (m1 oNeg (mC (.int (1))))) (m2 oGet (mCall (fun xs => T.must (Nat.beq xs.length 3) (ph_after xs)) (mCons (mVar 2) (mCons (mVar 3) (mCons (mVar 4) mNil)))) (mVar 7))))) (mSeq (mRet (mC (.bool false)))
  (fun en => .ret (.nx en))) (fun en => .ret (.nx en)))
  (fun en => .ret (.nx en))))))))),
  (mSet 10 (mCall (fun xs => T.must (Nat.beq xs.length 3) (ph_story xs)) (mCons (mVar 2) (mCons (mVar 3) (mCons (mVar 4) mNil))))),
  (mFor0 (fun en => ((mCons (mArgs (o1 oLenX) (mCons (mVar 4) mNil)) mNil) en).bind rng1) (fun x => .ret [(11, x)]) (mSeq (mIfS (mT (m2 (oDD pAny fNe) (m2 oGet (mVar 5) (mVar 11)) (mArgs (o1 oTuple) (mCons (mLC (fun en => ((mCons (mArgs (o1 oLenX) (mCons (mVar 3) mNil)) mNil) en).bind rng1) (fun x => .ret [(7, x)]) [7] (mT (m2 (oInX false) (m2 oGet (m2 oGet (mVar 10) (mVar 11)) (mVar 7)) (mCall (fun xs => T.must (Nat.beq xs.length 2) (ph_neighbours xs)) (mCons (mVar 2) (mCons (m2 oGet (mVar 4) (mVar 11)) mNil))))) (mImm (mVar 7))) mNil)))) (mSeq (mRet (mC (.bool false)))
  (fun en => .ret (.nx en))) (fun en => .ret (.nx en)))
  (fun en => .ret (.nx en)))),
  (mSet 12 (mLC (fun en => ((mCons (mArgs (o1 oLenX) (mCons (mVar 4) mNil)) mNil) en).bind rng1) (fun x => .ret [(11, x)]) [11] (mT (m2 (oInX true) (mVar 11) (mCall (fun xs => T.must (Nat.beq xs.length 3) (ph_still_calls xs)) (mCons (mVar 2) (mCons (mVar 3) (mCons (mVar 4) mNil)))))) (mImm (mVar 11)))),
  (mIfS (tOrM (mT (m2 (oDD pAny fNe) (mLC (fun en => ((mVar 12) en).bind itemsOf) (fun x => .ret [(11, x)]) [11] (mT (m2 (oDD pAny PyData.eqv) (m2 oGet (mVar 5) (mVar 11)) (mTup mNil))) (mImm (mVar 11))) (mLst mNil))) (mT (m2 (oDD pLt ltD) (mArgs (o1 oLenX) (mCons (mVar 12) mNil)) (mArgs (o1 (oPickT fun a b => ltD b a)) (mCons (mVar 6) mNil))))) (mSeq (mRet (mC (.bool false)))
  (fun en => .ret (.nx en))) (fun en => .ret (.nx en))),
  (mSet 13 (mArgs (o1 oSumX) (mCons (mLC (fun en => ((mCons (mArgs (o1 oLenX) (mCons (mVar 2) mNil)) mNil) en).bind rng1) (fun x => .ret [(16, x)]) [16] (fun _ => .ret true) (mArgs (o1 oLenX) (mCons (m2 oGet (mCall (fun xs => T.must (Nat.beq xs.length 3) (ph_drawn xs)) (mCons (mVar 2) (mCons (mVar 3) (mCons (mTup (mCons (mVar 16) mNil)) mNil)))) (mC (.int (0)))) mNil))) mNil))),
  (mIfS (mT (m2 (oDD pAny fNe) (mCall (fun xs => T.must (Nat.beq xs.length 2) (ph_mean_drawn xs)) (mCons (mVar 2) (mCons (mVar 3) mNil))) (mCall (fun xs => T.must (Nat.beq xs.length 2) (ph__law_lowest xs)) (mCons (mVar 13) (mCons (mArgs (o1 oLenX) (mCons (mVar 2) mNil)) mNil))))) (mSeq (mRet (mC (.bool false)))
  (fun en => .ret (.nx en))) (fun en => .ret (.nx en))),
  (mIfS (mT (m2 (oDD pAny fNe) (mCall (fun xs => T.must (Nat.beq xs.length 2) (ph_drawing_chance xs)) (mCons (mVar 2) (mCons (mVar 3) mNil))) (mCall (fun xs => T.must (Nat.beq xs.length 2) (ph__law_lowest xs)) (mCons (mArgs (o1 oLenX) (mCons (mCall (fun xs => T.must (Nat.beq xs.length 2) (ph_movers xs)) (mCons (mVar 2) (mCons (mVar 3) mNil))) mNil)) (mCons (mArgs (o1 oLenX) (mCons (mVar 2) mNil)) mNil))))) (mSeq (mRet (mC (.bool false)))
  (fun en => .ret (.nx en))) (fun en => .ret (.nx en))),
  (mIfS (mT (m2 (oDD pAny fNe) (mLC (fun en => ((mCall (fun xs => T.must (Nat.beq xs.length 2) (ph_movers xs)) (mCons (mVar 2) (mCons (mVar 3) mNil))) en).bind (itemsX true)) (fun x => .ret [(16, x)]) [16] (mT (m2 (oDD pAny PyData.eqv) (mCall (fun xs => T.must (Nat.beq xs.length 3) (ph_call xs)) (mCons (mVar 2) (mCons (mVar 3) (mCons (mVar 16) mNil)))) (mVar 3))) (mImm (mVar 16))) (mLst mNil))) (mSeq (mRet (mC (.bool false)))
  (fun en => .ret (.nx en))) (fun en => .ret (.nx en))),
  (mIfS (mT (m2 (oDD pAny fNe) (m2 (oDD pAny PyData.eqv) (mCall (fun xs => T.must (Nat.beq xs.length 2) (ph_movers xs)) (mCons (mVar 2) (mCons (mVar 3) mNil))) (mTup mNil)) (m2 (oDD pAny PyData.eqv) (mLC (fun en => ((mCall (fun xs => T.must (Nat.beq xs.length 2) (ph_in_use xs)) (mCons (mVar 2) (mCons (mVar 3) mNil))) en).bind (itemsX true)) (fun x => .ret [(15, x)]) [15] (mT (m2 (oDD pAny fNe) (mCall (fun xs => T.must (Nat.beq xs.length 2) (ph_neighbours xs)) (mCons (mVar 2) (mCons (mVar 15) mNil))) (mTup mNil))) (mImm (mVar 15))) (mLst mNil)))) (mSeq (mRet (mC (.bool false)))
  (fun en => .ret (.nx en))) (fun en => .ret (.nx en))),
  (mRet (m2 (oDD pAny PyData.eqv) (mLC (fun en => ((mCall (fun xs => T.must (Nat.beq xs.length 3) (ph_seen_by_all xs)) (mCons (mVar 2) (mCons (mVar 3) (mCons (mVar 4) mNil)))) en).bind (itemsX true)) (fun x => .ret [(16, x)]) [16] (tAndM (mT (m2 (oInX true) (mVar 16) (mVar 4))) (mT (m2 (oDD pAny fNe) (mLC (fun en => ((mVar 3) en).bind itemsOf) (fun x => .ret [(15, x)]) [15] (mT (m2 (oDD pAny fNe) (mVar 15) (mVar 16))) (mImm (mVar 15))) (mLst mNil)))) (mImm (mVar 16))) (mLst mNil)))]
def pl0 : En → T Out := nest lw0 mNx
abbrev scE : Sc := ⟨NL, defScope sLaw, NL, lvL, tb39, cons, blt⟩
theorem xE_some : (trCutX scE 1 [] ((defBody sLaw).drop 1)).isSome = true := by kernel_rfl
def xE : RSs scE ((defBody sLaw).drop 1) := (trCutX scE 1 [] ((defBody sLaw).drop 1)).get xE_some
theorem xE_is : xE.m = pl0 := by kernel_rfl
theorem xE_ok : SSs scE ((defBody sLaw).drop 1) pl0 := by rw [← xE_is]; exact xE.ok
end G

set_option Elab.async false
set_option linter.all false
set_option maxRecDepth 100000
/-! S1: what the meanings compute, on coded values: the constructs. -/
namespace G
open PySem PySem.Spec PyProof.Rows L2
/-! ### codes -/
def dN (n : Nat) : D := .int (n : Int)
def dT (l : List Nat) : D := .tuple (l.map dN)
def dW (w : List (List Nat)) : D := .tuple (w.map dT)
section
variable {α β : Type}
theorem bind_ret {a : α} {f : α → T β} : (T.ret a).bind f = f a := rfl
theorem bind_fail {f : α → T β} : (T.fail : T α).bind f = .fail := rfl
theorem must_t {t : T α} : T.must true t = t := rfl
theorem ofO_some {a : α} : T.ofO (some a) = .ret a := rfl
theorem immAll_map {f : α → D} (h : ∀ x, imm (f x) = true) : ∀ l : List α, immAll (l.map f) = true
  | [] => rfl
  | x :: xs => by rw [List.map_cons, immAll, h, immAll_map h xs]; rfl
theorem flatAll_map {n : Nat} {f : α → D} (h : ∀ x, flat n (f x) = true) : ∀ l : List α, flatAll n (l.map f) = true
  | [] => by rw [List.map_nil, flatAll]
  | x :: xs => by rw [List.map_cons, flatAll, h, flatAll_map h xs]; rfl
theorem imm_dN (n : Nat) : imm (dN n) = true := rfl
theorem imm_dT (l : List Nat) : imm (dT l) = true := immAll_map imm_dN l
theorem imm_dW (w : List (List Nat)) : imm (dW w) = true := immAll_map imm_dT w
theorem flat_dN (k n : Nat) : flat k (dN n) = true := by unfold dN flat; rfl
theorem flat_dT (k : Nat) (l : List Nat) : flat (k + 1) (dT l) = true := by unfold dT flat; exact flatAll_map (flat_dN k) l
theorem flat_dW (k : Nat) (w : List (List Nat)) : flat (k + 2) (dW w) = true := by unfold dW flat; exact flatAll_map (flat_dT k) w
theorem eqv_dN (a b : Nat) : PyData.eqv (dN a) (dN b) = decide (a = b) := by
  unfold dN PyData.eqv
  by_cases h : a = b
  · subst h; simp
  · rw [decide_eq_false h]
    simpa using fun z => h (by omega)
theorem eqvAll_map [DecidableEq α] {f : α → D} (h : ∀ x y, PyData.eqv (f x) (f y) = decide (x = y)) : ∀ l m : List α, PyData.eqvAll (l.map f) (m.map f) = decide (l = m)
  | [], [] => by rw [List.map_nil, PyData.eqvAll]; rfl
  | [], _ :: _ => by rw [List.map_nil, List.map_cons, PyData.eqvAll]; simp
  | _ :: _, [] => by rw [List.map_nil, List.map_cons, PyData.eqvAll]; simp
  | x :: xs, y :: ys => by
    rw [List.map_cons, List.map_cons, PyData.eqvAll, h, eqvAll_map h xs ys]
    simp [Bool.decide_and]
theorem eqv_dT (a b : List Nat) : PyData.eqv (dT a) (dT b) = decide (a = b) := by unfold dT PyData.eqv; exact eqvAll_map eqv_dN a b
theorem eqv_dW (a b : List (List Nat)) : PyData.eqv (dW a) (dW b) = decide (a = b) := by unfold dW PyData.eqv; exact eqvAll_map eqv_dT a b
theorem hasD_map [DecidableEq α] {f : α → D} (h : ∀ x y, PyData.eqv (f x) (f y) = decide (x = y)) (l : List α) (a : α) : hasD (l.map f) (f a) = decide (a ∈ l) := by
  unfold hasD
  rw [List.any_map]
  induction l with
  | nil => simp
  | cons x xs ih =>
    rw [List.any_cons, ih]
    simp only [Function.comp, h]
    by_cases e : x = a
    · subst e; simp
    · rw [decide_eq_false e]
      simp [List.mem_cons, Ne.symm e]
theorem atI_map {f : α → D} {l : List α} {i : Nat} {x : α} (h : l[i]? = some x) : L2.atI (l.map f) (i : Int) = some (f x) := by
  have hi : i < l.length := (List.getElem?_eq_some_iff.mp h).1
  unfold L2.atI L2.ixN
  rw [List.length_map, if_pos (by omega), if_pos (by omega)]
  show (l.map f)[(i : Int).toNat]? = _
  rw [Int.toNat_natCast, List.getElem?_map, h]
  rfl
theorem intsOf_dN : ∀ l : List Nat, intsOf (l.map dN) = some (l.map fun n : Nat => (n : Int))
  | [] => rfl
  | x :: xs => by
    show (intsOf (xs.map dN)).map _ = _
    rw [intsOf_dN xs]; rfl
theorem boolsOf_mapF (f : α → Bool) : ∀ l : List α, boolsOf (l.map fun x => .bool (f x)) = some (l.map f)
  | [] => rfl
  | x :: xs => by
    show (boolsOf (xs.map fun x => .bool (f x))).map _ = _
    rw [boolsOf_mapF f xs]; rfl
/-! ### comprehensions, loops -/
/-- a comprehension with one target -/
theorem lc_eq {i : Nat} {mt : En → T Bool} {me : En → T W} {en : En} (f : α → W) (c : α → Bool) (g : α → D) : ∀ (l : List α), (∀ x ∈ l, mt (en.set i (some ⟨1, f x⟩)) = .ret (c x)) → (∀ x ∈ l, c x = true → me (en.set i (some ⟨1, f x⟩)) = .ret (.d (g x))) →
    lcLoop (fun x => .ret [(i, x)]) [i] mt me en (l.map f) = .ret ((l.filter c).map g)
  | [], _, _ => rfl
  | x :: xs, h1, h2 => by
    have ih := lc_eq f c g xs (fun y hy => h1 y (List.mem_cons_of_mem _ hy)) (fun y hy => h2 y (List.mem_cons_of_mem _ hy))
    rw [List.map_cons, lcLoop]
    show T.must (slotsIn [(i, f x)] [i]) _ = _
    have hs : slotsIn [(i, f x)] [i] = true := by simp [slotsIn]
    rw [hs]
    show (mt (en.set i (some ⟨1, f x⟩))).bind _ = _
    rw [h1 x List.mem_cons_self]
    show (match c x with | true => _ | false => _) = _
    cases hc : c x with
    | false =>
      show lcLoop _ _ _ _ _ _ = _
      rw [ih, List.filter_cons_of_neg (by rw [hc]; decide)]
    | true =>
      show ((me (en.set i (some ⟨1, f x⟩))).bind _) = _
      rw [h2 x List.mem_cons_self hc]
      show (lcLoop _ _ _ _ _ _).bind _ = _
      rw [ih, List.filter_cons_of_pos hc]
      rfl
/-- a loop that only changes the names: how they stand after so many turns -/
theorem for_eq {g : W → T (List (Nat × W))} {mb : En → T Out} (f : α → W) (st : α → List (Nat × W)) (E : List α → En) : ∀ (suf pre : List α), (∀ x ∈ suf, g (f x) = .ret (st x)) → (∀ (p q : List α) (x : α), suf = p ++ x :: q → mb (setsE (E (pre ++ p)) (st x)) = .ret (.nx (E (pre ++ p ++ [x])))) →
    fLoop g mb (suf.map f) (E pre) = .ret (.nx (E (pre ++ suf)))
  | [], pre, _, _ => by rw [List.append_nil]; rfl
  | x :: xs, pre, h1, h2 => by
    rw [List.map_cons, fLoop, h1 x List.mem_cons_self]
    show (mb (setsE (E pre) (st x))).bind _ = _
    have e := h2 [] xs x rfl
    rw [List.append_nil] at e
    rw [e]
    show fLoop g mb (xs.map f) (E (pre ++ [x])) = _
    rw [for_eq f st E xs (pre ++ [x]) (fun y hy => h1 y (List.mem_cons_of_mem _ hy)) fun p q y e => ?_]
    · rw [List.append_assoc]; rfl
    · have := h2 (x :: p) q y (by rw [e]; rfl)
      simpa [List.append_assoc] using this
/-- a loop by what stays true of the names -/
theorem for_inv {g : W → T (List (Nat × W))} {mb : En → T Out} (f : α → W) (st : α → List (Nat × W)) (P : List α → En → Prop) (l : List α) : ∀ (suf pre : List α) (en : En), l = pre ++ suf → P pre en → (∀ (p q : List α) (x : α), l = p ++ x :: q → ∀ en, P p en → g (f x) = .ret (st x) ∧ ∃ en', mb (setsE en (st x)) = .ret (.nx en') ∧ P (p ++ [x]) en') →
    ∃ en', fLoop g mb (suf.map f) en = .ret (.nx en') ∧ P l en'
  | [], pre, en, e, h0, _ => ⟨en, rfl, by rw [List.append_nil] at e; rw [e]; exact h0⟩
  | x :: xs, pre, en, e, h0, hs => by
    obtain ⟨h1, en', h2, h3⟩ := hs pre xs x e en h0
    obtain ⟨en2, h4, h5⟩ := for_inv f st P l xs (pre ++ [x]) en' (by rw [e]; simp) h3 hs
    refine ⟨en2, ?_, h5⟩
    rw [List.map_cons, fLoop, h1]
    show (mb (setsE en (st x))).bind _ = _
    rw [h2]
    exact h4
end
/-! ### operations -/
theorem int_lit (n : Nat) : PyData.int (@OfNat.ofNat Int n _) = dN (OfNat.ofNat n) := rfl
theorem pLt_N (a b : Nat) : pLt (dN a) (dN b) = true := rfl
theorem fLe_N (a b : Nat) : fLe (dN a) (dN b) = decide (a ≤ b) := by
  show (!decide ((b : Int) < (a : Int))) = _
  rw [← decide_not]; exact decide_eq_decide.mpr (by omega)
theorem ltD_N (a b : Nat) : ltD (dN a) (dN b) = decide (a < b) := by
  show decide ((a : Int) < (b : Int)) = _
  exact decide_eq_decide.mpr (by omega)
theorem fNe_N (a b : Nat) : fNe (dN a) (dN b) = !decide (a = b) := by unfold fNe; rw [eqv_dN]
theorem fNe_T (a b : List Nat) : fNe (dT a) (dT b) = !decide (a = b) := by unfold fNe; rw [eqv_dT]
theorem len_T (l : List Nat) : oLenX (.d (dT l)) = .ret (.d (dN l.length)) := by
  show T.ret (W.d (.int ((l.map dN).length : Nat))) = _
  rw [List.length_map]; rfl
theorem len_W (l : List (List Nat)) : oLenX (.d (dW l)) = .ret (.d (dN l.length)) := by
  show T.ret (W.d (.int ((l.map dT).length : Nat))) = _
  rw [List.length_map]; rfl
theorem len_L (l : List D) : oLenX (.d (.list l)) = .ret (.d (dN l.length)) := rfl
theorem add_N (a b : Nat) : oAdd (.d (dN a)) (.d (dN b)) = .ret (.d (dN (a + b))) := rfl
theorem sub_N {a b : Nat} (h : b ≤ a) : oSub (.d (dN a)) (.d (dN b)) = .ret (.d (dN (a - b))) := by
  show T.ret (W.d (.int ((a : Int) - (b : Int)))) = _
  rw [← Int.ofNat_sub h]; rfl
theorem get_T {l : List Nat} {i x : Nat} (h : l[i]? = some x) : oGet (.d (dT l)) (.d (dN i)) = .ret (.d (dN x)) := by
  show T.ofO ((L2.atI (l.map dN) (i : Int)).map W.d) = _
  rw [atI_map h]; rfl
theorem get_W {l : List (List Nat)} {i : Nat} {x : List Nat} (h : l[i]? = some x) : oGet (.d (dW l)) (.d (dN i)) = .ret (.d (dT x)) := by
  show T.ofO ((L2.atI (l.map dT) (i : Int)).map W.d) = _
  rw [atI_map h]; rfl
theorem get_L {α : Type} {f : α → D} {l : List α} {i : Nat} {x : α} (h : l[i]? = some x) : oGet (.d (.list (l.map f))) (.d (dN i)) = .ret (.d (f x)) := by
  show T.ofO ((L2.atI (l.map f) (i : Int)).map W.d) = _
  rw [atI_map h]; rfl
theorem in_T (b : Bool) (a : Nat) (l : List Nat) : oInX b (.d (dN a)) (.d (dT l)) = .ret (.d (.bool (xor b (decide (a ∈ l))))) := by
  unfold dT
  show T.must (flat 20 (dN a) && flatAll 20 (l.map dN)) _ = _
  rw [flat_dN, flatAll_map (flat_dN 20), hasD_map eqv_dN]; rfl
theorem eq_DD {p f : D → D → Bool} {x y : D} (h1 : flat 20 x = true) (h2 : flat 20 y = true) (h3 : p x y = true) : oDD p f (.d x) (.d y) = .ret (.d (.bool (f x y))) := by
  show T.must (flat 20 x && flat 20 y && p x y) _ = _
  rw [h1, h2, h3]; rfl
theorem le_NN (a b : Nat) : oDD pLt fLe (.d (dN a)) (.d (dN b)) = .ret (.d (.bool (decide (a ≤ b)))) := by rw [eq_DD (flat_dN _ _) (flat_dN _ _) (pLt_N _ _), fLe_N]
theorem lt_NN (a b : Nat) : oDD pLt ltD (.d (dN a)) (.d (dN b)) = .ret (.d (.bool (decide (a < b)))) := by rw [eq_DD (flat_dN _ _) (flat_dN _ _) (pLt_N _ _), ltD_N]
theorem gt_NN (a b : Nat) : oDD pLt fGt (.d (dN a)) (.d (dN b)) = .ret (.d (.bool (decide (b < a)))) := by rw [eq_DD (flat_dN _ _) (flat_dN _ _) (pLt_N _ _)]; show T.ret (W.d (.bool (ltD (dN b) (dN a)))) = _; rw [ltD_N]
theorem ge_NN (a b : Nat) : oDD pLt fGe (.d (dN a)) (.d (dN b)) = .ret (.d (.bool (decide (b ≤ a)))) := by
  rw [eq_DD (flat_dN _ _) (flat_dN _ _) (pLt_N _ _)]
  show T.ret (W.d (.bool (!ltD (dN a) (dN b)))) = _
  rw [ltD_N, ← decide_not]; congr 3; exact decide_eq_decide.mpr (by omega)
theorem eq_NN (a b : Nat) : oDD pAny PyData.eqv (.d (dN a)) (.d (dN b)) = .ret (.d (.bool (decide (a = b)))) := by rw [eq_DD (flat_dN _ _) (flat_dN _ _) rfl, eqv_dN]
theorem ne_NN (a b : Nat) : oDD pAny fNe (.d (dN a)) (.d (dN b)) = .ret (.d (.bool (!decide (a = b)))) := by rw [eq_DD (flat_dN _ _) (flat_dN _ _) rfl]; unfold fNe; rw [eqv_dN]
theorem eq_TT (a b : List Nat) : oDD pAny PyData.eqv (.d (dT a)) (.d (dT b)) = .ret (.d (.bool (decide (a = b)))) := by rw [eq_DD (flat_dT _ _) (flat_dT _ _) rfl, eqv_dT]
theorem ne_TT (a b : List Nat) : oDD pAny fNe (.d (dT a)) (.d (dT b)) = .ret (.d (.bool (!decide (a = b)))) := by rw [eq_DD (flat_dT _ _) (flat_dT _ _) rfl]; unfold fNe; rw [eqv_dT]
theorem eq_WW (a b : List (List Nat)) : oDD pAny PyData.eqv (.d (dW a)) (.d (dW b)) = .ret (.d (.bool (decide (a = b)))) := by rw [eq_DD (flat_dW _ _) (flat_dW _ _) rfl, eqv_dW]
theorem ne_WW (a b : List (List Nat)) : oDD pAny fNe (.d (dW a)) (.d (dW b)) = .ret (.d (.bool (!decide (a = b)))) := by rw [eq_DD (flat_dW _ _) (flat_dW _ _) rfl]; unfold fNe; rw [eqv_dW]
theorem eq_LL {α : Type} [DecidableEq α] {f : α → D} (hf : ∀ x, flat 19 (f x) = true) (h : ∀ x y, PyData.eqv (f x) (f y) = decide (x = y)) (a b : List α) : oDD pAny PyData.eqv (.d (.list (a.map f))) (.d (.list (b.map f))) = .ret (.d (.bool (decide (a = b)))) := by
  rw [eq_DD (show flat 20 (.list (a.map f)) = true by unfold flat; exact flatAll_map hf a) (show flat 20 (.list (b.map f)) = true by unfold flat; exact flatAll_map hf b) rfl]
  rw [show PyData.eqv (.list (a.map f)) (.list (b.map f)) = decide (a = b) by unfold PyData.eqv; exact eqvAll_map h a b]
theorem ne_LL {α : Type} [DecidableEq α] {f : α → D} (hf : ∀ x, flat 19 (f x) = true) (h : ∀ x y, PyData.eqv (f x) (f y) = decide (x = y)) (a b : List α) : oDD pAny fNe (.d (.list (a.map f))) (.d (.list (b.map f))) = .ret (.d (.bool (!decide (a = b)))) := by
  rw [eq_DD (show flat 20 (.list (a.map f)) = true by unfold flat; exact flatAll_map hf a) (show flat 20 (.list (b.map f)) = true by unfold flat; exact flatAll_map hf b) rfl]
  unfold fNe
  rw [show PyData.eqv (.list (a.map f)) (.list (b.map f)) = decide (a = b) by unfold PyData.eqv; exact eqvAll_map h a b]
theorem isTup_T (l : List Nat) : oIs PyData.isTuple (.d (dT l)) = .ret (.d (.bool true)) := by
  show T.must (PyData.plain (dT l)) _ = _
  rw [(flat_plain 20 _ (flat_dT 19 l)).1]; rfl
theorem isTup_W (l : List (List Nat)) : oIs PyData.isTuple (.d (dW l)) = .ret (.d (.bool true)) := by
  show T.must (PyData.plain (dW l)) _ = _
  rw [(flat_plain 20 _ (flat_dW 18 l)).1]; rfl
theorem list_T (l : List Nat) : oListX (.d (dT l)) = .ret (.d (.list (l.map dN))) := by
  show oList (.d (dT l)) = _
  unfold oList
  show T.must (immAll (l.map dN)) _ = _
  rw [immAll_map imm_dN]; rfl
theorem tup_L {α : Type} {f : α → D} (h : ∀ x, imm (f x) = true) (l : List α) : oTuple (.d (.list (l.map f))) = .ret (.d (.tuple (l.map f))) := by
  show T.must (immAll (l.map f)) _ = _
  rw [immAll_map h]; rfl
theorem items_T (l : List Nat) : itemsOf (.d (dT l)) = .ret (l.map fun n => W.d (dN n)) := by
  unfold dT
  show T.ret ((l.map dN).map W.d) = _
  rw [List.map_map]; rfl
theorem items_W (l : List (List Nat)) : itemsOf (.d (dW l)) = .ret (l.map fun n => W.d (dT n)) := by
  unfold dW
  show T.ret ((l.map dT).map W.d) = _
  rw [List.map_map]; rfl
theorem rng_N {n : Nat} (h : n ≤ 100000) : rng1 [.d (dN n)] = .ret ((List.range n).map fun i => W.d (dN i)) := by
  show T.must (decide ((n : Int) ≤ 100000) && decide (-100000 ≤ (n : Int))) (.ret (rangeW 0 (n : Int).toNat)) = _
  rw [decide_eq_true (by omega), decide_eq_true (by omega)]
  show T.ret (rangeW 0 (n : Int).toNat) = _
  unfold rangeW
  rw [Int.toNat_natCast]
  congr 1
  exact List.map_congr_left fun i _ => by rw [Int.zero_add]; rfl
theorem enumD_map {α : Type} {f : α → D} : ∀ (l : List α) (k : Nat), enumD k (l.map f) = (l.zipIdx k).map fun p => W.d (.tuple [dN p.2, f p.1])
  | [], _ => rfl
  | x :: xs, k => by rw [List.map_cons, enumD, enumD_map xs (k + 1)]; rfl
theorem enum_T (l : List Nat) : enumOf [.d (dT l)] = .ret (l.zipIdx.map fun p => W.d (.tuple [dN p.2, dN p.1])) := by
  unfold dT
  show T.ret (enumD 0 (l.map dN)) = _
  rw [enumD_map]
theorem enum_W (l : List (List Nat)) : enumOf [.d (dW l)] = .ret (l.zipIdx.map fun p => W.d (.tuple [dN p.2, dT p.1])) := by
  unfold dW
  show T.ret (enumD 0 (l.map dT)) = _
  rw [enumD_map]
theorem sortI_up : ∀ {l : List Nat}, l.Pairwise (· < ·) → sortI (l.map fun n : Nat => (n : Int)) = l.map fun n : Nat => (n : Int)
  | [], _ => rfl
  | x :: xs, h => by
    rw [List.map_cons, sortI, sortI_up (List.pairwise_cons.mp h).2]
    cases xs with
    | nil => rfl
    | cons y ys =>
      have hxy : x < y := (List.pairwise_cons.mp h).1 y List.mem_cons_self
      rw [List.map_cons, insI, decide_eq_true (by omega)]
theorem tupsIn_T (l : List Nat) : tupsIn (.d (dT l)) = none := rfl
/-- sorted(set(x)) of a rising row -/
theorem sortSet_up {l : List Nat} (h : l.Pairwise (· < ·)) (hl : l.length ≤ 63) : oSortSetX (.d (dT l)) = .ret (.d (.list (l.map dN))) := by
  unfold oSortSetX
  rw [tupsIn_T]
  show oSortSet (.d (dT l)) = _
  unfold oSortSet
  show (T.ofO (intsOf (l.map dN))).bind _ = _
  rw [intsOf_dN]
  show T.must _ _ = _
  rw [sortI_up h, List.length_map, show Nat.ble l.length 1000 = true from Nat.ble_eq_true_of_le (by omega), show Nat.ble l.length 63 = true from Nat.ble_eq_true_of_le hl]
  show T.ret (W.d (.list ((l.map fun n : Nat => (n : Int)).map PyData.int))) = _
  rw [List.map_map]; rfl
theorem any_L (l : List Bool) : oAny (.d (.list (l.map PyData.bool))) = .ret (.d (.bool (l.any id))) := by
  show (T.ofO (boolsOf (l.map PyData.bool))).bind _ = _
  rw [show boolsOf (l.map PyData.bool) = some l from by have := boolsOf_mapF id l; simpa using this]; rfl
theorem all_L (l : List Bool) : oAll (.d (.list (l.map PyData.bool))) = .ret (.d (.bool (l.all id))) := by
  show (T.ofO (boolsOf (l.map PyData.bool))).bind _ = _
  rw [show boolsOf (l.map PyData.bool) = some l from by have := boolsOf_mapF id l; simpa using this]; rfl
theorem il0 : PyData.int 0 = dN 0 := rfl
theorem il1 : PyData.int 1 = dN 1 := rfl
theorem il2 : PyData.int 2 = dN 2 := rfl
theorem il3 : PyData.int 3 = dN 3 := rfl
theorem il4 : PyData.int 4 = dN 4 := rfl
theorem il5 : PyData.int 5 = dN 5 := rfl
theorem il6 : PyData.int 6 = dN 6 := rfl
theorem il7 : PyData.int 7 = dN 7 := rfl
theorem il8 : PyData.int 8 = dN 8 := rfl
theorem il9 : PyData.int 9 = dN 9 := rfl
theorem il10 : PyData.int 10 = dN 10 := rfl
theorem il11 : PyData.int 11 = dN 11 := rfl
theorem il12 : PyData.int 12 = dN 12 := rfl
theorem il60 : PyData.int 60 = dN 60 := rfl
/-! ### steps -/
theorem seq_nx {m1 m2 : En → T Out} {en en1 : En} {r : T Out} (h1 : m1 en = .ret (.nx en1)) (h2 : m2 en1 = r) : mSeq m1 m2 en = r := by
  unfold mSeq; rw [h1]; exact h2
theorem seq_rt {m1 m2 : En → T Out} {en : En} {x : W} (h1 : m1 en = .ret (.rt x)) : mSeq m1 m2 en = .ret (.rt x) := by
  unfold mSeq; rw [h1]; rfl
theorem fnV_rt {n : Nat} {m : En → T Out} {xs : List W} {x : W} (h : m (enOf n xs) = .ret (.rt x)) : fnV n m xs = .ret x := by
  unfold fnV; rw [h]; rfl
theorem fnV_nx {n : Nat} {m : En → T Out} {xs : List W} {en : En} (h : m (enOf n xs) = .ret (.nx en)) : fnV n m xs = .ret (.d .none) := by
  unfold fnV; rw [h]; rfl
theorem fnV_ex {n : Nat} {m : En → T Out} {xs : List W} (h : ∃ en, m (enOf n xs) = .ret (.nx en)) : fnV n m xs = .ret (.d .none) := h.elim fun _ e => fnV_nx e
theorem seq_ex {m1 m2 : En → T Out} {en : En} (h : ∃ en1, m1 en = .ret (.nx en1) ∧ ∃ en2, m2 en1 = .ret (.nx en2)) : ∃ en2, mSeq m1 m2 en = .ret (.nx en2) := by
  obtain ⟨en1, h1, en2, h2⟩ := h
  exact ⟨en2, seq_nx h1 h2⟩
theorem ifS_f {mt : En → T Bool} {a b : En → T Out} {en : En} {r : T Out} (h : mt en = .ret false) (h2 : b en = r) : mIfS mt a b en = r := by
  unfold mIfS; rw [h]; exact h2
theorem ifS_t {mt : En → T Bool} {a b : En → T Out} {en : En} {r : T Out} (h : mt en = .ret true) (h2 : a en = r) : mIfS mt a b en = r := by
  unfold mIfS; rw [h]; exact h2
theorem cons_eq {m : En → T W} {ms : En → T (List W)} {en : En} {x : W} {xs : List W} (h1 : m en = .ret x) (h2 : ms en = .ret xs) : mCons m ms en = .ret (x :: xs) := by
  unfold mCons; rw [h1]; show ((ms en).bind _) = _; rw [h2]; rfl
theorem call_eq {phi : List W → T W} {ms : En → T (List W)} {en : En} {xs : List W} (h : ms en = .ret xs) : mCall phi ms en = phi xs := by
  unfold mCall; rw [h]; rfl
theorem mIf_t {mt : En → T Bool} {a b : En → T W} {en : En} {r : T W} (h : mt en = .ret true) (h2 : a en = r) : mIf mt a b en = r := by
  unfold mIf; rw [h]; exact h2
theorem mIf_f {mt : En → T Bool} {a b : En → T W} {en : En} {r : T W} (h : mt en = .ret false) (h2 : b en = r) : mIf mt a b en = r := by
  unfold mIf; rw [h]; exact h2
theorem orF {a b : En → T Bool} {en : En} (h1 : a en = .ret false) (h2 : b en = .ret false) : tOrM a b en = .ret false := by
  unfold tOrM; rw [h1]; exact h2
theorem notF {a : En → T Bool} {en : En} (h1 : a en = .ret true) : tNotM a en = .ret false := by
  unfold tNotM; rw [h1]; rfl
theorem notT {a : En → T Bool} {en : En} (h1 : a en = .ret false) : tNotM a en = .ret true := by
  unfold tNotM; rw [h1]; rfl
theorem mT_b {m : En → T W} {en : En} {b : Bool} (h : m en = .ret (.d (.bool b))) : mT m en = .ret b := by
  unfold mT; rw [h]; rfl
theorem args1 {m : En → T W} {op : W → T W} {en : En} {x : W} (h : m en = .ret x) : mArgs (o1 op) (mCons m mNil) en = op x := by
  unfold mArgs mCons mNil; rw [h]; rfl
theorem must_le {α : Type} {a b : Nat} {t : T α} (h : a ≤ b) : T.must (Nat.ble a b) t = t := by rw [Nat.ble_eq_true_of_le h]; rfl
theorem neg_1 : oNeg (.d (dN 1)) = .ret (.d (.int (-1))) := rfl
theorem dOf_d {x : D} : dOf (.d x) = .ret x := rfl
theorem ret_eq {m : En → T W} {en : En} {x : W} (h : m en = .ret x) : mRet m en = .ret (.rt x) := by
  unfold mRet; rw [h]; rfl
theorem set_eq {m : En → T W} {en : En} {x : W} {i : Nat} (h : m en = .ret x) : mSet i m en = .ret (.nx (en.set i (some ⟨0, x⟩))) := by
  unfold mSet; rw [h]; rfl
theorem drop_eq {m : En → T W} {en : En} {x : W} (h : m en = .ret x) : mDrop m en = .ret (.nx en) := by
  unfold mDrop; rw [h]; rfl
theorem mLC_eq {α : Type} {mi : En → T (List W)} {i : Nat} {mt : En → T Bool} {me : En → T W} {en : En} (l : List α) (f : α → W) (c : α → Bool) (g : α → D) (hi : mi en = .ret (l.map f)) (hl : l.length ≤ 1000)
    (h1 : ∀ x ∈ l, mt ((en.set i none).set i (some ⟨1, f x⟩)) = .ret (c x)) (h2 : ∀ x ∈ l, c x = true → me ((en.set i none).set i (some ⟨1, f x⟩)) = .ret (.d (g x))) :
    mLC mi (fun x => .ret [(i, x)]) [i] mt me en = .ret (.d (.list ((l.filter c).map g))) := by
  unfold mLC
  rw [hi]
  show T.must (Nat.ble (l.map f).length lim) _ = _
  rw [List.length_map, show Nat.ble l.length lim = true from Nat.ble_eq_true_of_le (by unfold lim; omega)]
  show (lcLoop _ _ _ _ (en.set i none) (l.map f)).bind _ = _
  rw [lc_eq f c g l h1 h2]
  rfl
theorem mLC_all {α : Type} {mi : En → T (List W)} {i : Nat} {me : En → T W} {en : En} (l : List α) (f : α → W) (g : α → D) (hi : mi en = .ret (l.map f)) (hl : l.length ≤ 1000)
    (h2 : ∀ x ∈ l, me ((en.set i none).set i (some ⟨1, f x⟩)) = .ret (.d (g x))) :
    mLC mi (fun x => .ret [(i, x)]) [i] (fun _ => .ret true) me en = .ret (.d (.list (l.map g))) := by
  rw [mLC_eq l f (fun _ => true) g hi hl (fun _ _ => rfl) fun x hx _ => h2 x hx, List.filter_eq_self.mpr fun _ _ => rfl]
theorem mFor_inv {α : Type} {ns : List Nat} {mi : En → T (List W)} {g : W → T (List (Nat × W))} {mb : En → T Out} {en : En} (l : List α) (f : α → W) (st : α → List (Nat × W)) (P : List α → En → Prop) (hi : mi (visE ns 0 en) = .ret (l.map f)) (h0 : P [] (demE ns 0 en))
    (hs : ∀ (p q : List α) (x : α), l = p ++ x :: q → ∀ en, P p en → g (f x) = .ret (st x) ∧ ∃ en', mb (setsE en (st x)) = .ret (.nx en') ∧ P (p ++ [x]) en') : ∃ en', mFor ns mi g mb en = .ret (.nx en') ∧ P l en' := by
  unfold mFor
  rw [hi]
  exact for_inv f st P l l [] _ rfl h0 hs
theorem mFor0_inv {α : Type} {mi : En → T (List W)} {g : W → T (List (Nat × W))} {mb : En → T Out} {en : En} (l : List α) (f : α → W) (st : α → List (Nat × W)) (P : List α → En → Prop) (hi : mi en = .ret (l.map f)) (h0 : P [] en)
    (hs : ∀ (p q : List α) (x : α), l = p ++ x :: q → ∀ en, P p en → g (f x) = .ret (st x) ∧ ∃ en', mb (setsE en (st x)) = .ret (.nx en') ∧ P (p ++ [x]) en') : ∃ en', mFor0 mi g mb en = .ret (.nx en') ∧ P l en' := by
  unfold mFor0
  rw [hi]
  exact for_inv f st P l l [] _ rfl h0 hs
theorem any_map {α : Type} (f : α → Bool) (l : List α) : oAny (.d (.list (l.map fun x => .bool (f x)))) = .ret (.d (.bool (l.any f))) := by
  show (T.ofO (boolsOf _)).bind _ = _
  rw [boolsOf_mapF f l]
  show T.ret (W.d (.bool ((l.map f).any id))) = _
  rw [List.any_map]; rfl
theorem all_map {α : Type} (f : α → Bool) (l : List α) : oAll (.d (.list (l.map fun x => .bool (f x)))) = .ret (.d (.bool (l.all f))) := by
  show (T.ofO (boolsOf _)).bind _ = _
  rw [boolsOf_mapF f l]
  show T.ret (W.d (.bool ((l.map f).all id))) = _
  rw [List.all_map]; rfl
end G

set_option Elab.async false
set_option linter.all false
set_option maxRecDepth 100000
namespace G
open PySem PySem.Spec PyProof.Rows L2
/-! S2: checks, calls. -/
theorem ph_is_integer_N (n : Nat) : ph_is_integer [.d (dN n)] = .ret (.d (.bool true)) := rfl
theorem ph_is_in_N {n a b : Nat} : ph_is_in [.d (dN n), .d (dN a), .d (dN b)] = .ret (.d (.bool (decide (a ≤ n) && decide (n ≤ b)))) := by
  unfold ph_is_in
  simp [fnV, enOf, mSeq, mRet, mRetV, mAnd, mOr, mIf, mIfS, mT, tNotM, tAndM, tOrM, mCall, mArgs, mCons, mNil, mVar, mC, m1, m2, o1, o2, mDrop, mSet, mSets, mUnp, mTup, mLst, mImm, datas, setsO, bindO, bind_ret, bind_fail, must_t, ofO_some, isB, mChain, Nat.beq, List.replicate, il0, il1, il2, il3, il4, il5, il6, il7, il8, il9, il10, il11, il12, il60, setsE, visE, demE, visO, demO, gTupM, gsCons, gsNil, len_T, len_W, len_L, add_N, sub_N, in_T, le_NN, lt_NN, gt_NN, ge_NN, eq_NN, ne_NN, eq_TT, ne_TT, eq_WW, ne_WW, -List.getD_eq_getElem?_getD, oNot, neg_1, dOf_d, isTup_T, isTup_W, list_T, ph_is_integer_N]
  cases decide (a ≤ n) <;> rfl
theorem ph_is_list_T {l : List Nat} {a b : Nat} : ph_is_list [.d (dT l), .d (dN a), .d (dN b)] = .ret (.d (.bool (decide (a ≤ l.length) && decide (l.length ≤ b)))) := by
  unfold ph_is_list
  simp [fnV, enOf, mSeq, mRet, mRetV, mAnd, mOr, mIf, mIfS, mT, tNotM, tAndM, tOrM, mCall, mArgs, mCons, mNil, mVar, mC, m1, m2, o1, o2, mDrop, mSet, mSets, mUnp, mTup, mLst, mImm, datas, setsO, bindO, bind_ret, bind_fail, must_t, ofO_some, isB, mChain, Nat.beq, List.replicate, il0, il1, il2, il3, il4, il5, il6, il7, il8, il9, il10, il11, il12, il60, setsE, visE, demE, visO, demO, gTupM, gsCons, gsNil, len_T, len_W, len_L, add_N, sub_N, in_T, le_NN, lt_NN, gt_NN, ge_NN, eq_NN, ne_NN, eq_TT, ne_TT, eq_WW, ne_WW, -List.getD_eq_getElem?_getD, oNot, neg_1, dOf_d, isTup_T, isTup_W, list_T]
  cases decide (a ≤ l.length) <;> rfl
theorem ph_is_list_W {l : List (List Nat)} {a b : Nat} : ph_is_list [.d (dW l), .d (dN a), .d (dN b)] = .ret (.d (.bool (decide (a ≤ l.length) && decide (l.length ≤ b)))) := by
  unfold ph_is_list
  simp [fnV, enOf, mSeq, mRet, mRetV, mAnd, mOr, mIf, mIfS, mT, tNotM, tAndM, tOrM, mCall, mArgs, mCons, mNil, mVar, mC, m1, m2, o1, o2, mDrop, mSet, mSets, mUnp, mTup, mLst, mImm, datas, setsO, bindO, bind_ret, bind_fail, must_t, ofO_some, isB, mChain, Nat.beq, List.replicate, il0, il1, il2, il3, il4, il5, il6, il7, il8, il9, il10, il11, il12, il60, setsE, visE, demE, visO, demO, gTupM, gsCons, gsNil, len_T, len_W, len_L, add_N, sub_N, in_T, le_NN, lt_NN, gt_NN, ge_NN, eq_NN, ne_NN, eq_TT, ne_TT, eq_WW, ne_WW, -List.getD_eq_getElem?_getD, oNot, neg_1, dOf_d, isTup_T, isTup_W, list_T]
  cases decide (a ≤ l.length) <;> rfl
/-- a web: rows that rise, no house its own neighbour, both ways -/
structure Web (w : List (List Nat)) : Prop where
  pos : 1 ≤ w.length
  most : w.length ≤ 6
  up : ∀ (i : Nat) (near : List Nat), w[i]? = some near → near.Pairwise (· < ·)
  few : ∀ (i : Nat) (near : List Nat), w[i]? = some near → near.length ≤ w.length - 1
  within : ∀ (i : Nat) (near : List Nat), w[i]? = some near → ∀ j ∈ near, j < w.length
  own : ∀ (i : Nat) (near : List Nat), w[i]? = some near → i ∉ near
  both : ∀ (i : Nat) (near : List Nat), w[i]? = some near → ∀ j ∈ near, ∃ far, w[j]? = some far ∧ i ∈ far
theorem zip_of {α : Type} {p q : List (α × Nat)} {m : List α} {x : α × Nat} (h : m.zipIdx = p ++ x :: q) : m[x.2]? = some x.1 := by
  have : x ∈ m.zipIdx := by rw [h]; simp
  exact List.mk_mem_zipIdx_iff_getElem?.mp this
theorem ph_need_web_ok {w : List (List Nat)} (ok : Web w) : ph_need_web [.d (dW w)] = .ret (.d .none) := by
  have h1 := ok.pos
  have h6 := ok.most
  unfold ph_need_web
  refine fnV_ex (seq_ex ⟨[some ⟨1, .d (dW w)⟩, none, none, none, none], ?_, seq_ex ⟨[some ⟨1, .d (dW w)⟩, some ⟨0, .d (dN w.length)⟩, none, none, none], ?_, seq_ex ?_⟩⟩)
  · refine ifS_f ?_ rfl
    simp [fnV, enOf, mSeq, mRet, mRetV, mAnd, mOr, mIf, mIfS, mT, tNotM, tAndM, tOrM, mCall, mArgs, mCons, mNil, mVar, mC, m1, m2, o1, o2, mDrop, mSet, mSets, mUnp, mTup, mLst, mImm, datas, setsO, bindO, bind_ret, bind_fail, must_t, ofO_some, isB, mChain, Nat.beq, List.replicate, il0, il1, il2, il3, il4, il5, il6, il7, il8, il9, il10, il11, il12, il60, setsE, visE, demE, visO, demO, gTupM, gsCons, gsNil, len_T, len_W, len_L, add_N, sub_N, in_T, le_NN, lt_NN, gt_NN, ge_NN, eq_NN, ne_NN, eq_TT, ne_TT, eq_WW, ne_WW, -List.getD_eq_getElem?_getD, oNot, neg_1, dOf_d, isTup_T, isTup_W, list_T, ph_is_list_W]
    omega
  · simp [fnV, enOf, mSeq, mRet, mRetV, mAnd, mOr, mIf, mIfS, mT, tNotM, tAndM, tOrM, mCall, mArgs, mCons, mNil, mVar, mC, m1, m2, o1, o2, mDrop, mSet, mSets, mUnp, mTup, mLst, mImm, datas, setsO, bindO, bind_ret, bind_fail, must_t, ofO_some, isB, mChain, Nat.beq, List.replicate, il0, il1, il2, il3, il4, il5, il6, il7, il8, il9, il10, il11, il12, il60, setsE, visE, demE, visO, demO, gTupM, gsCons, gsNil, len_T, len_W, len_L, add_N, sub_N, in_T, le_NN, lt_NN, gt_NN, ge_NN, eq_NN, ne_NN, eq_TT, ne_TT, eq_WW, ne_WW, -List.getD_eq_getElem?_getD, oNot, neg_1, dOf_d, isTup_T, isTup_W, list_T]
  · refine (mFor_inv w.zipIdx (fun p => .d (.tuple [dN p.2, dT p.1])) (fun p => [(2, .d (dN p.2)), (3, .d (dT p.1))]) (fun _ en => ∃ a b, en = [some ⟨1, .d (dW w)⟩, some ⟨0, .d (dN w.length)⟩, a, b, none]) ?_ ?_ ?_).elim fun en1 ⟨e1, a, b, e2⟩ => ⟨en1, e1, ?_⟩
    · simp [fnV, enOf, mSeq, mRet, mRetV, mAnd, mOr, mIf, mIfS, mT, tNotM, tAndM, tOrM, mCall, mArgs, mCons, mNil, mVar, mC, m1, m2, o1, o2, mDrop, mSet, mSets, mUnp, mTup, mLst, mImm, datas, setsO, bindO, bind_ret, bind_fail, must_t, ofO_some, isB, mChain, Nat.beq, List.replicate, il0, il1, il2, il3, il4, il5, il6, il7, il8, il9, il10, il11, il12, il60, setsE, visE, demE, visO, demO, gTupM, gsCons, gsNil, len_T, len_W, len_L, add_N, sub_N, in_T, le_NN, lt_NN, gt_NN, ge_NN, eq_NN, ne_NN, eq_TT, ne_TT, eq_WW, ne_WW, -List.getD_eq_getElem?_getD, oNot, neg_1, dOf_d, isTup_T, isTup_W, list_T, enum_W]
    · exact ⟨none, none, by simp [fnV, enOf, mSeq, mRet, mRetV, mAnd, mOr, mIf, mIfS, mT, tNotM, tAndM, tOrM, mCall, mArgs, mCons, mNil, mVar, mC, m1, m2, o1, o2, mDrop, mSet, mSets, mUnp, mTup, mLst, mImm, datas, setsO, bindO, bind_ret, bind_fail, must_t, ofO_some, isB, mChain, Nat.beq, List.replicate, il0, il1, il2, il3, il4, il5, il6, il7, il8, il9, il10, il11, il12, il60, setsE, visE, demE, visO, demO, gTupM, gsCons, gsNil, len_T, len_W, len_L, add_N, sub_N, in_T, le_NN, lt_NN, gt_NN, ge_NN, eq_NN, ne_NN, eq_TT, ne_TT, eq_WW, ne_WW, -List.getD_eq_getElem?_getD, oNot, neg_1, dOf_d, isTup_T, isTup_W, list_T]⟩
    · rintro p q ⟨near, i⟩ e en ⟨a, b, rfl⟩
      have hx := zip_of e
      have hx : w[i]? = some near := hx
      have hf := ok.few i near hx
      refine ⟨by simp [fnV, enOf, mSeq, mRet, mRetV, mAnd, mOr, mIf, mIfS, mT, tNotM, tAndM, tOrM, mCall, mArgs, mCons, mNil, mVar, mC, m1, m2, o1, o2, mDrop, mSet, mSets, mUnp, mTup, mLst, mImm, datas, setsO, bindO, bind_ret, bind_fail, must_t, ofO_some, isB, mChain, Nat.beq, List.replicate, il0, il1, il2, il3, il4, il5, il6, il7, il8, il9, il10, il11, il12, il60, setsE, visE, demE, visO, demO, gTupM, gsCons, gsNil, len_T, len_W, len_L, add_N, sub_N, in_T, le_NN, lt_NN, gt_NN, ge_NN, eq_NN, ne_NN, eq_TT, ne_TT, eq_WW, ne_WW, -List.getD_eq_getElem?_getD, oNot, neg_1, dOf_d, isTup_T, isTup_W, list_T], _, seq_nx (ifS_f ?_ rfl) (seq_nx (ifS_f ?_ rfl) rfl), ⟨_, _, rfl⟩⟩
      · refine orF (notF ?_) (notF (mT_b ((args1 (mLC_all near (fun n => .d (dN n)) (fun _ => .bool true) ?_ (by omega) ?_)).trans ?_)))
        · simp [fnV, enOf, mSeq, mRet, mRetV, mAnd, mOr, mIf, mIfS, mT, tNotM, tAndM, tOrM, mCall, mArgs, mCons, mNil, mVar, mC, m1, m2, o1, o2, mDrop, mSet, mSets, mUnp, mTup, mLst, mImm, datas, setsO, bindO, bind_ret, bind_fail, must_t, ofO_some, isB, mChain, Nat.beq, List.replicate, il0, il1, il2, il3, il4, il5, il6, il7, il8, il9, il10, il11, il12, il60, setsE, visE, demE, visO, demO, gTupM, gsCons, gsNil, len_T, len_W, len_L, add_N, sub_N, in_T, le_NN, lt_NN, gt_NN, ge_NN, eq_NN, ne_NN, eq_TT, ne_TT, eq_WW, ne_WW, -List.getD_eq_getElem?_getD, oNot, neg_1, dOf_d, isTup_T, isTup_W, list_T, ph_is_list_T, sub_N h1, hf]
        · simp [fnV, enOf, mSeq, mRet, mRetV, mAnd, mOr, mIf, mIfS, mT, tNotM, tAndM, tOrM, mCall, mArgs, mCons, mNil, mVar, mC, m1, m2, o1, o2, mDrop, mSet, mSets, mUnp, mTup, mLst, mImm, datas, setsO, bindO, bind_ret, bind_fail, must_t, ofO_some, isB, mChain, Nat.beq, List.replicate, il0, il1, il2, il3, il4, il5, il6, il7, il8, il9, il10, il11, il12, il60, setsE, visE, demE, visO, demO, gTupM, gsCons, gsNil, len_T, len_W, len_L, add_N, sub_N, in_T, le_NN, lt_NN, gt_NN, ge_NN, eq_NN, ne_NN, eq_TT, ne_TT, eq_WW, ne_WW, -List.getD_eq_getElem?_getD, oNot, neg_1, dOf_d, isTup_T, isTup_W, list_T, items_T]
        · intro x hx'
          have := ok.within i near hx x hx'
          simp [fnV, enOf, mSeq, mRet, mRetV, mAnd, mOr, mIf, mIfS, mT, tNotM, tAndM, tOrM, mCall, mArgs, mCons, mNil, mVar, mC, m1, m2, o1, o2, mDrop, mSet, mSets, mUnp, mTup, mLst, mImm, datas, setsO, bindO, bind_ret, bind_fail, must_t, ofO_some, isB, mChain, Nat.beq, List.replicate, il0, il1, il2, il3, il4, il5, il6, il7, il8, il9, il10, il11, il12, il60, setsE, visE, demE, visO, demO, gTupM, gsCons, gsNil, len_T, len_W, len_L, add_N, sub_N, in_T, le_NN, lt_NN, gt_NN, ge_NN, eq_NN, ne_NN, eq_TT, ne_TT, eq_WW, ne_WW, -List.getD_eq_getElem?_getD, oNot, neg_1, dOf_d, isTup_T, isTup_W, list_T, ph_is_in_N, sub_N h1]
          omega
        · rw [all_map (fun _ => true)]; simp
      · refine orF ?_ ?_
        · simp [fnV, enOf, mSeq, mRet, mRetV, mAnd, mOr, mIf, mIfS, mT, tNotM, tAndM, tOrM, mCall, mArgs, mCons, mNil, mVar, mC, m1, m2, o1, o2, mDrop, mSet, mSets, mUnp, mTup, mLst, mImm, datas, setsO, bindO, bind_ret, bind_fail, must_t, ofO_some, isB, mChain, Nat.beq, List.replicate, il0, il1, il2, il3, il4, il5, il6, il7, il8, il9, il10, il11, il12, il60, setsE, visE, demE, visO, demO, gTupM, gsCons, gsNil, len_T, len_W, len_L, add_N, sub_N, in_T, le_NN, lt_NN, gt_NN, ge_NN, eq_NN, ne_NN, eq_TT, ne_TT, eq_WW, ne_WW, -List.getD_eq_getElem?_getD, oNot, neg_1, dOf_d, isTup_T, isTup_W, list_T, sortSet_up (ok.up i near hx) (by omega), ne_LL (flat_dN 19) eqv_dN]
        · simp [fnV, enOf, mSeq, mRet, mRetV, mAnd, mOr, mIf, mIfS, mT, tNotM, tAndM, tOrM, mCall, mArgs, mCons, mNil, mVar, mC, m1, m2, o1, o2, mDrop, mSet, mSets, mUnp, mTup, mLst, mImm, datas, setsO, bindO, bind_ret, bind_fail, must_t, ofO_some, isB, mChain, Nat.beq, List.replicate, il0, il1, il2, il3, il4, il5, il6, il7, il8, il9, il10, il11, il12, il60, setsE, visE, demE, visO, demO, gTupM, gsCons, gsNil, len_T, len_W, len_L, add_N, sub_N, in_T, le_NN, lt_NN, gt_NN, ge_NN, eq_NN, ne_NN, eq_TT, ne_TT, eq_WW, ne_WW, -List.getD_eq_getElem?_getD, oNot, neg_1, dOf_d, isTup_T, isTup_W, list_T]
          exact ok.own i near hx
    · subst e2
      refine seq_ex ((mFor_inv w.zipIdx (fun p => .d (.tuple [dN p.2, dT p.1])) (fun p => [(2, .d (dN p.2)), (3, .d (dT p.1))]) (fun _ en => ∃ a b, en = [some ⟨1, .d (dW w)⟩, some ⟨0, .d (dN w.length)⟩, a, b, none]) ?_ ?_ ?_).elim fun en1 ⟨e1, a, b, e2⟩ => ⟨en1, e1, _, rfl⟩)
      · simp [fnV, enOf, mSeq, mRet, mRetV, mAnd, mOr, mIf, mIfS, mT, tNotM, tAndM, tOrM, mCall, mArgs, mCons, mNil, mVar, mC, m1, m2, o1, o2, mDrop, mSet, mSets, mUnp, mTup, mLst, mImm, datas, setsO, bindO, bind_ret, bind_fail, must_t, ofO_some, isB, mChain, Nat.beq, List.replicate, il0, il1, il2, il3, il4, il5, il6, il7, il8, il9, il10, il11, il12, il60, setsE, visE, demE, visO, demO, gTupM, gsCons, gsNil, len_T, len_W, len_L, add_N, sub_N, in_T, le_NN, lt_NN, gt_NN, ge_NN, eq_NN, ne_NN, eq_TT, ne_TT, eq_WW, ne_WW, -List.getD_eq_getElem?_getD, oNot, neg_1, dOf_d, isTup_T, isTup_W, list_T, enum_W]
      · exact ⟨_, _, rfl⟩
      · rintro p q ⟨near, i⟩ e en ⟨a, b, rfl⟩
        have hx := zip_of e
        have hx : w[i]? = some near := hx
        have hf := ok.few i near hx
        refine ⟨by simp [fnV, enOf, mSeq, mRet, mRetV, mAnd, mOr, mIf, mIfS, mT, tNotM, tAndM, tOrM, mCall, mArgs, mCons, mNil, mVar, mC, m1, m2, o1, o2, mDrop, mSet, mSets, mUnp, mTup, mLst, mImm, datas, setsO, bindO, bind_ret, bind_fail, must_t, ofO_some, isB, mChain, Nat.beq, List.replicate, il0, il1, il2, il3, il4, il5, il6, il7, il8, il9, il10, il11, il12, il60, setsE, visE, demE, visO, demO, gTupM, gsCons, gsNil, len_T, len_W, len_L, add_N, sub_N, in_T, le_NN, lt_NN, gt_NN, ge_NN, eq_NN, ne_NN, eq_TT, ne_TT, eq_WW, ne_WW, -List.getD_eq_getElem?_getD, oNot, neg_1, dOf_d, isTup_T, isTup_W, list_T], _, seq_nx (ifS_f ?_ rfl) rfl, ⟨_, _, rfl⟩⟩
        refine mT_b ((args1 (mLC_all near (fun n => .d (dN n)) (fun _ => .bool false) ?_ (by omega) ?_)).trans ?_)
        · simp [fnV, enOf, mSeq, mRet, mRetV, mAnd, mOr, mIf, mIfS, mT, tNotM, tAndM, tOrM, mCall, mArgs, mCons, mNil, mVar, mC, m1, m2, o1, o2, mDrop, mSet, mSets, mUnp, mTup, mLst, mImm, datas, setsO, bindO, bind_ret, bind_fail, must_t, ofO_some, isB, mChain, Nat.beq, List.replicate, il0, il1, il2, il3, il4, il5, il6, il7, il8, il9, il10, il11, il12, il60, setsE, visE, demE, visO, demO, gTupM, gsCons, gsNil, len_T, len_W, len_L, add_N, sub_N, in_T, le_NN, lt_NN, gt_NN, ge_NN, eq_NN, ne_NN, eq_TT, ne_TT, eq_WW, ne_WW, -List.getD_eq_getElem?_getD, oNot, neg_1, dOf_d, isTup_T, isTup_W, list_T, items_T]
        · intro x hx'
          obtain ⟨far, h1, h2⟩ := ok.both i near hx x hx'
          simp [fnV, enOf, mSeq, mRet, mRetV, mAnd, mOr, mIf, mIfS, mT, tNotM, tAndM, tOrM, mCall, mArgs, mCons, mNil, mVar, mC, m1, m2, o1, o2, mDrop, mSet, mSets, mUnp, mTup, mLst, mImm, datas, setsO, bindO, bind_ret, bind_fail, must_t, ofO_some, isB, mChain, Nat.beq, List.replicate, il0, il1, il2, il3, il4, il5, il6, il7, il8, il9, il10, il11, il12, il60, setsE, visE, demE, visO, demO, gTupM, gsCons, gsNil, len_T, len_W, len_L, add_N, sub_N, in_T, le_NN, lt_NN, gt_NN, ge_NN, eq_NN, ne_NN, eq_TT, ne_TT, eq_WW, ne_WW, -List.getD_eq_getElem?_getD, oNot, neg_1, dOf_d, isTup_T, isTup_W, list_T, get_W h1, h2]
        · rw [any_map (fun _ => false)]; simp
theorem ph_need_house_ok {w : List (List Nat)} {h : Nat} (hh : h < w.length) : ph_need_house [.d (dW w), .d (dN h)] = .ret (.d .none) := by
  unfold ph_need_house
  refine fnV_ex (seq_ex ⟨_, ifS_f ?_ rfl, _, rfl⟩)
  simp [fnV, enOf, mSeq, mRet, mRetV, mAnd, mOr, mIf, mIfS, mT, tNotM, tAndM, tOrM, mCall, mArgs, mCons, mNil, mVar, mC, m1, m2, o1, o2, mDrop, mSet, mSets, mUnp, mTup, mLst, mImm, datas, setsO, bindO, bind_ret, bind_fail, must_t, ofO_some, isB, mChain, Nat.beq, List.replicate, il0, il1, il2, il3, il4, il5, il6, il7, il8, il9, il10, il11, il12, il60, setsE, visE, demE, visO, demO, gTupM, gsCons, gsNil, len_T, len_W, len_L, add_N, sub_N, in_T, le_NN, lt_NN, gt_NN, ge_NN, eq_NN, ne_NN, eq_TT, ne_TT, eq_WW, ne_WW, -List.getD_eq_getElem?_getD, oNot, neg_1, dOf_d, isTup_T, isTup_W, list_T, ph_is_in_N, sub_N (show 1 ≤ w.length by omega)]
  omega
/-- houses of so many -/
def Row (n : Nat) (l : List Nat) : Prop := ∀ x ∈ l, x < n
theorem ph_need_where_ok {w : List (List Nat)} {l : List Nat} (h1 : 1 ≤ l.length) (h6 : l.length ≤ 6) (hr : Row w.length l) : ph_need_where [.d (dW w), .d (dT l)] = .ret (.d .none) := by
  unfold ph_need_where
  refine fnV_ex (seq_ex ⟨_, ifS_f ?_ rfl, seq_ex ?_⟩)
  · simp [fnV, enOf, mSeq, mRet, mRetV, mAnd, mOr, mIf, mIfS, mT, tNotM, tAndM, tOrM, mCall, mArgs, mCons, mNil, mVar, mC, m1, m2, o1, o2, mDrop, mSet, mSets, mUnp, mTup, mLst, mImm, datas, setsO, bindO, bind_ret, bind_fail, must_t, ofO_some, isB, mChain, Nat.beq, List.replicate, il0, il1, il2, il3, il4, il5, il6, il7, il8, il9, il10, il11, il12, il60, setsE, visE, demE, visO, demO, gTupM, gsCons, gsNil, len_T, len_W, len_L, add_N, sub_N, in_T, le_NN, lt_NN, gt_NN, ge_NN, eq_NN, ne_NN, eq_TT, ne_TT, eq_WW, ne_WW, -List.getD_eq_getElem?_getD, oNot, neg_1, dOf_d, isTup_T, isTup_W, list_T, ph_is_list_T]
    omega
  · refine (mFor_inv l.zipIdx (fun p => .d (.tuple [dN p.2, dN p.1])) (fun p => [(2, .d (dN p.2)), (3, .d (dN p.1))]) (fun _ en => ∃ a b, en = [some ⟨1, .d (dW w)⟩, some ⟨1, .d (dT l)⟩, a, b]) ?_ ?_ ?_).elim fun en1 ⟨e1, a, b, e2⟩ => ⟨en1, e1, _, rfl⟩
    · simp [fnV, enOf, mSeq, mRet, mRetV, mAnd, mOr, mIf, mIfS, mT, tNotM, tAndM, tOrM, mCall, mArgs, mCons, mNil, mVar, mC, m1, m2, o1, o2, mDrop, mSet, mSets, mUnp, mTup, mLst, mImm, datas, setsO, bindO, bind_ret, bind_fail, must_t, ofO_some, isB, mChain, Nat.beq, List.replicate, il0, il1, il2, il3, il4, il5, il6, il7, il8, il9, il10, il11, il12, il60, setsE, visE, demE, visO, demO, gTupM, gsCons, gsNil, len_T, len_W, len_L, add_N, sub_N, in_T, le_NN, lt_NN, gt_NN, ge_NN, eq_NN, ne_NN, eq_TT, ne_TT, eq_WW, ne_WW, -List.getD_eq_getElem?_getD, oNot, neg_1, dOf_d, isTup_T, isTup_W, list_T, enum_T]
    · exact ⟨_, _, rfl⟩
    · rintro p q ⟨x, i⟩ e en ⟨a, b, rfl⟩
      have hx : l[i]? = some x := zip_of e
      have hx := hr x (List.mem_of_getElem? hx)
      refine ⟨by simp [fnV, enOf, mSeq, mRet, mRetV, mAnd, mOr, mIf, mIfS, mT, tNotM, tAndM, tOrM, mCall, mArgs, mCons, mNil, mVar, mC, m1, m2, o1, o2, mDrop, mSet, mSets, mUnp, mTup, mLst, mImm, datas, setsO, bindO, bind_ret, bind_fail, must_t, ofO_some, isB, mChain, Nat.beq, List.replicate, il0, il1, il2, il3, il4, il5, il6, il7, il8, il9, il10, il11, il12, il60, setsE, visE, demE, visO, demO, gTupM, gsCons, gsNil, len_T, len_W, len_L, add_N, sub_N, in_T, le_NN, lt_NN, gt_NN, ge_NN, eq_NN, ne_NN, eq_TT, ne_TT, eq_WW, ne_WW, -List.getD_eq_getElem?_getD, oNot, neg_1, dOf_d, isTup_T, isTup_W, list_T], _, seq_nx (ifS_f ?_ rfl) rfl, ⟨_, _, rfl⟩⟩
      simp [fnV, enOf, mSeq, mRet, mRetV, mAnd, mOr, mIf, mIfS, mT, tNotM, tAndM, tOrM, mCall, mArgs, mCons, mNil, mVar, mC, m1, m2, o1, o2, mDrop, mSet, mSets, mUnp, mTup, mLst, mImm, datas, setsO, bindO, bind_ret, bind_fail, must_t, ofO_some, isB, mChain, Nat.beq, List.replicate, il0, il1, il2, il3, il4, il5, il6, il7, il8, il9, il10, il11, il12, il60, setsE, visE, demE, visO, demO, gTupM, gsCons, gsNil, len_T, len_W, len_L, add_N, sub_N, in_T, le_NN, lt_NN, gt_NN, ge_NN, eq_NN, ne_NN, eq_TT, ne_TT, eq_WW, ne_WW, -List.getD_eq_getElem?_getD, oNot, neg_1, dOf_d, isTup_T, isTup_W, list_T, ph_is_in_N, sub_N (show 1 ≤ w.length by omega)]
      omega
theorem ph_need_calls_ok {w : List (List Nat)} {l : List Nat} (h6 : l.length ≤ 60) (hr : Row w.length l) : ph_need_calls [.d (dW w), .d (dT l)] = .ret (.d .none) := by
  unfold ph_need_calls
  refine fnV_ex (seq_ex ⟨_, ifS_f ?_ rfl, seq_ex ?_⟩)
  · simp [fnV, enOf, mSeq, mRet, mRetV, mAnd, mOr, mIf, mIfS, mT, tNotM, tAndM, tOrM, mCall, mArgs, mCons, mNil, mVar, mC, m1, m2, o1, o2, mDrop, mSet, mSets, mUnp, mTup, mLst, mImm, datas, setsO, bindO, bind_ret, bind_fail, must_t, ofO_some, isB, mChain, Nat.beq, List.replicate, il0, il1, il2, il3, il4, il5, il6, il7, il8, il9, il10, il11, il12, il60, setsE, visE, demE, visO, demO, gTupM, gsCons, gsNil, len_T, len_W, len_L, add_N, sub_N, in_T, le_NN, lt_NN, gt_NN, ge_NN, eq_NN, ne_NN, eq_TT, ne_TT, eq_WW, ne_WW, -List.getD_eq_getElem?_getD, oNot, neg_1, dOf_d, isTup_T, isTup_W, list_T, ph_is_list_T]
    omega
  · refine (mFor_inv l.zipIdx (fun p => .d (.tuple [dN p.2, dN p.1])) (fun p => [(2, .d (dN p.2)), (3, .d (dN p.1))]) (fun _ en => ∃ a b, en = [some ⟨1, .d (dW w)⟩, some ⟨1, .d (dT l)⟩, a, b]) ?_ ?_ ?_).elim fun en1 ⟨e1, a, b, e2⟩ => ⟨en1, e1, _, rfl⟩
    · simp [fnV, enOf, mSeq, mRet, mRetV, mAnd, mOr, mIf, mIfS, mT, tNotM, tAndM, tOrM, mCall, mArgs, mCons, mNil, mVar, mC, m1, m2, o1, o2, mDrop, mSet, mSets, mUnp, mTup, mLst, mImm, datas, setsO, bindO, bind_ret, bind_fail, must_t, ofO_some, isB, mChain, Nat.beq, List.replicate, il0, il1, il2, il3, il4, il5, il6, il7, il8, il9, il10, il11, il12, il60, setsE, visE, demE, visO, demO, gTupM, gsCons, gsNil, len_T, len_W, len_L, add_N, sub_N, in_T, le_NN, lt_NN, gt_NN, ge_NN, eq_NN, ne_NN, eq_TT, ne_TT, eq_WW, ne_WW, -List.getD_eq_getElem?_getD, oNot, neg_1, dOf_d, isTup_T, isTup_W, list_T, enum_T]
    · exact ⟨_, _, rfl⟩
    · rintro p q ⟨x, i⟩ e en ⟨a, b, rfl⟩
      have hx : l[i]? = some x := zip_of e
      have hx := hr x (List.mem_of_getElem? hx)
      refine ⟨by simp [fnV, enOf, mSeq, mRet, mRetV, mAnd, mOr, mIf, mIfS, mT, tNotM, tAndM, tOrM, mCall, mArgs, mCons, mNil, mVar, mC, m1, m2, o1, o2, mDrop, mSet, mSets, mUnp, mTup, mLst, mImm, datas, setsO, bindO, bind_ret, bind_fail, must_t, ofO_some, isB, mChain, Nat.beq, List.replicate, il0, il1, il2, il3, il4, il5, il6, il7, il8, il9, il10, il11, il12, il60, setsE, visE, demE, visO, demO, gTupM, gsCons, gsNil, len_T, len_W, len_L, add_N, sub_N, in_T, le_NN, lt_NN, gt_NN, ge_NN, eq_NN, ne_NN, eq_TT, ne_TT, eq_WW, ne_WW, -List.getD_eq_getElem?_getD, oNot, neg_1, dOf_d, isTup_T, isTup_W, list_T], _, seq_nx (ifS_f ?_ rfl) rfl, ⟨_, _, rfl⟩⟩
      simp [fnV, enOf, mSeq, mRet, mRetV, mAnd, mOr, mIf, mIfS, mT, tNotM, tAndM, tOrM, mCall, mArgs, mCons, mNil, mVar, mC, m1, m2, o1, o2, mDrop, mSet, mSets, mUnp, mTup, mLst, mImm, datas, setsO, bindO, bind_ret, bind_fail, must_t, ofO_some, isB, mChain, Nat.beq, List.replicate, il0, il1, il2, il3, il4, il5, il6, il7, il8, il9, il10, il11, il12, il60, setsE, visE, demE, visO, demO, gTupM, gsCons, gsNil, len_T, len_W, len_L, add_N, sub_N, in_T, le_NN, lt_NN, gt_NN, ge_NN, eq_NN, ne_NN, eq_TT, ne_TT, eq_WW, ne_WW, -List.getD_eq_getElem?_getD, oNot, neg_1, dOf_d, isTup_T, isTup_W, list_T, ph_is_in_N, sub_N (show 1 ≤ w.length by omega)]
      omega
theorem ph_need_places_ok {w : List (List Nat)} {l : List Nat} (ok : Web w) (h1 : 1 ≤ l.length) (h6 : l.length ≤ 6) (hr : Row w.length l) : ph_need_places [.d (dW w), .d (dT l)] = .ret (.d .none) := by
  unfold ph_need_places
  refine fnV_nx (seq_nx (drop_eq (x := .d .none) ?_) (seq_nx (drop_eq (x := .d .none) ?_) rfl))
  · simp [fnV, enOf, mSeq, mRet, mRetV, mAnd, mOr, mIf, mIfS, mT, tNotM, tAndM, tOrM, mCall, mArgs, mCons, mNil, mVar, mC, m1, m2, o1, o2, mDrop, mSet, mSets, mUnp, mTup, mLst, mImm, datas, setsO, bindO, bind_ret, bind_fail, must_t, ofO_some, isB, mChain, Nat.beq, List.replicate, il0, il1, il2, il3, il4, il5, il6, il7, il8, il9, il10, il11, il12, il60, setsE, visE, demE, visO, demO, gTupM, gsCons, gsNil, len_T, len_W, len_L, add_N, sub_N, in_T, le_NN, lt_NN, gt_NN, ge_NN, eq_NN, ne_NN, eq_TT, ne_TT, eq_WW, ne_WW, -List.getD_eq_getElem?_getD, oNot, neg_1, dOf_d, isTup_T, isTup_W, list_T, ph_need_web_ok ok]
  · simp [fnV, enOf, mSeq, mRet, mRetV, mAnd, mOr, mIf, mIfS, mT, tNotM, tAndM, tOrM, mCall, mArgs, mCons, mNil, mVar, mC, m1, m2, o1, o2, mDrop, mSet, mSets, mUnp, mTup, mLst, mImm, datas, setsO, bindO, bind_ret, bind_fail, must_t, ofO_some, isB, mChain, Nat.beq, List.replicate, il0, il1, il2, il3, il4, il5, il6, il7, il8, il9, il10, il11, il12, il60, setsE, visE, demE, visO, demO, gTupM, gsCons, gsNil, len_T, len_W, len_L, add_N, sub_N, in_T, le_NN, lt_NN, gt_NN, ge_NN, eq_NN, ne_NN, eq_TT, ne_TT, eq_WW, ne_WW, -List.getD_eq_getElem?_getD, oNot, neg_1, dOf_d, isTup_T, isTup_W, list_T, ph_need_where_ok h1 h6 hr]
/-- the places after a call -/
def callN (w : List (List Nat)) (l : List Nat) (h : Nat) : List Nat := l.map fun t => if t ∈ (w[h]?).getD [] then h else t
theorem callN_row {w : List (List Nat)} {l : List Nat} {h : Nat} (hh : h < w.length) (hr : Row w.length l) : Row w.length (callN w l h) := by
  intro x hx
  obtain ⟨t, ht, e⟩ := List.mem_map.mp hx
  split at e
  · rw [← e]; exact hh
  · rw [← e]; exact hr t ht
theorem ph_call_in_eq {w : List (List Nat)} {l : List Nat} {h : Nat} (hh : h < w.length) (hl : l.length ≤ 1000) : ph_call_in [.d (dW w), .d (dT l), .d (dN h)] = .ret (.d (dT (callN w l h))) := by
  unfold ph_call_in
  have hw : w[h]? = some w[h] := List.getElem?_eq_getElem hh
  refine fnV_rt (seq_rt (ret_eq ((args1 (mLC_all l (fun n => .d (dN n)) (fun t => dN (if t ∈ w[h] then h else t)) ?_ hl ?_)).trans ?_)))
  · simp [fnV, enOf, mSeq, mRet, mRetV, mAnd, mOr, mIf, mIfS, mT, tNotM, tAndM, tOrM, mCall, mArgs, mCons, mNil, mVar, mC, m1, m2, o1, o2, mDrop, mSet, mSets, mUnp, mTup, mLst, mImm, datas, setsO, bindO, bind_ret, bind_fail, must_t, ofO_some, isB, mChain, Nat.beq, List.replicate, il0, il1, il2, il3, il4, il5, il6, il7, il8, il9, il10, il11, il12, il60, setsE, visE, demE, visO, demO, gTupM, gsCons, gsNil, len_T, len_W, len_L, add_N, sub_N, in_T, le_NN, lt_NN, gt_NN, ge_NN, eq_NN, ne_NN, eq_TT, ne_TT, eq_WW, ne_WW, -List.getD_eq_getElem?_getD, oNot, neg_1, dOf_d, isTup_T, isTup_W, list_T, items_T]
  · intro t ht
    simp [fnV, enOf, mSeq, mRet, mRetV, mAnd, mOr, mIf, mIfS, mT, tNotM, tAndM, tOrM, mCall, mArgs, mCons, mNil, mVar, mC, m1, m2, o1, o2, mDrop, mSet, mSets, mUnp, mTup, mLst, mImm, datas, setsO, bindO, bind_ret, bind_fail, must_t, ofO_some, isB, mChain, Nat.beq, List.replicate, il0, il1, il2, il3, il4, il5, il6, il7, il8, il9, il10, il11, il12, il60, setsE, visE, demE, visO, demO, gTupM, gsCons, gsNil, len_T, len_W, len_L, add_N, sub_N, in_T, le_NN, lt_NN, gt_NN, ge_NN, eq_NN, ne_NN, eq_TT, ne_TT, eq_WW, ne_WW, -List.getD_eq_getElem?_getD, oNot, neg_1, dOf_d, isTup_T, isTup_W, list_T, get_W hw]
    by_cases hc : t ∈ w[h] <;> simp [hc, imm_dN, W.imm, bind_ret, must_t]
  · rw [tup_L (fun x => imm_dN _)]
    unfold dT callN
    rw [hw, List.map_map]; rfl
/-- the story -/
def storyN (w : List (List Nat)) : List Nat → List Nat → List (List Nat)
  | l, [] => [l]
  | l, h :: hs => l :: storyN w (callN w l h) hs
/-- the places after so many calls -/
def runN (w : List (List Nat)) (l : List Nat) (hs : List Nat) : List Nat := hs.foldl (callN w) l
theorem runN_row {w : List (List Nat)} : ∀ {hs l : List Nat}, Row w.length hs → Row w.length l → Row w.length (runN w l hs)
  | [], _, _, hr => hr
  | h :: hs, l, hh, hr => runN_row (hs := hs) (fun x hx => hh x (List.mem_cons_of_mem _ hx)) (callN_row (hh h List.mem_cons_self) hr)
theorem callN_len (w : List (List Nat)) (l : List Nat) (h : Nat) : (callN w l h).length = l.length := by unfold callN; rw [List.length_map]
theorem runN_len (w : List (List Nat)) : ∀ (hs l : List Nat), (runN w l hs).length = l.length
  | [], _ => rfl
  | h :: hs, l => by
    show (runN w (callN w l h) hs).length = _
    rw [runN_len w hs, callN_len]
/-- the story so far: one row for each prefix -/
def storyP (w : List (List Nat)) (l : List Nat) (p : List Nat) : List (List Nat) := (List.range (p.length + 1)).map fun k => runN w l (p.take k)
theorem storyP_add (w : List (List Nat)) (l p : List Nat) (x : Nat) : storyP w l (p ++ [x]) = storyP w l p ++ [callN w (runN w l p) x] := by
  unfold storyP
  rw [List.length_append, List.length_singleton, List.range_succ, List.map_append]
  congr 1
  · refine List.map_congr_left fun k hk => ?_
    rw [List.mem_range] at hk
    rw [List.take_append_of_le_length (by omega)]
  · rw [List.map_cons, List.map_nil, show p.length + 1 = (p ++ [x]).length by simp, List.take_length]
    unfold runN
    rw [List.foldl_append]; rfl
theorem storyP_last (w : List (List Nat)) (l p : List Nat) : (storyP w l p)[p.length]? = some (runN w l p) := by
  unfold storyP
  rw [List.getElem?_map, List.getElem?_range (by omega)]
  simp
theorem get_last {α : Type} {f : α → D} {l : List α} {x : α} {n : Nat} (hn : l.length = n + 1) (h : l[n]? = some x) : oGet (.d (.list (l.map f))) (.d (.int (-1))) = .ret (.d (f x)) := by
  show T.ofO ((L2.atI (l.map f) (-1)).map W.d) = _
  unfold L2.atI L2.ixN
  rw [List.length_map, hn, if_neg (by omega), if_pos (by omega)]
  show T.ofO (((l.map f)[((-1 : Int) + ((n + 1 : Nat) : Int)).toNat]?).map W.d) = _
  rw [show ((-1 : Int) + ((n + 1 : Nat) : Int)).toNat = n by omega, List.getElem?_map, h]
  rfl
theorem storyP_len (w : List (List Nat)) (l p : List Nat) : (storyP w l p).length = p.length + 1 := by unfold storyP; simp
theorem ph_story_in_eq {w : List (List Nat)} {l hs : List Nat} (hl : l.length ≤ 1000) (hh : Row w.length hs) (hn : hs.length ≤ 1000) : ph_story_in [.d (dW w), .d (dT l), .d (dT hs)] = .ret (.d (.list ((storyP w l hs).map dT))) := by
  unfold ph_story_in
  refine fnV_rt (seq_nx (en1 := [some ⟨1, .d (dW w)⟩, some ⟨1, .d (dT l)⟩, some ⟨1, .d (dT hs)⟩, some ⟨0, .d (.list [dT l])⟩, none]) ?_ ?_)
  · simp [fnV, enOf, mSeq, mRet, mRetV, mAnd, mOr, mIf, mIfS, mT, tNotM, tAndM, tOrM, mCall, mArgs, mCons, mNil, mVar, mC, m1, m2, o1, o2, mDrop, mSet, mSets, mUnp, mTup, mLst, mImm, datas, setsO, bindO, bind_ret, bind_fail, must_t, ofO_some, isB, mChain, Nat.beq, List.replicate, il0, il1, il2, il3, il4, il5, il6, il7, il8, il9, il10, il11, il12, il60, setsE, visE, demE, visO, demO, gTupM, gsCons, gsNil, len_T, len_W, len_L, add_N, sub_N, in_T, le_NN, lt_NN, gt_NN, ge_NN, eq_NN, ne_NN, eq_TT, ne_TT, eq_WW, ne_WW, -List.getD_eq_getElem?_getD, oNot, neg_1, dOf_d, isTup_T, isTup_W, list_T, imm_dT, W.imm, must_le (show 1 ≤ lim by decide)]
  · refine (mFor_inv hs (fun n => .d (dN n)) (fun n => [(4, .d (dN n))]) (fun p en => ∃ a, en = [some ⟨1, .d (dW w)⟩, some ⟨1, .d (dT l)⟩, some ⟨1, .d (dT hs)⟩, some ⟨0, .d (.list ((storyP w l p).map dT))⟩, a]) ?_ ?_ ?_).elim fun en1 ⟨e1, a, e2⟩ => seq_nx e1 ?_
    · simp [fnV, enOf, mSeq, mRet, mRetV, mAnd, mOr, mIf, mIfS, mT, tNotM, tAndM, tOrM, mCall, mArgs, mCons, mNil, mVar, mC, m1, m2, o1, o2, mDrop, mSet, mSets, mUnp, mTup, mLst, mImm, datas, setsO, bindO, bind_ret, bind_fail, must_t, ofO_some, isB, mChain, Nat.beq, List.replicate, il0, il1, il2, il3, il4, il5, il6, il7, il8, il9, il10, il11, il12, il60, setsE, visE, demE, visO, demO, gTupM, gsCons, gsNil, len_T, len_W, len_L, add_N, sub_N, in_T, le_NN, lt_NN, gt_NN, ge_NN, eq_NN, ne_NN, eq_TT, ne_TT, eq_WW, ne_WW, -List.getD_eq_getElem?_getD, oNot, neg_1, dOf_d, isTup_T, isTup_W, list_T, items_T]
    · exact ⟨_, rfl⟩
    · rintro p q x e en ⟨a, rfl⟩
      have hp : p.length < hs.length := by rw [e]; simp
      refine ⟨rfl, _, seq_nx (en1 := [some ⟨1, .d (dW w)⟩, some ⟨1, .d (dT l)⟩, some ⟨1, .d (dT hs)⟩, some ⟨0, .d (.list ((storyP w l (p ++ [x])).map dT))⟩, some ⟨1, .d (dN x)⟩]) ?_ rfl, _, rfl⟩
      have hx := hh x (by rw [e]; simp)
      unfold mApp
      simp [fnV, enOf, mSeq, mRet, mRetV, mAnd, mOr, mIf, mIfS, mT, tNotM, tAndM, tOrM, mCall, mArgs, mCons, mNil, mVar, mC, m1, m2, o1, o2, mDrop, mSet, mSets, mUnp, mTup, mLst, mImm, datas, setsO, bindO, bind_ret, bind_fail, must_t, ofO_some, isB, mChain, Nat.beq, List.replicate, il0, il1, il2, il3, il4, il5, il6, il7, il8, il9, il10, il11, il12, il60, setsE, visE, demE, visO, demO, gTupM, gsCons, gsNil, len_T, len_W, len_L, add_N, sub_N, in_T, le_NN, lt_NN, gt_NN, ge_NN, eq_NN, ne_NN, eq_TT, ne_TT, eq_WW, ne_WW, -List.getD_eq_getElem?_getD, oNot, neg_1, dOf_d, isTup_T, isTup_W, list_T, storyP_len, must_le (show p.length + 1 ≤ 99999 by omega), get_last (storyP_len w l p) (storyP_last w l p), ph_call_in_eq hx (show (runN w l p).length ≤ 1000 by rw [runN_len]; exact hl), storyP_add]
    · subst e2
      simp [fnV, enOf, mSeq, mRet, mRetV, mAnd, mOr, mIf, mIfS, mT, tNotM, tAndM, tOrM, mCall, mArgs, mCons, mNil, mVar, mC, m1, m2, o1, o2, mDrop, mSet, mSets, mUnp, mTup, mLst, mImm, datas, setsO, bindO, bind_ret, bind_fail, must_t, ofO_some, isB, mChain, Nat.beq, List.replicate, il0, il1, il2, il3, il4, il5, il6, il7, il8, il9, il10, il11, il12, il60, setsE, visE, demE, visO, demO, gTupM, gsCons, gsNil, len_T, len_W, len_L, add_N, sub_N, in_T, le_NN, lt_NN, gt_NN, ge_NN, eq_NN, ne_NN, eq_TT, ne_TT, eq_WW, ne_WW, -List.getD_eq_getElem?_getD, oNot, neg_1, dOf_d, isTup_T, isTup_W, list_T]
end G

set_option Elab.async false
set_option linter.all false
set_option maxRecDepth 100000
namespace G
open PySem PySem.Spec PyProof.Rows L2
/-! S3: what the program's small functions answer. -/
theorem get_Tg {l : List Nat} {i : Nat} (h : i < l.length) : oGet (.d (dT l)) (.d (dN i)) = .ret (.d (dN (l.getD i 0))) := get_T (by rw [List.getD_eq_getElem?_getD, List.getElem?_eq_getElem h]; rfl)
theorem get_Wg {l : List (List Nat)} {i : Nat} (h : i < l.length) : oGet (.d (dW l)) (.d (dN i)) = .ret (.d (dT (l.getD i []))) := get_W (by rw [List.getD_eq_getElem?_getD, List.getElem?_eq_getElem h]; rfl)
theorem get_Lg {l : List (List Nat)} {i : Nat} (h : i < l.length) : oGet (.d (.list (l.map dT))) (.d (dN i)) = .ret (.d (dT (l.getD i []))) := get_L (by rw [List.getD_eq_getElem?_getD, List.getElem?_eq_getElem h]; rfl)
theorem tup_N (l : List Nat) : oTuple (.d (.list (l.map dN))) = .ret (.d (dT l)) := tup_L imm_dN l
theorem tup_TT (l : List (List Nat)) : oTuple (.d (.list (l.map dT))) = .ret (.d (dW l)) := tup_L imm_dT l
theorem set_N {ms : List Nat} (hl : ms.length ≤ 63) (h : ms.Pairwise (· < ·)) : True := trivial
/-- guests at places, calls to make -/
structure Pl (w : List (List Nat)) (l : List Nat) : Prop where
  web : Web w
  one : 1 ≤ l.length
  six : l.length ≤ 6
  row : Row w.length l
structure Ca (w : List (List Nat)) (hs : List Nat) : Prop where
  most : hs.length ≤ 60
  row : Row w.length hs
variable {w : List (List Nat)} {l hs : List Nat} {h g : Nat}
theorem np_eq (p : Pl w l) : ph_need_places [.d (dW w), .d (dT l)] = .ret (.d .none) := ph_need_places_ok p.web p.one p.six p.row
theorem nc_eq (c : Ca w hs) : ph_need_calls [.d (dW w), .d (dT hs)] = .ret (.d .none) := ph_need_calls_ok c.most c.row
theorem ng_eq (hg : g < l.length) : ph_need_guest [.d (dT l), .d (dN g)] = .ret (.d .none) := by
  unfold ph_need_guest
  refine fnV_ex (seq_ex ⟨_, ifS_f ?_ rfl, _, rfl⟩)
  simp [fnV, enOf, mSeq, mRet, mRetV, mAnd, mOr, mIf, mIfS, mT, tNotM, tAndM, tOrM, mCall, mArgs, mCons, mNil, mVar, mC, m1, m2, o1, o2, mDrop, mSet, mSets, mUnp, mTup, mLst, mImm, datas, setsO, bindO, bind_ret, bind_fail, must_t, ofO_some, isB, mChain, Nat.beq, List.replicate, il0, il1, il2, il3, il4, il5, il6, il7, il8, il9, il10, il11, il12, il60, setsE, visE, demE, visO, demO, gTupM, gsCons, gsNil, len_T, len_W, len_L, add_N, sub_N, in_T, le_NN, lt_NN, gt_NN, ge_NN, eq_NN, ne_NN, eq_TT, ne_TT, eq_WW, ne_WW, -List.getD_eq_getElem?_getD, oNot, neg_1, dOf_d, isTup_T, isTup_W, list_T, ph_is_in_N, sub_N (show 1 ≤ l.length by omega)]
  omega
theorem story_eq (p : Pl w l) (c : Ca w hs) : ph_story_in [.d (dW w), .d (dT l), .d (dT hs)] = .ret (.d (.list ((storyP w l hs).map dT))) := ph_story_in_eq (by have := p.six; omega) c.row (by have := c.most; omega)
theorem ph_neighbours_eq (ok : Web w) (hh : h < w.length) : ph_neighbours [.d (dW w), .d (dN h)] = .ret (.d (dT (w.getD h []))) := by
  unfold ph_neighbours
  refine fnV_rt (seq_nx (drop_eq (x := .d .none) ?_) (seq_nx (drop_eq (x := .d .none) ?_) (seq_rt (ret_eq ?_))))
  · simp [fnV, enOf, mSeq, mRet, mRetV, mAnd, mOr, mIf, mIfS, mT, tNotM, tAndM, tOrM, mCall, mArgs, mCons, mNil, mVar, mC, m1, m2, o1, o2, mDrop, mSet, mSets, mUnp, mTup, mLst, mImm, datas, setsO, bindO, bind_ret, bind_fail, must_t, ofO_some, isB, mChain, Nat.beq, List.replicate, il0, il1, il2, il3, il4, il5, il6, il7, il8, il9, il10, il11, il12, il60, setsE, visE, demE, visO, demO, gTupM, gsCons, gsNil, len_T, len_W, len_L, add_N, sub_N, in_T, le_NN, lt_NN, gt_NN, ge_NN, eq_NN, ne_NN, eq_TT, ne_TT, eq_WW, ne_WW, -List.getD_eq_getElem?_getD, oNot, neg_1, dOf_d, isTup_T, isTup_W, list_T, ph_need_web_ok ok]
  · simp [fnV, enOf, mSeq, mRet, mRetV, mAnd, mOr, mIf, mIfS, mT, tNotM, tAndM, tOrM, mCall, mArgs, mCons, mNil, mVar, mC, m1, m2, o1, o2, mDrop, mSet, mSets, mUnp, mTup, mLst, mImm, datas, setsO, bindO, bind_ret, bind_fail, must_t, ofO_some, isB, mChain, Nat.beq, List.replicate, il0, il1, il2, il3, il4, il5, il6, il7, il8, il9, il10, il11, il12, il60, setsE, visE, demE, visO, demO, gTupM, gsCons, gsNil, len_T, len_W, len_L, add_N, sub_N, in_T, le_NN, lt_NN, gt_NN, ge_NN, eq_NN, ne_NN, eq_TT, ne_TT, eq_WW, ne_WW, -List.getD_eq_getElem?_getD, oNot, neg_1, dOf_d, isTup_T, isTup_W, list_T, ph_need_house_ok hh]
  · simp [fnV, enOf, mSeq, mRet, mRetV, mAnd, mOr, mIf, mIfS, mT, tNotM, tAndM, tOrM, mCall, mArgs, mCons, mNil, mVar, mC, m1, m2, o1, o2, mDrop, mSet, mSets, mUnp, mTup, mLst, mImm, datas, setsO, bindO, bind_ret, bind_fail, must_t, ofO_some, isB, mChain, Nat.beq, List.replicate, il0, il1, il2, il3, il4, il5, il6, il7, il8, il9, il10, il11, il12, il60, setsE, visE, demE, visO, demO, gTupM, gsCons, gsNil, len_T, len_W, len_L, add_N, sub_N, in_T, le_NN, lt_NN, gt_NN, ge_NN, eq_NN, ne_NN, eq_TT, ne_TT, eq_WW, ne_WW, -List.getD_eq_getElem?_getD, oNot, neg_1, dOf_d, isTup_T, isTup_W, list_T, get_Wg hh, imm_dT, W.imm]
theorem ph_everywhere_eq (ok : Web w) : ph_everywhere [.d (dW w)] = .ret (.d (dT (List.range w.length))) := by
  have h6 := ok.most
  unfold ph_everywhere
  refine fnV_rt (seq_nx (drop_eq (x := .d .none) ?_) (seq_rt (ret_eq ?_)))
  · simp [fnV, enOf, mSeq, mRet, mRetV, mAnd, mOr, mIf, mIfS, mT, tNotM, tAndM, tOrM, mCall, mArgs, mCons, mNil, mVar, mC, m1, m2, o1, o2, mDrop, mSet, mSets, mUnp, mTup, mLst, mImm, datas, setsO, bindO, bind_ret, bind_fail, must_t, ofO_some, isB, mChain, Nat.beq, List.replicate, il0, il1, il2, il3, il4, il5, il6, il7, il8, il9, il10, il11, il12, il60, setsE, visE, demE, visO, demO, gTupM, gsCons, gsNil, len_T, len_W, len_L, add_N, sub_N, in_T, le_NN, lt_NN, gt_NN, ge_NN, eq_NN, ne_NN, eq_TT, ne_TT, eq_WW, ne_WW, -List.getD_eq_getElem?_getD, oNot, neg_1, dOf_d, isTup_T, isTup_W, list_T, ph_need_web_ok ok]
  · simp [fnV, enOf, mSeq, mRet, mRetV, mAnd, mOr, mIf, mIfS, mT, tNotM, tAndM, tOrM, mCall, mArgs, mCons, mNil, mVar, mC, m1, m2, o1, o2, mDrop, mSet, mSets, mUnp, mTup, mLst, mImm, datas, setsO, bindO, bind_ret, bind_fail, must_t, ofO_some, isB, mChain, Nat.beq, List.replicate, il0, il1, il2, il3, il4, il5, il6, il7, il8, il9, il10, il11, il12, il60, setsE, visE, demE, visO, demO, gTupM, gsCons, gsNil, len_T, len_W, len_L, add_N, sub_N, in_T, le_NN, lt_NN, gt_NN, ge_NN, eq_NN, ne_NN, eq_TT, ne_TT, eq_WW, ne_WW, -List.getD_eq_getElem?_getD, oNot, neg_1, dOf_d, isTup_T, isTup_W, list_T]
    have : ∀ n, n ≤ 6 → oRng PyData.tuple [.d (dN n)] = .ret (.d (dT (List.range n))) := by
      intro n hn
      match n, hn with
      | 0, _ => rfl
      | 1, _ => rfl
      | 2, _ => rfl
      | 3, _ => rfl
      | 4, _ => rfl
      | 5, _ => rfl
      | 6, _ => rfl
    exact this _ h6
/-- rising, each once -/
def sortN (l : List Nat) : List Nat := (sortI (l.map fun n : Nat => (n : Int))).map Int.toNat
theorem sortI_nat (l : List Nat) : (sortN l).map (fun n : Nat => (n : Int)) = sortI (l.map fun n : Nat => (n : Int)) := by
  unfold sortN
  rw [List.map_map]
  conv => rhs; rw [← List.map_id (sortI _)]
  refine List.map_congr_left fun x hx => ?_
  have : x ∈ l.map fun n : Nat => (n : Int) := sortI_mem.mp hx
  obtain ⟨n, _, e⟩ := List.mem_map.mp this
  show ((x.toNat : Nat) : Int) = x
  omega
theorem sortI_le : ∀ l : List Int, (sortI l).length ≤ l.length
  | [] => Nat.le_refl _
  | x :: xs => by
    have h1 := sortI_le xs
    have h2 : ∀ ys : List Int, (insI x ys).length ≤ ys.length + 1 := by
      intro ys
      induction ys with
      | nil => simp [insI]
      | cons y ys ih =>
        unfold insI
        split
        · simp
        · split
          · simp
          · simp only [List.length_cons]; omega
    have := h2 (sortI xs)
    show (insI x (sortI xs)).length ≤ _
    simp only [List.length_cons]; omega
theorem sortSet_N {x : W} {l : List Nat} (hx : x = .d (dT l) ∨ x = .d (.list (l.map dN))) (hl : l.length ≤ 63) : oSortSetX x = .ret (.d (.list ((sortN l).map dN))) := by
  have key : oSortSet x = .ret (.d (.list ((sortN l).map dN))) := by
    unfold oSortSet
    have : intsIn x = some (l.map fun n : Nat => (n : Int)) := by
      rcases hx with rfl | rfl
      · exact intsOf_dN l
      · exact intsOf_dN l
    rw [this]
    show T.must _ _ = _
    have h2 := sortI_le (l.map fun n : Nat => (n : Int))
    rw [List.length_map] at h2
    rw [List.length_map, show Nat.ble l.length 1000 = true from Nat.ble_eq_true_of_le (by omega), show Nat.ble (sortI (l.map fun n : Nat => (n : Int))).length 63 = true from Nat.ble_eq_true_of_le (by omega), ← sortI_nat, List.map_map]
    rfl
  have ht : tupsIn x = none ∨ tupsIn x = some [] := by
    rcases hx with rfl | rfl
    · exact .inl rfl
    · show (match Nat.blt (l.map dN).length 64 with | true => tupsOf (l.map dN) | false => none) = none ∨ _ = some []
      cases Nat.blt (l.map dN).length 64 with
      | false => exact .inl rfl
      | true =>
        cases l with
        | nil => exact .inr rfl
        | cons y ys => exact .inl rfl
  unfold oSortSetX
  rcases ht with h | h <;> rw [h] <;> exact key
theorem ph_used_eq (hl : l.length ≤ 63) : ph_used [.d (dT l)] = .ret (.d (dT (sortN l))) := by
  unfold ph_used
  refine fnV_rt (seq_rt (ret_eq ?_))
  simp [fnV, enOf, mSeq, mRet, mRetV, mAnd, mOr, mIf, mIfS, mT, tNotM, tAndM, tOrM, mCall, mArgs, mCons, mNil, mVar, mC, m1, m2, o1, o2, mDrop, mSet, mSets, mUnp, mTup, mLst, mImm, datas, setsO, bindO, bind_ret, bind_fail, must_t, ofO_some, isB, mChain, Nat.beq, List.replicate, il0, il1, il2, il3, il4, il5, il6, il7, il8, il9, il10, il11, il12, il60, setsE, visE, demE, visO, demO, gTupM, gsCons, gsNil, len_T, len_W, len_L, add_N, sub_N, in_T, le_NN, lt_NN, gt_NN, ge_NN, eq_NN, ne_NN, eq_TT, ne_TT, eq_WW, ne_WW, -List.getD_eq_getElem?_getD, oNot, neg_1, dOf_d, isTup_T, isTup_W, list_T, sortSet_N (.inl rfl) hl, tup_N]
theorem ph_in_use_eq (p : Pl w l) : ph_in_use [.d (dW w), .d (dT l)] = .ret (.d (dT (sortN l))) := by
  unfold ph_in_use
  refine fnV_rt (seq_nx (drop_eq (x := .d .none) ?_) (seq_rt (ret_eq ?_)))
  · simp [fnV, enOf, mSeq, mRet, mRetV, mAnd, mOr, mIf, mIfS, mT, tNotM, tAndM, tOrM, mCall, mArgs, mCons, mNil, mVar, mC, m1, m2, o1, o2, mDrop, mSet, mSets, mUnp, mTup, mLst, mImm, datas, setsO, bindO, bind_ret, bind_fail, must_t, ofO_some, isB, mChain, Nat.beq, List.replicate, il0, il1, il2, il3, il4, il5, il6, il7, il8, il9, il10, il11, il12, il60, setsE, visE, demE, visO, demO, gTupM, gsCons, gsNil, len_T, len_W, len_L, add_N, sub_N, in_T, le_NN, lt_NN, gt_NN, ge_NN, eq_NN, ne_NN, eq_TT, ne_TT, eq_WW, ne_WW, -List.getD_eq_getElem?_getD, oNot, neg_1, dOf_d, isTup_T, isTup_W, list_T, np_eq p]
  · simp [fnV, enOf, mSeq, mRet, mRetV, mAnd, mOr, mIf, mIfS, mT, tNotM, tAndM, tOrM, mCall, mArgs, mCons, mNil, mVar, mC, m1, m2, o1, o2, mDrop, mSet, mSets, mUnp, mTup, mLst, mImm, datas, setsO, bindO, bind_ret, bind_fail, must_t, ofO_some, isB, mChain, Nat.beq, List.replicate, il0, il1, il2, il3, il4, il5, il6, il7, il8, il9, il10, il11, il12, il60, setsE, visE, demE, visO, demO, gTupM, gsCons, gsNil, len_T, len_W, len_L, add_N, sub_N, in_T, le_NN, lt_NN, gt_NN, ge_NN, eq_NN, ne_NN, eq_TT, ne_TT, eq_WW, ne_WW, -List.getD_eq_getElem?_getD, oNot, neg_1, dOf_d, isTup_T, isTup_W, list_T, ph_used_eq (show l.length ≤ 63 by have := p.six; omega)]
theorem ph_call_eq (p : Pl w l) (hh : h < w.length) : ph_call [.d (dW w), .d (dT l), .d (dN h)] = .ret (.d (dT (callN w l h))) := by
  unfold ph_call
  refine fnV_rt (seq_nx (drop_eq (x := .d .none) ?_) (seq_nx (drop_eq (x := .d .none) ?_) (seq_rt (ret_eq ?_))))
  · simp [fnV, enOf, mSeq, mRet, mRetV, mAnd, mOr, mIf, mIfS, mT, tNotM, tAndM, tOrM, mCall, mArgs, mCons, mNil, mVar, mC, m1, m2, o1, o2, mDrop, mSet, mSets, mUnp, mTup, mLst, mImm, datas, setsO, bindO, bind_ret, bind_fail, must_t, ofO_some, isB, mChain, Nat.beq, List.replicate, il0, il1, il2, il3, il4, il5, il6, il7, il8, il9, il10, il11, il12, il60, setsE, visE, demE, visO, demO, gTupM, gsCons, gsNil, len_T, len_W, len_L, add_N, sub_N, in_T, le_NN, lt_NN, gt_NN, ge_NN, eq_NN, ne_NN, eq_TT, ne_TT, eq_WW, ne_WW, -List.getD_eq_getElem?_getD, oNot, neg_1, dOf_d, isTup_T, isTup_W, list_T, np_eq p]
  · simp [fnV, enOf, mSeq, mRet, mRetV, mAnd, mOr, mIf, mIfS, mT, tNotM, tAndM, tOrM, mCall, mArgs, mCons, mNil, mVar, mC, m1, m2, o1, o2, mDrop, mSet, mSets, mUnp, mTup, mLst, mImm, datas, setsO, bindO, bind_ret, bind_fail, must_t, ofO_some, isB, mChain, Nat.beq, List.replicate, il0, il1, il2, il3, il4, il5, il6, il7, il8, il9, il10, il11, il12, il60, setsE, visE, demE, visO, demO, gTupM, gsCons, gsNil, len_T, len_W, len_L, add_N, sub_N, in_T, le_NN, lt_NN, gt_NN, ge_NN, eq_NN, ne_NN, eq_TT, ne_TT, eq_WW, ne_WW, -List.getD_eq_getElem?_getD, oNot, neg_1, dOf_d, isTup_T, isTup_W, list_T, ph_need_house_ok hh]
  · simp [fnV, enOf, mSeq, mRet, mRetV, mAnd, mOr, mIf, mIfS, mT, tNotM, tAndM, tOrM, mCall, mArgs, mCons, mNil, mVar, mC, m1, m2, o1, o2, mDrop, mSet, mSets, mUnp, mTup, mLst, mImm, datas, setsO, bindO, bind_ret, bind_fail, must_t, ofO_some, isB, mChain, Nat.beq, List.replicate, il0, il1, il2, il3, il4, il5, il6, il7, il8, il9, il10, il11, il12, il60, setsE, visE, demE, visO, demO, gTupM, gsCons, gsNil, len_T, len_W, len_L, add_N, sub_N, in_T, le_NN, lt_NN, gt_NN, ge_NN, eq_NN, ne_NN, eq_TT, ne_TT, eq_WW, ne_WW, -List.getD_eq_getElem?_getD, oNot, neg_1, dOf_d, isTup_T, isTup_W, list_T, ph_call_in_eq hh (show l.length ≤ 1000 by have := p.six; omega)]
/-- the houses that would move someone -/
def moversN (w : List (List Nat)) (l : List Nat) : List Nat := (List.range w.length).filter fun h => l.any fun t => decide (t ∈ w.getD h [])
theorem ph_movers_in_eq (p : Pl w l) : ph_movers_in [.d (dW w), .d (dT l)] = .ret (.d (.list ((moversN w l).map dN))) := by
  have h6 := p.web.most
  unfold ph_movers_in
  refine fnV_rt (seq_rt (ret_eq (mLC_eq (List.range w.length) (fun n => .d (dN n)) (fun h => l.any fun t => decide (t ∈ w.getD h [])) dN ?_ (by rw [List.length_range]; omega) ?_ ?_)))
  · simp [fnV, enOf, mSeq, mRet, mRetV, mAnd, mOr, mIf, mIfS, mT, tNotM, tAndM, tOrM, mCall, mArgs, mCons, mNil, mVar, mC, m1, m2, o1, o2, mDrop, mSet, mSets, mUnp, mTup, mLst, mImm, datas, setsO, bindO, bind_ret, bind_fail, must_t, ofO_some, isB, mChain, Nat.beq, List.replicate, il0, il1, il2, il3, il4, il5, il6, il7, il8, il9, il10, il11, il12, il60, setsE, visE, demE, visO, demO, gTupM, gsCons, gsNil, len_T, len_W, len_L, add_N, sub_N, in_T, le_NN, lt_NN, gt_NN, ge_NN, eq_NN, ne_NN, eq_TT, ne_TT, eq_WW, ne_WW, -List.getD_eq_getElem?_getD, oNot, neg_1, dOf_d, isTup_T, isTup_W, list_T, rng_N (show w.length ≤ 100000 by omega)]
  · intro h hh
    rw [List.mem_range] at hh
    refine mT_b ((args1 (mLC_all l (fun n => .d (dN n)) (fun t => .bool (decide (t ∈ w.getD h []))) ?_ (by have := p.six; omega) ?_)).trans ?_)
    · simp [fnV, enOf, mSeq, mRet, mRetV, mAnd, mOr, mIf, mIfS, mT, tNotM, tAndM, tOrM, mCall, mArgs, mCons, mNil, mVar, mC, m1, m2, o1, o2, mDrop, mSet, mSets, mUnp, mTup, mLst, mImm, datas, setsO, bindO, bind_ret, bind_fail, must_t, ofO_some, isB, mChain, Nat.beq, List.replicate, il0, il1, il2, il3, il4, il5, il6, il7, il8, il9, il10, il11, il12, il60, setsE, visE, demE, visO, demO, gTupM, gsCons, gsNil, len_T, len_W, len_L, add_N, sub_N, in_T, le_NN, lt_NN, gt_NN, ge_NN, eq_NN, ne_NN, eq_TT, ne_TT, eq_WW, ne_WW, -List.getD_eq_getElem?_getD, oNot, neg_1, dOf_d, isTup_T, isTup_W, list_T, items_T]
    · intro t ht
      simp [fnV, enOf, mSeq, mRet, mRetV, mAnd, mOr, mIf, mIfS, mT, tNotM, tAndM, tOrM, mCall, mArgs, mCons, mNil, mVar, mC, m1, m2, o1, o2, mDrop, mSet, mSets, mUnp, mTup, mLst, mImm, datas, setsO, bindO, bind_ret, bind_fail, must_t, ofO_some, isB, mChain, Nat.beq, List.replicate, il0, il1, il2, il3, il4, il5, il6, il7, il8, il9, il10, il11, il12, il60, setsE, visE, demE, visO, demO, gTupM, gsCons, gsNil, len_T, len_W, len_L, add_N, sub_N, in_T, le_NN, lt_NN, gt_NN, ge_NN, eq_NN, ne_NN, eq_TT, ne_TT, eq_WW, ne_WW, -List.getD_eq_getElem?_getD, oNot, neg_1, dOf_d, isTup_T, isTup_W, list_T, get_Wg hh]
    · rw [any_map]
  · intro h hh hc
    simp [fnV, enOf, mSeq, mRet, mRetV, mAnd, mOr, mIf, mIfS, mT, tNotM, tAndM, tOrM, mCall, mArgs, mCons, mNil, mVar, mC, m1, m2, o1, o2, mDrop, mSet, mSets, mUnp, mTup, mLst, mImm, datas, setsO, bindO, bind_ret, bind_fail, must_t, ofO_some, isB, mChain, Nat.beq, List.replicate, il0, il1, il2, il3, il4, il5, il6, il7, il8, il9, il10, il11, il12, il60, setsE, visE, demE, visO, demO, gTupM, gsCons, gsNil, len_T, len_W, len_L, add_N, sub_N, in_T, le_NN, lt_NN, gt_NN, ge_NN, eq_NN, ne_NN, eq_TT, ne_TT, eq_WW, ne_WW, -List.getD_eq_getElem?_getD, oNot, neg_1, dOf_d, isTup_T, isTup_W, list_T, imm_dN, W.imm]
theorem ph_movers_eq (p : Pl w l) : ph_movers [.d (dW w), .d (dT l)] = .ret (.d (dT (moversN w l))) := by
  unfold ph_movers
  refine fnV_rt (seq_nx (drop_eq (x := .d .none) ?_) (seq_rt (ret_eq ?_)))
  · simp [fnV, enOf, mSeq, mRet, mRetV, mAnd, mOr, mIf, mIfS, mT, tNotM, tAndM, tOrM, mCall, mArgs, mCons, mNil, mVar, mC, m1, m2, o1, o2, mDrop, mSet, mSets, mUnp, mTup, mLst, mImm, datas, setsO, bindO, bind_ret, bind_fail, must_t, ofO_some, isB, mChain, Nat.beq, List.replicate, il0, il1, il2, il3, il4, il5, il6, il7, il8, il9, il10, il11, il12, il60, setsE, visE, demE, visO, demO, gTupM, gsCons, gsNil, len_T, len_W, len_L, add_N, sub_N, in_T, le_NN, lt_NN, gt_NN, ge_NN, eq_NN, ne_NN, eq_TT, ne_TT, eq_WW, ne_WW, -List.getD_eq_getElem?_getD, oNot, neg_1, dOf_d, isTup_T, isTup_W, list_T, np_eq p]
  · simp [fnV, enOf, mSeq, mRet, mRetV, mAnd, mOr, mIf, mIfS, mT, tNotM, tAndM, tOrM, mCall, mArgs, mCons, mNil, mVar, mC, m1, m2, o1, o2, mDrop, mSet, mSets, mUnp, mTup, mLst, mImm, datas, setsO, bindO, bind_ret, bind_fail, must_t, ofO_some, isB, mChain, Nat.beq, List.replicate, il0, il1, il2, il3, il4, il5, il6, il7, il8, il9, il10, il11, il12, il60, setsE, visE, demE, visO, demO, gTupM, gsCons, gsNil, len_T, len_W, len_L, add_N, sub_N, in_T, le_NN, lt_NN, gt_NN, ge_NN, eq_NN, ne_NN, eq_TT, ne_TT, eq_WW, ne_WW, -List.getD_eq_getElem?_getD, oNot, neg_1, dOf_d, isTup_T, isTup_W, list_T, ph_movers_in_eq p, tup_N]
theorem ph_after_eq (p : Pl w l) (c : Ca w hs) : ph_after [.d (dW w), .d (dT l), .d (dT hs)] = .ret (.d (dT (runN w l hs))) := by
  unfold ph_after
  refine fnV_rt (seq_nx (drop_eq (x := .d .none) ?_) (seq_nx (drop_eq (x := .d .none) ?_) (seq_rt (ret_eq ?_))))
  · simp [fnV, enOf, mSeq, mRet, mRetV, mAnd, mOr, mIf, mIfS, mT, tNotM, tAndM, tOrM, mCall, mArgs, mCons, mNil, mVar, mC, m1, m2, o1, o2, mDrop, mSet, mSets, mUnp, mTup, mLst, mImm, datas, setsO, bindO, bind_ret, bind_fail, must_t, ofO_some, isB, mChain, Nat.beq, List.replicate, il0, il1, il2, il3, il4, il5, il6, il7, il8, il9, il10, il11, il12, il60, setsE, visE, demE, visO, demO, gTupM, gsCons, gsNil, len_T, len_W, len_L, add_N, sub_N, in_T, le_NN, lt_NN, gt_NN, ge_NN, eq_NN, ne_NN, eq_TT, ne_TT, eq_WW, ne_WW, -List.getD_eq_getElem?_getD, oNot, neg_1, dOf_d, isTup_T, isTup_W, list_T, np_eq p]
  · simp [fnV, enOf, mSeq, mRet, mRetV, mAnd, mOr, mIf, mIfS, mT, tNotM, tAndM, tOrM, mCall, mArgs, mCons, mNil, mVar, mC, m1, m2, o1, o2, mDrop, mSet, mSets, mUnp, mTup, mLst, mImm, datas, setsO, bindO, bind_ret, bind_fail, must_t, ofO_some, isB, mChain, Nat.beq, List.replicate, il0, il1, il2, il3, il4, il5, il6, il7, il8, il9, il10, il11, il12, il60, setsE, visE, demE, visO, demO, gTupM, gsCons, gsNil, len_T, len_W, len_L, add_N, sub_N, in_T, le_NN, lt_NN, gt_NN, ge_NN, eq_NN, ne_NN, eq_TT, ne_TT, eq_WW, ne_WW, -List.getD_eq_getElem?_getD, oNot, neg_1, dOf_d, isTup_T, isTup_W, list_T, nc_eq c]
  · simp [fnV, enOf, mSeq, mRet, mRetV, mAnd, mOr, mIf, mIfS, mT, tNotM, tAndM, tOrM, mCall, mArgs, mCons, mNil, mVar, mC, m1, m2, o1, o2, mDrop, mSet, mSets, mUnp, mTup, mLst, mImm, datas, setsO, bindO, bind_ret, bind_fail, must_t, ofO_some, isB, mChain, Nat.beq, List.replicate, il0, il1, il2, il3, il4, il5, il6, il7, il8, il9, il10, il11, il12, il60, setsE, visE, demE, visO, demO, gTupM, gsCons, gsNil, len_T, len_W, len_L, add_N, sub_N, in_T, le_NN, lt_NN, gt_NN, ge_NN, eq_NN, ne_NN, eq_TT, ne_TT, eq_WW, ne_WW, -List.getD_eq_getElem?_getD, oNot, neg_1, dOf_d, isTup_T, isTup_W, list_T, story_eq p c, get_last (storyP_len w l hs) (storyP_last w l hs), imm_dT, W.imm]
theorem ph_story_eq (p : Pl w l) (c : Ca w hs) : ph_story [.d (dW w), .d (dT l), .d (dT hs)] = .ret (.d (.list ((storyP w l hs).map dT))) := by
  unfold ph_story
  refine fnV_rt (seq_nx (drop_eq (x := .d .none) ?_) (seq_nx (drop_eq (x := .d .none) ?_) (seq_rt (ret_eq ?_))))
  · simp [fnV, enOf, mSeq, mRet, mRetV, mAnd, mOr, mIf, mIfS, mT, tNotM, tAndM, tOrM, mCall, mArgs, mCons, mNil, mVar, mC, m1, m2, o1, o2, mDrop, mSet, mSets, mUnp, mTup, mLst, mImm, datas, setsO, bindO, bind_ret, bind_fail, must_t, ofO_some, isB, mChain, Nat.beq, List.replicate, il0, il1, il2, il3, il4, il5, il6, il7, il8, il9, il10, il11, il12, il60, setsE, visE, demE, visO, demO, gTupM, gsCons, gsNil, len_T, len_W, len_L, add_N, sub_N, in_T, le_NN, lt_NN, gt_NN, ge_NN, eq_NN, ne_NN, eq_TT, ne_TT, eq_WW, ne_WW, -List.getD_eq_getElem?_getD, oNot, neg_1, dOf_d, isTup_T, isTup_W, list_T, np_eq p]
  · simp [fnV, enOf, mSeq, mRet, mRetV, mAnd, mOr, mIf, mIfS, mT, tNotM, tAndM, tOrM, mCall, mArgs, mCons, mNil, mVar, mC, m1, m2, o1, o2, mDrop, mSet, mSets, mUnp, mTup, mLst, mImm, datas, setsO, bindO, bind_ret, bind_fail, must_t, ofO_some, isB, mChain, Nat.beq, List.replicate, il0, il1, il2, il3, il4, il5, il6, il7, il8, il9, il10, il11, il12, il60, setsE, visE, demE, visO, demO, gTupM, gsCons, gsNil, len_T, len_W, len_L, add_N, sub_N, in_T, le_NN, lt_NN, gt_NN, ge_NN, eq_NN, ne_NN, eq_TT, ne_TT, eq_WW, ne_WW, -List.getD_eq_getElem?_getD, oNot, neg_1, dOf_d, isTup_T, isTup_W, list_T, nc_eq c]
  · simp [fnV, enOf, mSeq, mRet, mRetV, mAnd, mOr, mIf, mIfS, mT, tNotM, tAndM, tOrM, mCall, mArgs, mCons, mNil, mVar, mC, m1, m2, o1, o2, mDrop, mSet, mSets, mUnp, mTup, mLst, mImm, datas, setsO, bindO, bind_ret, bind_fail, must_t, ofO_some, isB, mChain, Nat.beq, List.replicate, il0, il1, il2, il3, il4, il5, il6, il7, il8, il9, il10, il11, il12, il60, setsE, visE, demE, visO, demO, gTupM, gsCons, gsNil, len_T, len_W, len_L, add_N, sub_N, in_T, le_NN, lt_NN, gt_NN, ge_NN, eq_NN, ne_NN, eq_TT, ne_TT, eq_WW, ne_WW, -List.getD_eq_getElem?_getD, oNot, neg_1, dOf_d, isTup_T, isTup_W, list_T, story_eq p c]
end G

set_option Elab.async false
set_option linter.all false
set_option maxRecDepth 100000
namespace G
open PySem PySem.Spec PyProof.Rows L2
/-! S4: what the program's stories answer. -/
variable {w : List (List Nat)} {l hs : List Nat} {h g : Nat}
/-- the places after so many of the calls -/
def stN (w : List (List Nat)) (l hs : List Nat) (k : Nat) : List Nat := runN w l (hs.take k)
theorem stN_len (k : Nat) : (stN w l hs k).length = l.length := runN_len w _ l
theorem storyP_get {k : Nat} (hk : k ≤ hs.length) : (storyP w l hs)[k]? = some (stN w l hs k) := by
  unfold storyP
  rw [List.getElem?_map, List.getElem?_range (by omega)]; rfl
theorem get_st {k : Nat} (hk : k ≤ hs.length) : oGet (.d (.list ((storyP w l hs).map dT))) (.d (dN k)) = .ret (.d (dT (stN w l hs k))) := get_L (storyP_get hk)
theorem get_g (k : Nat) (hg : g < l.length) : oGet (.d (dT (stN w l hs k))) (.d (dN g)) = .ret (.d (dN ((stN w l hs k).getD g 0))) := get_Tg (by rw [stN_len]; exact hg)
theorem range_lt {n : Nat} {p q : List Nat} {x : Nat} (e : List.range n = p ++ x :: q) : x < n := List.mem_range.mp (by rw [e]; simp)
theorem range_len {n : Nat} {p q : List Nat} {x : Nat} (e : List.range n = p ++ x :: q) : p.length < n := by
  have := congrArg List.length e
  rw [List.length_range] at this
  simp at this; omega
theorem filt_add {α : Type} (c : α → Bool) (p : List α) (x : α) : (p ++ [x]).filter c = if c x = true then p.filter c ++ [x] else p.filter c := by
  rw [List.filter_append]
  by_cases h : c x = true
  · rw [if_pos h, List.filter_cons_of_pos h]; rfl
  · rw [if_neg h, List.filter_cons_of_neg h]; simp
theorem filt_len {α : Type} (c : α → Bool) (p : List α) : (p.filter c).length ≤ p.length := List.length_filter_le _ _
def stillN (w : List (List Nat)) (l hs : List Nat) : List Nat := (List.range hs.length).filter fun k => decide (stN w l hs k = stN w l hs (k + 1))
theorem ph_still_calls_eq (p : Pl w l) (c : Ca w hs) : ph_still_calls [.d (dW w), .d (dT l), .d (dT hs)] = .ret (.d (dT (stillN w l hs))) := by
  have h60 := c.most
  unfold ph_still_calls
  refine fnV_rt (seq_nx (drop_eq (x := .d .none) ?_) (seq_nx (drop_eq (x := .d .none) ?_) (seq_nx (en1 := [some ⟨1, .d (dW w)⟩, some ⟨1, .d (dT l)⟩, some ⟨1, .d (dT hs)⟩, some ⟨0, .d (.list ((storyP w l hs).map dT))⟩, some ⟨0, .d (.list [])⟩, none]) ?_ ?_)))
  · simp [fnV, enOf, mSeq, mRet, mRetV, mAnd, mOr, mIf, mIfS, mT, tNotM, tAndM, tOrM, mCall, mArgs, mCons, mNil, mVar, mC, m1, m2, o1, o2, mDrop, mSet, mSets, mUnp, mTup, mLst, mImm, datas, setsO, bindO, bind_ret, bind_fail, must_t, ofO_some, isB, mChain, Nat.beq, List.replicate, il0, il1, il2, il3, il4, il5, il6, il7, il8, il9, il10, il11, il12, il60, setsE, visE, demE, visO, demO, gTupM, gsCons, gsNil, len_T, len_W, len_L, add_N, sub_N, in_T, le_NN, lt_NN, gt_NN, ge_NN, eq_NN, ne_NN, eq_TT, ne_TT, eq_WW, ne_WW, -List.getD_eq_getElem?_getD, oNot, neg_1, dOf_d, isTup_T, isTup_W, list_T, np_eq p]
  · simp [fnV, enOf, mSeq, mRet, mRetV, mAnd, mOr, mIf, mIfS, mT, tNotM, tAndM, tOrM, mCall, mArgs, mCons, mNil, mVar, mC, m1, m2, o1, o2, mDrop, mSet, mSets, mUnp, mTup, mLst, mImm, datas, setsO, bindO, bind_ret, bind_fail, must_t, ofO_some, isB, mChain, Nat.beq, List.replicate, il0, il1, il2, il3, il4, il5, il6, il7, il8, il9, il10, il11, il12, il60, setsE, visE, demE, visO, demO, gTupM, gsCons, gsNil, len_T, len_W, len_L, add_N, sub_N, in_T, le_NN, lt_NN, gt_NN, ge_NN, eq_NN, ne_NN, eq_TT, ne_TT, eq_WW, ne_WW, -List.getD_eq_getElem?_getD, oNot, neg_1, dOf_d, isTup_T, isTup_W, list_T, nc_eq c]
  · simp [fnV, enOf, mSeq, mRet, mRetV, mAnd, mOr, mIf, mIfS, mT, tNotM, tAndM, tOrM, mCall, mArgs, mCons, mNil, mVar, mC, m1, m2, o1, o2, mDrop, mSet, mSets, mUnp, mTup, mLst, mImm, datas, setsO, bindO, bind_ret, bind_fail, must_t, ofO_some, isB, mChain, Nat.beq, List.replicate, il0, il1, il2, il3, il4, il5, il6, il7, il8, il9, il10, il11, il12, il60, setsE, visE, demE, visO, demO, gTupM, gsCons, gsNil, len_T, len_W, len_L, add_N, sub_N, in_T, le_NN, lt_NN, gt_NN, ge_NN, eq_NN, ne_NN, eq_TT, ne_TT, eq_WW, ne_WW, -List.getD_eq_getElem?_getD, oNot, neg_1, dOf_d, isTup_T, isTup_W, list_T, story_eq p c, must_le (show 0 ≤ lim by decide)]
  · refine (mFor0_inv (List.range hs.length) (fun n => .d (dN n)) (fun n => [(5, .d (dN n))]) (fun p en => ∃ a, en = [some ⟨1, .d (dW w)⟩, some ⟨1, .d (dT l)⟩, some ⟨1, .d (dT hs)⟩, some ⟨0, .d (.list ((storyP w l hs).map dT))⟩, some ⟨0, .d (.list ((p.filter fun k => decide (stN w l hs k = stN w l hs (k + 1))).map dN))⟩, a]) ?_ ?_ ?_).elim fun en1 ⟨e1, a, e2⟩ => seq_nx e1 (seq_rt (ret_eq ?_))
    · simp [fnV, enOf, mSeq, mRet, mRetV, mAnd, mOr, mIf, mIfS, mT, tNotM, tAndM, tOrM, mCall, mArgs, mCons, mNil, mVar, mC, m1, m2, o1, o2, mDrop, mSet, mSets, mUnp, mTup, mLst, mImm, datas, setsO, bindO, bind_ret, bind_fail, must_t, ofO_some, isB, mChain, Nat.beq, List.replicate, il0, il1, il2, il3, il4, il5, il6, il7, il8, il9, il10, il11, il12, il60, setsE, visE, demE, visO, demO, gTupM, gsCons, gsNil, len_T, len_W, len_L, add_N, sub_N, in_T, le_NN, lt_NN, gt_NN, ge_NN, eq_NN, ne_NN, eq_TT, ne_TT, eq_WW, ne_WW, -List.getD_eq_getElem?_getD, oNot, neg_1, dOf_d, isTup_T, isTup_W, list_T, rng_N (show hs.length ≤ 100000 by omega)]
    · exact ⟨_, rfl⟩
    · rintro p q x e en ⟨a, rfl⟩
      have hx := range_lt e
      have hp := range_len e
      have hf := filt_len (fun k => decide (stN w l hs k = stN w l hs (k + 1))) p
      refine ⟨rfl, _, seq_nx (en1 := [some ⟨1, .d (dW w)⟩, some ⟨1, .d (dT l)⟩, some ⟨1, .d (dT hs)⟩, some ⟨0, .d (.list ((storyP w l hs).map dT))⟩, some ⟨0, .d (.list (((p ++ [x]).filter fun k => decide (stN w l hs k = stN w l hs (k + 1))).map dN))⟩, some ⟨1, .d (dN x)⟩]) ?_ rfl, _, rfl⟩
      have ht : mT (m2 (oDD pAny PyData.eqv) (m2 oGet (mVar 3) (mVar 5)) (m2 oGet (mVar 3) (m2 oAdd (mVar 5) (mC (.int (1)))))) [some ⟨1, .d (dW w)⟩, some ⟨1, .d (dT l)⟩, some ⟨1, .d (dT hs)⟩, some ⟨0, .d (.list ((storyP w l hs).map dT))⟩, some ⟨0, .d (.list ((p.filter fun k => decide (stN w l hs k = stN w l hs (k + 1))).map dN))⟩, some ⟨1, .d (dN x)⟩] = .ret (decide (stN w l hs x = stN w l hs (x + 1))) := by
        simp [fnV, enOf, mSeq, mRet, mRetV, mAnd, mOr, mIf, mIfS, mT, tNotM, tAndM, tOrM, mCall, mArgs, mCons, mNil, mVar, mC, m1, m2, o1, o2, mDrop, mSet, mSets, mUnp, mTup, mLst, mImm, datas, setsO, bindO, bind_ret, bind_fail, must_t, ofO_some, isB, mChain, Nat.beq, List.replicate, il0, il1, il2, il3, il4, il5, il6, il7, il8, il9, il10, il11, il12, il60, setsE, visE, demE, visO, demO, gTupM, gsCons, gsNil, len_T, len_W, len_L, add_N, sub_N, in_T, le_NN, lt_NN, gt_NN, ge_NN, eq_NN, ne_NN, eq_TT, ne_TT, eq_WW, ne_WW, -List.getD_eq_getElem?_getD, oNot, neg_1, dOf_d, isTup_T, isTup_W, list_T, get_st (show x ≤ hs.length by omega), get_st (show x + 1 ≤ hs.length by omega)]
      rw [filt_add]
      by_cases hc : stN w l hs x = stN w l hs (x + 1)
      · rw [decide_eq_true hc] at ht
        refine ifS_t ht (seq_nx ?_ rfl)
        rw [if_pos (decide_eq_true hc)]
        unfold mAppMove
        simp [fnV, enOf, mSeq, mRet, mRetV, mAnd, mOr, mIf, mIfS, mT, tNotM, tAndM, tOrM, mCall, mArgs, mCons, mNil, mVar, mC, m1, m2, o1, o2, mDrop, mSet, mSets, mUnp, mTup, mLst, mImm, datas, setsO, bindO, bind_ret, bind_fail, must_t, ofO_some, isB, mChain, Nat.beq, List.replicate, il0, il1, il2, il3, il4, il5, il6, il7, il8, il9, il10, il11, il12, il60, setsE, visE, demE, visO, demO, gTupM, gsCons, gsNil, len_T, len_W, len_L, add_N, sub_N, in_T, le_NN, lt_NN, gt_NN, ge_NN, eq_NN, ne_NN, eq_TT, ne_TT, eq_WW, ne_WW, -List.getD_eq_getElem?_getD, oNot, neg_1, dOf_d, isTup_T, isTup_W, list_T, imm_dN, must_le (show (p.filter fun k => decide (stN w l hs k = stN w l hs (k + 1))).length ≤ 99999 by omega)]
      · rw [decide_eq_false hc] at ht
        refine ifS_f ht ?_
        rw [if_neg (by simpa using hc)]; rfl
    · subst e2
      simp [fnV, enOf, mSeq, mRet, mRetV, mAnd, mOr, mIf, mIfS, mT, tNotM, tAndM, tOrM, mCall, mArgs, mCons, mNil, mVar, mC, m1, m2, o1, o2, mDrop, mSet, mSets, mUnp, mTup, mLst, mImm, datas, setsO, bindO, bind_ret, bind_fail, must_t, ofO_some, isB, mChain, Nat.beq, List.replicate, il0, il1, il2, il3, il4, il5, il6, il7, il8, il9, il10, il11, il12, il60, setsE, visE, demE, visO, demO, gTupM, gsCons, gsNil, len_T, len_W, len_L, add_N, sub_N, in_T, le_NN, lt_NN, gt_NN, ge_NN, eq_NN, ne_NN, eq_TT, ne_TT, eq_WW, ne_WW, -List.getD_eq_getElem?_getD, oNot, neg_1, dOf_d, isTup_T, isTup_W, list_T, tup_N]
      rfl
/-- whom the k-th call draws -/
def goneN (w : List (List Nat)) (l hs : List Nat) (k : Nat) : List Nat := (List.range l.length).filter fun g => !decide ((stN w l hs k).getD g 0 = (stN w l hs (k + 1)).getD g 0)
theorem ph_drawn_eq (p : Pl w l) (c : Ca w hs) : ph_drawn [.d (dW w), .d (dT l), .d (dT hs)] = .ret (.d (dW ((List.range hs.length).map (goneN w l hs)))) := by
  have h60 := c.most
  have h6 := p.six
  unfold ph_drawn
  refine fnV_rt (seq_nx (drop_eq (x := .d .none) ?_) (seq_nx (drop_eq (x := .d .none) ?_) (seq_nx (en1 := [some ⟨1, .d (dW w)⟩, some ⟨1, .d (dT l)⟩, some ⟨1, .d (dT hs)⟩, some ⟨0, .d (.list ((storyP w l hs).map dT))⟩, some ⟨0, .d (.list [])⟩, none, none]) ?_ ?_)))
  · simp [fnV, enOf, mSeq, mRet, mRetV, mAnd, mOr, mIf, mIfS, mT, tNotM, tAndM, tOrM, mCall, mArgs, mCons, mNil, mVar, mC, m1, m2, o1, o2, mDrop, mSet, mSets, mUnp, mTup, mLst, mImm, datas, setsO, bindO, bind_ret, bind_fail, must_t, ofO_some, isB, mChain, Nat.beq, List.replicate, il0, il1, il2, il3, il4, il5, il6, il7, il8, il9, il10, il11, il12, il60, setsE, visE, demE, visO, demO, gTupM, gsCons, gsNil, len_T, len_W, len_L, add_N, sub_N, in_T, le_NN, lt_NN, gt_NN, ge_NN, eq_NN, ne_NN, eq_TT, ne_TT, eq_WW, ne_WW, -List.getD_eq_getElem?_getD, oNot, neg_1, dOf_d, isTup_T, isTup_W, list_T, np_eq p]
  · simp [fnV, enOf, mSeq, mRet, mRetV, mAnd, mOr, mIf, mIfS, mT, tNotM, tAndM, tOrM, mCall, mArgs, mCons, mNil, mVar, mC, m1, m2, o1, o2, mDrop, mSet, mSets, mUnp, mTup, mLst, mImm, datas, setsO, bindO, bind_ret, bind_fail, must_t, ofO_some, isB, mChain, Nat.beq, List.replicate, il0, il1, il2, il3, il4, il5, il6, il7, il8, il9, il10, il11, il12, il60, setsE, visE, demE, visO, demO, gTupM, gsCons, gsNil, len_T, len_W, len_L, add_N, sub_N, in_T, le_NN, lt_NN, gt_NN, ge_NN, eq_NN, ne_NN, eq_TT, ne_TT, eq_WW, ne_WW, -List.getD_eq_getElem?_getD, oNot, neg_1, dOf_d, isTup_T, isTup_W, list_T, nc_eq c]
  · simp [fnV, enOf, mSeq, mRet, mRetV, mAnd, mOr, mIf, mIfS, mT, tNotM, tAndM, tOrM, mCall, mArgs, mCons, mNil, mVar, mC, m1, m2, o1, o2, mDrop, mSet, mSets, mUnp, mTup, mLst, mImm, datas, setsO, bindO, bind_ret, bind_fail, must_t, ofO_some, isB, mChain, Nat.beq, List.replicate, il0, il1, il2, il3, il4, il5, il6, il7, il8, il9, il10, il11, il12, il60, setsE, visE, demE, visO, demO, gTupM, gsCons, gsNil, len_T, len_W, len_L, add_N, sub_N, in_T, le_NN, lt_NN, gt_NN, ge_NN, eq_NN, ne_NN, eq_TT, ne_TT, eq_WW, ne_WW, -List.getD_eq_getElem?_getD, oNot, neg_1, dOf_d, isTup_T, isTup_W, list_T, story_eq p c, must_le (show 0 ≤ lim by decide), must_le (show 2 ≤ lim by decide)]
  · refine (mFor0_inv (List.range hs.length) (fun n => .d (dN n)) (fun n => [(5, .d (dN n))]) (fun p en => ∃ a, en = [some ⟨1, .d (dW w)⟩, some ⟨1, .d (dT l)⟩, some ⟨1, .d (dT hs)⟩, some ⟨0, .d (.list ((storyP w l hs).map dT))⟩, some ⟨0, .d (.list ((p.map (goneN w l hs)).map dT))⟩, a, none]) ?_ ?_ ?_).elim fun en1 ⟨e1, a, e2⟩ => seq_nx e1 (seq_rt (ret_eq ?_))
    · simp [fnV, enOf, mSeq, mRet, mRetV, mAnd, mOr, mIf, mIfS, mT, tNotM, tAndM, tOrM, mCall, mArgs, mCons, mNil, mVar, mC, m1, m2, o1, o2, mDrop, mSet, mSets, mUnp, mTup, mLst, mImm, datas, setsO, bindO, bind_ret, bind_fail, must_t, ofO_some, isB, mChain, Nat.beq, List.replicate, il0, il1, il2, il3, il4, il5, il6, il7, il8, il9, il10, il11, il12, il60, setsE, visE, demE, visO, demO, gTupM, gsCons, gsNil, len_T, len_W, len_L, add_N, sub_N, in_T, le_NN, lt_NN, gt_NN, ge_NN, eq_NN, ne_NN, eq_TT, ne_TT, eq_WW, ne_WW, -List.getD_eq_getElem?_getD, oNot, neg_1, dOf_d, isTup_T, isTup_W, list_T, rng_N (show hs.length ≤ 100000 by omega)]
    · exact ⟨_, rfl⟩
    · rintro p q x e en ⟨a, rfl⟩
      have hx := range_lt e
      have hp := range_len e
      refine ⟨rfl, _, seq_nx (en1 := [some ⟨1, .d (dW w)⟩, some ⟨1, .d (dT l)⟩, some ⟨1, .d (dT hs)⟩, some ⟨0, .d (.list ((storyP w l hs).map dT))⟩, some ⟨0, .d (.list (((p ++ [x]).map (goneN w l hs)).map dT))⟩, some ⟨1, .d (dN x)⟩, none]) ?_ rfl, _, rfl⟩
      have hl : mArgs (o1 oTuple) (mCons (mLC (fun en => ((mCons (mArgs (o1 oLenX) (mCons (mVar 1) mNil)) mNil) en).bind rng1) (fun x => .ret [(6, x)]) [6] (mT (m2 (oDD pAny fNe) (m2 oGet (m2 oGet (mVar 3) (mVar 5)) (mVar 6)) (m2 oGet (m2 oGet (mVar 3) (m2 oAdd (mVar 5) (mC (.int (1))))) (mVar 6)))) (mImm (mVar 6))) mNil) [some ⟨1, .d (dW w)⟩, some ⟨1, .d (dT l)⟩, some ⟨1, .d (dT hs)⟩, some ⟨0, .d (.list ((storyP w l hs).map dT))⟩, some ⟨0, .d (.list ((p.map (goneN w l hs)).map dT))⟩, some ⟨1, .d (dN x)⟩, none] = .ret (.d (dT (goneN w l hs x))) := by
        refine (args1 (mLC_eq (List.range l.length) (fun n => .d (dN n)) (fun g => !decide ((stN w l hs x).getD g 0 = (stN w l hs (x + 1)).getD g 0)) dN ?_ (by rw [List.length_range]; omega) ?_ ?_)).trans ?_
        · simp [fnV, enOf, mSeq, mRet, mRetV, mAnd, mOr, mIf, mIfS, mT, tNotM, tAndM, tOrM, mCall, mArgs, mCons, mNil, mVar, mC, m1, m2, o1, o2, mDrop, mSet, mSets, mUnp, mTup, mLst, mImm, datas, setsO, bindO, bind_ret, bind_fail, must_t, ofO_some, isB, mChain, Nat.beq, List.replicate, il0, il1, il2, il3, il4, il5, il6, il7, il8, il9, il10, il11, il12, il60, setsE, visE, demE, visO, demO, gTupM, gsCons, gsNil, len_T, len_W, len_L, add_N, sub_N, in_T, le_NN, lt_NN, gt_NN, ge_NN, eq_NN, ne_NN, eq_TT, ne_TT, eq_WW, ne_WW, -List.getD_eq_getElem?_getD, oNot, neg_1, dOf_d, isTup_T, isTup_W, list_T, rng_N (show l.length ≤ 100000 by omega)]
        · intro g hg
          rw [List.mem_range] at hg
          simp [fnV, enOf, mSeq, mRet, mRetV, mAnd, mOr, mIf, mIfS, mT, tNotM, tAndM, tOrM, mCall, mArgs, mCons, mNil, mVar, mC, m1, m2, o1, o2, mDrop, mSet, mSets, mUnp, mTup, mLst, mImm, datas, setsO, bindO, bind_ret, bind_fail, must_t, ofO_some, isB, mChain, Nat.beq, List.replicate, il0, il1, il2, il3, il4, il5, il6, il7, il8, il9, il10, il11, il12, il60, setsE, visE, demE, visO, demO, gTupM, gsCons, gsNil, len_T, len_W, len_L, add_N, sub_N, in_T, le_NN, lt_NN, gt_NN, ge_NN, eq_NN, ne_NN, eq_TT, ne_TT, eq_WW, ne_WW, -List.getD_eq_getElem?_getD, oNot, neg_1, dOf_d, isTup_T, isTup_W, list_T, get_st (show x ≤ hs.length by omega), get_st (show x + 1 ≤ hs.length by omega), get_g _ hg]
        · intro g hg _
          simp [fnV, enOf, mSeq, mRet, mRetV, mAnd, mOr, mIf, mIfS, mT, tNotM, tAndM, tOrM, mCall, mArgs, mCons, mNil, mVar, mC, m1, m2, o1, o2, mDrop, mSet, mSets, mUnp, mTup, mLst, mImm, datas, setsO, bindO, bind_ret, bind_fail, must_t, ofO_some, isB, mChain, Nat.beq, List.replicate, il0, il1, il2, il3, il4, il5, il6, il7, il8, il9, il10, il11, il12, il60, setsE, visE, demE, visO, demO, gTupM, gsCons, gsNil, len_T, len_W, len_L, add_N, sub_N, in_T, le_NN, lt_NN, gt_NN, ge_NN, eq_NN, ne_NN, eq_TT, ne_TT, eq_WW, ne_WW, -List.getD_eq_getElem?_getD, oNot, neg_1, dOf_d, isTup_T, isTup_W, list_T, imm_dN, W.imm]
        · exact tup_N _
      unfold mApp
      rw [show setsE [some ⟨1, .d (dW w)⟩, some ⟨1, .d (dT l)⟩, some ⟨1, .d (dT hs)⟩, some ⟨0, .d (.list ((storyP w l hs).map dT))⟩, some ⟨0, .d (.list ((p.map (goneN w l hs)).map dT))⟩, a, none] [(5, .d (dN x))] = [some ⟨1, .d (dW w)⟩, some ⟨1, .d (dT l)⟩, some ⟨1, .d (dT hs)⟩, some ⟨0, .d (.list ((storyP w l hs).map dT))⟩, some ⟨0, .d (.list ((p.map (goneN w l hs)).map dT))⟩, some ⟨1, .d (dN x)⟩, none] from rfl, hl]
      simp [fnV, enOf, mSeq, mRet, mRetV, mAnd, mOr, mIf, mIfS, mT, tNotM, tAndM, tOrM, mCall, mArgs, mCons, mNil, mVar, mC, m1, m2, o1, o2, mDrop, mSet, mSets, mUnp, mTup, mLst, mImm, datas, setsO, bindO, bind_ret, bind_fail, must_t, ofO_some, isB, mChain, Nat.beq, List.replicate, il0, il1, il2, il3, il4, il5, il6, il7, il8, il9, il10, il11, il12, il60, setsE, visE, demE, visO, demO, gTupM, gsCons, gsNil, len_T, len_W, len_L, add_N, sub_N, in_T, le_NN, lt_NN, gt_NN, ge_NN, eq_NN, ne_NN, eq_TT, ne_TT, eq_WW, ne_WW, -List.getD_eq_getElem?_getD, oNot, neg_1, dOf_d, isTup_T, isTup_W, list_T, must_le (show p.length ≤ 99999 by omega)]
    · subst e2
      simp [fnV, enOf, mSeq, mRet, mRetV, mAnd, mOr, mIf, mIfS, mT, tNotM, tAndM, tOrM, mCall, mArgs, mCons, mNil, mVar, mC, m1, m2, o1, o2, mDrop, mSet, mSets, mUnp, mTup, mLst, mImm, datas, setsO, bindO, bind_ret, bind_fail, must_t, ofO_some, isB, mChain, Nat.beq, List.replicate, il0, il1, il2, il3, il4, il5, il6, il7, il8, il9, il10, il11, il12, il60, setsE, visE, demE, visO, demO, gTupM, gsCons, gsNil, len_T, len_W, len_L, add_N, sub_N, in_T, le_NN, lt_NN, gt_NN, ge_NN, eq_NN, ne_NN, eq_TT, ne_TT, eq_WW, ne_WW, -List.getD_eq_getElem?_getD, oNot, neg_1, dOf_d, isTup_T, isTup_W, list_T, tup_TT]
      have := tup_TT ((List.range hs.length).map (goneN w l hs))
      rw [List.map_map] at this
      exact this
/-- how often each guest moved -/
def movesN (w : List (List Nat)) (l hs : List Nat) (p : List Nat) (g : Nat) : Nat := (p.filter fun k => !decide ((stN w l hs k).getD g 0 = (stN w l hs (k + 1)).getD g 0)).length
theorem movesN_add (p : List Nat) (x : Nat) : movesN w l hs (p ++ [x]) g = movesN w l hs p g + if (stN w l hs x).getD g 0 = (stN w l hs (x + 1)).getD g 0 then 0 else 1 := by
  unfold movesN
  rw [filt_add]
  by_cases h : (stN w l hs x).getD g 0 = (stN w l hs (x + 1)).getD g 0
  · rw [if_pos h, if_neg (by rw [decide_eq_true h]; decide)]; rfl
  · rw [if_neg h, if_pos (by rw [decide_eq_false h]; rfl), List.length_append]; rfl
theorem range_at {n : Nat} {p q : List Nat} {x : Nat} (e : List.range n = p ++ x :: q) : x = p.length := by
  have h1 : (List.range n)[p.length]? = some x := by rw [e]; simp
  have h2 := range_len e
  rw [List.getElem?_range h2] at h1
  exact (Option.some.inj h1).symm
theorem set_range {α : Type} (f : Nat → α) (n y : Nat) (v : α) : ((List.range n).map f).set y v = (List.range n).map fun g => if g = y then v else f g := by
  apply List.ext_getElem?
  intro i
  rw [List.getElem?_set, List.getElem?_map, List.getElem?_map]
  by_cases hi : i < n
  · rw [List.getElem?_range hi]
    by_cases e : y = i
    · subst e; simp [hi]
    · rw [if_neg e]
      show some (f i) = some (if i = y then v else f i)
      rw [if_neg (Ne.symm e)]
  · rw [show (List.range n)[i]? = none by rw [List.getElem?_eq_none_iff, List.length_range]; omega]
    by_cases e : y = i
    · subst e; simp [hi]
    · rw [if_neg e]; rfl
theorem ph_moves_eq (p : Pl w l) (c : Ca w hs) : ph_moves [.d (dW w), .d (dT l), .d (dT hs)] = .ret (.d (dT ((List.range l.length).map (movesN w l hs (List.range hs.length))))) := by
  have h60 := c.most
  have h6 := p.six
  have h1 := p.one
  unfold ph_moves
  refine fnV_rt (seq_nx (drop_eq (x := .d .none) ?_) (seq_nx (drop_eq (x := .d .none) ?_) (seq_nx (en1 := [some ⟨1, .d (dW w)⟩, some ⟨1, .d (dT l)⟩, some ⟨1, .d (dT hs)⟩, some ⟨0, .d (.list ((storyP w l hs).map dT))⟩, some ⟨0, .d (.list ((List.range l.length).map fun g => dN (movesN w l hs [] g)))⟩, none, none]) ?_ ?_)))
  · simp [fnV, enOf, mSeq, mRet, mRetV, mAnd, mOr, mIf, mIfS, mT, tNotM, tAndM, tOrM, mCall, mArgs, mCons, mNil, mVar, mC, m1, m2, o1, o2, mDrop, mSet, mSets, mUnp, mTup, mLst, mImm, datas, setsO, bindO, bind_ret, bind_fail, must_t, ofO_some, isB, mChain, Nat.beq, List.replicate, il0, il1, il2, il3, il4, il5, il6, il7, il8, il9, il10, il11, il12, il60, setsE, visE, demE, visO, demO, gTupM, gsCons, gsNil, len_T, len_W, len_L, add_N, sub_N, in_T, le_NN, lt_NN, gt_NN, ge_NN, eq_NN, ne_NN, eq_TT, ne_TT, eq_WW, ne_WW, -List.getD_eq_getElem?_getD, oNot, neg_1, dOf_d, isTup_T, isTup_W, list_T, np_eq p]
  · simp [fnV, enOf, mSeq, mRet, mRetV, mAnd, mOr, mIf, mIfS, mT, tNotM, tAndM, tOrM, mCall, mArgs, mCons, mNil, mVar, mC, m1, m2, o1, o2, mDrop, mSet, mSets, mUnp, mTup, mLst, mImm, datas, setsO, bindO, bind_ret, bind_fail, must_t, ofO_some, isB, mChain, Nat.beq, List.replicate, il0, il1, il2, il3, il4, il5, il6, il7, il8, il9, il10, il11, il12, il60, setsE, visE, demE, visO, demO, gTupM, gsCons, gsNil, len_T, len_W, len_L, add_N, sub_N, in_T, le_NN, lt_NN, gt_NN, ge_NN, eq_NN, ne_NN, eq_TT, ne_TT, eq_WW, ne_WW, -List.getD_eq_getElem?_getD, oNot, neg_1, dOf_d, isTup_T, isTup_W, list_T, nc_eq c]
  · have key : ∀ n, n ≤ 6 → oMul (.d (.list [dN 0])) (.d (dN n)) = .ret (.d (.list ((List.range n).map fun g => dN (movesN w l hs [] g)))) := by
      intro n hn
      match n, hn with
      | 0, _ => rfl
      | 1, _ => rfl
      | 2, _ => rfl
      | 3, _ => rfl
      | 4, _ => rfl
      | 5, _ => rfl
      | 6, _ => rfl
    simp [fnV, enOf, mSeq, mRet, mRetV, mAnd, mOr, mIf, mIfS, mT, tNotM, tAndM, tOrM, mCall, mArgs, mCons, mNil, mVar, mC, m1, m2, o1, o2, mDrop, mSet, mSets, mUnp, mTup, mLst, mImm, datas, setsO, bindO, bind_ret, bind_fail, must_t, ofO_some, isB, mChain, Nat.beq, List.replicate, il0, il1, il2, il3, il4, il5, il6, il7, il8, il9, il10, il11, il12, il60, setsE, visE, demE, visO, demO, gTupM, gsCons, gsNil, len_T, len_W, len_L, add_N, sub_N, in_T, le_NN, lt_NN, gt_NN, ge_NN, eq_NN, ne_NN, eq_TT, ne_TT, eq_WW, ne_WW, -List.getD_eq_getElem?_getD, oNot, neg_1, dOf_d, isTup_T, isTup_W, list_T, story_eq p c, must_le (show 1 ≤ lim by decide), key _ h6]
  · refine (mFor0_inv (List.range hs.length) (fun n => .d (dN n)) (fun n => [(5, .d (dN n))]) (fun p en => ∃ a b, en = [some ⟨1, .d (dW w)⟩, some ⟨1, .d (dT l)⟩, some ⟨1, .d (dT hs)⟩, some ⟨0, .d (.list ((storyP w l hs).map dT))⟩, some ⟨0, .d (.list ((List.range l.length).map fun g => dN (movesN w l hs p g)))⟩, a, b]) ?_ ?_ ?_).elim fun en1 ⟨e1, a, b, e2⟩ => seq_nx e1 (seq_rt (ret_eq ?_))
    · simp [fnV, enOf, mSeq, mRet, mRetV, mAnd, mOr, mIf, mIfS, mT, tNotM, tAndM, tOrM, mCall, mArgs, mCons, mNil, mVar, mC, m1, m2, o1, o2, mDrop, mSet, mSets, mUnp, mTup, mLst, mImm, datas, setsO, bindO, bind_ret, bind_fail, must_t, ofO_some, isB, mChain, Nat.beq, List.replicate, il0, il1, il2, il3, il4, il5, il6, il7, il8, il9, il10, il11, il12, il60, setsE, visE, demE, visO, demO, gTupM, gsCons, gsNil, len_T, len_W, len_L, add_N, sub_N, in_T, le_NN, lt_NN, gt_NN, ge_NN, eq_NN, ne_NN, eq_TT, ne_TT, eq_WW, ne_WW, -List.getD_eq_getElem?_getD, oNot, neg_1, dOf_d, isTup_T, isTup_W, list_T, rng_N (show hs.length ≤ 100000 by omega)]
    · exact ⟨_, _, rfl⟩
    · rintro p q x e en ⟨a, b, rfl⟩
      have hx := range_lt e
      refine ⟨rfl, (mFor0_inv (List.range l.length) (fun n => .d (dN n)) (fun n => [(6, .d (dN n))]) (fun r en => ∃ b, en = [some ⟨1, .d (dW w)⟩, some ⟨1, .d (dT l)⟩, some ⟨1, .d (dT hs)⟩, some ⟨0, .d (.list ((storyP w l hs).map dT))⟩, some ⟨0, .d (.list ((List.range l.length).map fun g => dN (if g < r.length then movesN w l hs (p ++ [x]) g else movesN w l hs p g)))⟩, some ⟨1, .d (dN x)⟩, b]) ?_ ?_ ?_).elim fun en1 ⟨e1, b, e2⟩ => ⟨_, seq_nx e1 rfl, some ⟨1, .d (dN x)⟩, b, ?_⟩⟩
      · simp [fnV, enOf, mSeq, mRet, mRetV, mAnd, mOr, mIf, mIfS, mT, tNotM, tAndM, tOrM, mCall, mArgs, mCons, mNil, mVar, mC, m1, m2, o1, o2, mDrop, mSet, mSets, mUnp, mTup, mLst, mImm, datas, setsO, bindO, bind_ret, bind_fail, must_t, ofO_some, isB, mChain, Nat.beq, List.replicate, il0, il1, il2, il3, il4, il5, il6, il7, il8, il9, il10, il11, il12, il60, setsE, visE, demE, visO, demO, gTupM, gsCons, gsNil, len_T, len_W, len_L, add_N, sub_N, in_T, le_NN, lt_NN, gt_NN, ge_NN, eq_NN, ne_NN, eq_TT, ne_TT, eq_WW, ne_WW, -List.getD_eq_getElem?_getD, oNot, neg_1, dOf_d, isTup_T, isTup_W, list_T, rng_N (show l.length ≤ 100000 by omega)]
      · exact ⟨b, by simp [setsE]⟩
      · rintro r s y e' en ⟨b, rfl⟩
        have hy := range_lt e'
        have hr := range_at e'
        refine ⟨rfl, _, seq_nx (en1 := [some ⟨1, .d (dW w)⟩, some ⟨1, .d (dT l)⟩, some ⟨1, .d (dT hs)⟩, some ⟨0, .d (.list ((storyP w l hs).map dT))⟩, some ⟨0, .d (.list ((List.range l.length).map fun g => dN (if g < (r ++ [y]).length then movesN w l hs (p ++ [x]) g else movesN w l hs p g)))⟩, some ⟨1, .d (dN x)⟩, some ⟨1, .d (dN y)⟩]) ?_ rfl, _, rfl⟩
        have ht : mT (m2 (oDD pAny fNe) (m2 oGet (m2 oGet (mVar 3) (mVar 5)) (mVar 6)) (m2 oGet (m2 oGet (mVar 3) (m2 oAdd (mVar 5) (mC (.int (1))))) (mVar 6))) [some ⟨1, .d (dW w)⟩, some ⟨1, .d (dT l)⟩, some ⟨1, .d (dT hs)⟩, some ⟨0, .d (.list ((storyP w l hs).map dT))⟩, some ⟨0, .d (.list ((List.range l.length).map fun g => dN (if g < r.length then movesN w l hs (p ++ [x]) g else movesN w l hs p g)))⟩, some ⟨1, .d (dN x)⟩, some ⟨1, .d (dN y)⟩] = .ret (!decide ((stN w l hs x).getD y 0 = (stN w l hs (x + 1)).getD y 0)) := by
          simp [fnV, enOf, mSeq, mRet, mRetV, mAnd, mOr, mIf, mIfS, mT, tNotM, tAndM, tOrM, mCall, mArgs, mCons, mNil, mVar, mC, m1, m2, o1, o2, mDrop, mSet, mSets, mUnp, mTup, mLst, mImm, datas, setsO, bindO, bind_ret, bind_fail, must_t, ofO_some, isB, mChain, Nat.beq, List.replicate, il0, il1, il2, il3, il4, il5, il6, il7, il8, il9, il10, il11, il12, il60, setsE, visE, demE, visO, demO, gTupM, gsCons, gsNil, len_T, len_W, len_L, add_N, sub_N, in_T, le_NN, lt_NN, gt_NN, ge_NN, eq_NN, ne_NN, eq_TT, ne_TT, eq_WW, ne_WW, -List.getD_eq_getElem?_getD, oNot, neg_1, dOf_d, isTup_T, isTup_W, list_T, get_st (show x ≤ hs.length by omega), get_st (show x + 1 ≤ hs.length by omega), get_g _ hy]
        by_cases hc : (stN w l hs x).getD y 0 = (stN w l hs (x + 1)).getD y 0
        · rw [decide_eq_true hc] at ht
          refine ifS_f ht ?_
          show T.ret (Out.nx [_, _, _, _, _, _, _]) = _
          congr 7
          refine congrArg (fun z => some (Slot.mk 0 (W.d (.list z)))) (List.map_congr_left fun g _ => ?_)
          rw [List.length_append, List.length_singleton]
          by_cases h1 : g < r.length
          · rw [if_pos h1, if_pos (by omega)]
          · rw [if_neg h1]
            by_cases h2 : g < r.length + 1
            · rw [if_pos h2, show g = y by omega, movesN_add, if_pos hc]; rfl
            · rw [if_neg h2]
        · rw [decide_eq_false hc] at ht
          refine ifS_t ht (seq_nx ?_ rfl)
          have hix : L2.ixN l.length (y : Int) = some y := by
            unfold L2.ixN
            rw [if_pos (by omega), if_pos (by omega)]
            rfl
          have hget : ((List.range l.length).map fun g => dN (if g < r.length then movesN w l hs (p ++ [x]) g else movesN w l hs p g))[y]? = some (dN (movesN w l hs p y)) := by
            rw [List.getElem?_map, List.getElem?_range hy]
            show some (dN (if y < r.length then _ else _)) = _
            rw [if_neg (by omega)]
          show (match L2.ixN ((List.range l.length).map fun g => dN (if g < r.length then movesN w l hs (p ++ [x]) g else movesN w l hs p g)).length (y : Int) with | some j => _ | none => T.fail) = _
          rw [List.length_map, List.length_range, hix]
          dsimp only
          rw [hget]
          show T.ret (Out.nx [_, _, _, _, some ⟨0, .d (.list (List.set _ y (.int ((movesN w l hs p y : Nat) + 1 : Int))))⟩, _, _]) = _
          rw [set_range]
          congr 7
          refine congrArg (fun z => some (Slot.mk 0 (W.d (.list z)))) (List.map_congr_left fun g _ => ?_)
          rw [List.length_append, List.length_singleton]
          by_cases hgy : g = y
          · subst hgy
            rw [if_pos rfl, if_pos (by omega), movesN_add, if_neg hc]; rfl
          · rw [if_neg hgy]
            by_cases h1 : g < r.length
            · rw [if_pos h1, if_pos (by omega)]
            · rw [if_neg h1, if_neg (by omega)]
      · subst e2
        congr 5
        refine congrArg (fun z => some (Slot.mk 0 (W.d (.list z)))) (List.map_congr_left fun g hg => ?_)
        rw [List.mem_range] at hg
        rw [List.length_range, if_pos hg]
    · subst e2
      simp [fnV, enOf, mSeq, mRet, mRetV, mAnd, mOr, mIf, mIfS, mT, tNotM, tAndM, tOrM, mCall, mArgs, mCons, mNil, mVar, mC, m1, m2, o1, o2, mDrop, mSet, mSets, mUnp, mTup, mLst, mImm, datas, setsO, bindO, bind_ret, bind_fail, must_t, ofO_some, isB, mChain, Nat.beq, List.replicate, il0, il1, il2, il3, il4, il5, il6, il7, il8, il9, il10, il11, il12, il60, setsE, visE, demE, visO, demO, gTupM, gsCons, gsNil, len_T, len_W, len_L, add_N, sub_N, in_T, le_NN, lt_NN, gt_NN, ge_NN, eq_NN, ne_NN, eq_TT, ne_TT, eq_WW, ne_WW, -List.getD_eq_getElem?_getD, oNot, neg_1, dOf_d, isTup_T, isTup_W, list_T]
      have := tup_N ((List.range l.length).map (movesN w l hs (List.range hs.length)))
      rw [List.map_map] at this
      exact this
end G

set_option Elab.async false
set_option linter.all false
set_option maxRecDepth 100000
namespace G
open PySem PySem.Spec PyProof.Rows L2
/-! S5: ways, stays, houses seen. -/
variable {w : List (List Nat)} {l hs : List Nat} {h g : Nat}
theorem get_lastD {acc : List Nat} (ha : acc ≠ []) : oGet (.d (.list (acc.map dN))) (.d (.int (-1))) = .ret (.d (dN (acc.getLastD 0))) := by
  obtain ⟨n, hn⟩ : ∃ n, acc.length = n + 1 := ⟨acc.length - 1, by have := List.length_pos_iff.mpr ha; omega⟩
  refine get_last hn ?_
  rw [List.getLastD_eq_getLast?, List.getLast?_eq_getElem?, show acc.length - 1 = n by omega, List.getElem?_eq_getElem (by omega)]
  rfl
theorem storyP_row {r : List Nat} (hm : r ∈ storyP w l hs) : ∃ k, k ≤ hs.length ∧ r = stN w l hs k := by
  unfold storyP at hm
  obtain ⟨k, hk, e⟩ := List.mem_map.mp hm
  rw [List.mem_range] at hk
  exact ⟨k, by omega, e.symm⟩
def wayStep (g : Nat) (acc : List Nat) (row : List Nat) : List Nat := if row.getD g 0 = acc.getLastD 0 then acc else acc ++ [row.getD g 0]
def wayN (w : List (List Nat)) (l hs : List Nat) (g : Nat) : List Nat := (storyP w l hs).foldl (wayStep g) [l.getD g 0]
theorem way_ne : ∀ (p : List (List Nat)) (acc : List Nat), acc ≠ [] → p.foldl (wayStep g) acc ≠ []
  | [], _, h => h
  | r :: p, acc, h => way_ne p (wayStep g acc r) (by unfold wayStep; split; exact h; simp)
theorem way_len : ∀ (p : List (List Nat)) (acc : List Nat), (p.foldl (wayStep g) acc).length ≤ acc.length + p.length
  | [], _ => Nat.le_refl _
  | r :: p, acc => by
    have h1 := way_len p (wayStep g acc r)
    have h2 : (wayStep g acc r).length ≤ acc.length + 1 := by unfold wayStep; split <;> simp
    show (p.foldl (wayStep g) (wayStep g acc r)).length ≤ _
    rw [List.length_cons]; omega
theorem itemsX_L {α : Type} (f : α → D) (l : List α) : itemsX true (.d (.list (l.map f))) = .ret (l.map fun x => W.d (f x)) := by
  show T.ret ((l.map f).map W.d) = _
  rw [List.map_map]; rfl
theorem ph_way_of_eq (p : Pl w l) (c : Ca w hs) (hg : g < l.length) : ph_way_of [.d (dW w), .d (dT l), .d (dT hs), .d (dN g)] = .ret (.d (dT (wayN w l hs g))) := by
  have h60 := c.most
  unfold ph_way_of
  refine fnV_rt (seq_nx (drop_eq (x := .d .none) ?_) (seq_nx (drop_eq (x := .d .none) ?_) (seq_nx (drop_eq (x := .d .none) ?_) (seq_nx (en1 := [some ⟨1, .d (dW w)⟩, some ⟨1, .d (dT l)⟩, some ⟨1, .d (dT hs)⟩, some ⟨1, .d (dN g)⟩, some ⟨0, .d (.list [dN (l.getD g 0)])⟩, none]) ?_ ?_))))
  · simp [fnV, enOf, mSeq, mRet, mRetV, mAnd, mOr, mIf, mIfS, mT, tNotM, tAndM, tOrM, mCall, mArgs, mCons, mNil, mVar, mC, m1, m2, o1, o2, mDrop, mSet, mSets, mUnp, mTup, mLst, mImm, datas, setsO, bindO, bind_ret, bind_fail, must_t, ofO_some, isB, mChain, Nat.beq, List.replicate, il0, il1, il2, il3, il4, il5, il6, il7, il8, il9, il10, il11, il12, il60, setsE, visE, demE, visO, demO, gTupM, gsCons, gsNil, len_T, len_W, len_L, add_N, sub_N, in_T, le_NN, lt_NN, gt_NN, ge_NN, eq_NN, ne_NN, eq_TT, ne_TT, eq_WW, ne_WW, -List.getD_eq_getElem?_getD, oNot, neg_1, dOf_d, isTup_T, isTup_W, list_T, np_eq p]
  · simp [fnV, enOf, mSeq, mRet, mRetV, mAnd, mOr, mIf, mIfS, mT, tNotM, tAndM, tOrM, mCall, mArgs, mCons, mNil, mVar, mC, m1, m2, o1, o2, mDrop, mSet, mSets, mUnp, mTup, mLst, mImm, datas, setsO, bindO, bind_ret, bind_fail, must_t, ofO_some, isB, mChain, Nat.beq, List.replicate, il0, il1, il2, il3, il4, il5, il6, il7, il8, il9, il10, il11, il12, il60, setsE, visE, demE, visO, demO, gTupM, gsCons, gsNil, len_T, len_W, len_L, add_N, sub_N, in_T, le_NN, lt_NN, gt_NN, ge_NN, eq_NN, ne_NN, eq_TT, ne_TT, eq_WW, ne_WW, -List.getD_eq_getElem?_getD, oNot, neg_1, dOf_d, isTup_T, isTup_W, list_T, nc_eq c]
  · simp [fnV, enOf, mSeq, mRet, mRetV, mAnd, mOr, mIf, mIfS, mT, tNotM, tAndM, tOrM, mCall, mArgs, mCons, mNil, mVar, mC, m1, m2, o1, o2, mDrop, mSet, mSets, mUnp, mTup, mLst, mImm, datas, setsO, bindO, bind_ret, bind_fail, must_t, ofO_some, isB, mChain, Nat.beq, List.replicate, il0, il1, il2, il3, il4, il5, il6, il7, il8, il9, il10, il11, il12, il60, setsE, visE, demE, visO, demO, gTupM, gsCons, gsNil, len_T, len_W, len_L, add_N, sub_N, in_T, le_NN, lt_NN, gt_NN, ge_NN, eq_NN, ne_NN, eq_TT, ne_TT, eq_WW, ne_WW, -List.getD_eq_getElem?_getD, oNot, neg_1, dOf_d, isTup_T, isTup_W, list_T, ng_eq hg]
  · simp [fnV, enOf, mSeq, mRet, mRetV, mAnd, mOr, mIf, mIfS, mT, tNotM, tAndM, tOrM, mCall, mArgs, mCons, mNil, mVar, mC, m1, m2, o1, o2, mDrop, mSet, mSets, mUnp, mTup, mLst, mImm, datas, setsO, bindO, bind_ret, bind_fail, must_t, ofO_some, isB, mChain, Nat.beq, List.replicate, il0, il1, il2, il3, il4, il5, il6, il7, il8, il9, il10, il11, il12, il60, setsE, visE, demE, visO, demO, gTupM, gsCons, gsNil, len_T, len_W, len_L, add_N, sub_N, in_T, le_NN, lt_NN, gt_NN, ge_NN, eq_NN, ne_NN, eq_TT, ne_TT, eq_WW, ne_WW, -List.getD_eq_getElem?_getD, oNot, neg_1, dOf_d, isTup_T, isTup_W, list_T, get_Tg hg, imm_dN, W.imm, must_le (show 1 ≤ lim by decide)]
  · refine (mFor_inv (storyP w l hs) (fun r => .d (dT r)) (fun r => [(5, .d (dT r))]) (fun p en => ∃ a, en = [some ⟨1, .d (dW w)⟩, some ⟨1, .d (dT l)⟩, some ⟨1, .d (dT hs)⟩, some ⟨1, .d (dN g)⟩, some ⟨0, .d (.list ((p.foldl (wayStep g) [l.getD g 0]).map dN))⟩, a]) ?_ ?_ ?_).elim fun en1 ⟨e1, a, e2⟩ => seq_nx e1 (seq_rt (ret_eq ?_))
    · simp [fnV, enOf, mSeq, mRet, mRetV, mAnd, mOr, mIf, mIfS, mT, tNotM, tAndM, tOrM, mCall, mArgs, mCons, mNil, mVar, mC, m1, m2, o1, o2, mDrop, mSet, mSets, mUnp, mTup, mLst, mImm, datas, setsO, bindO, bind_ret, bind_fail, must_t, ofO_some, isB, mChain, Nat.beq, List.replicate, il0, il1, il2, il3, il4, il5, il6, il7, il8, il9, il10, il11, il12, il60, setsE, visE, demE, visO, demO, gTupM, gsCons, gsNil, len_T, len_W, len_L, add_N, sub_N, in_T, le_NN, lt_NN, gt_NN, ge_NN, eq_NN, ne_NN, eq_TT, ne_TT, eq_WW, ne_WW, -List.getD_eq_getElem?_getD, oNot, neg_1, dOf_d, isTup_T, isTup_W, list_T, story_eq p c, itemsX_L]
    · exact ⟨_, rfl⟩
    · rintro q s x e en ⟨a, rfl⟩
      obtain ⟨k, hk, rfl⟩ := storyP_row (r := x) (by rw [e]; simp)
      have hn := way_ne (g := g) q [l.getD g 0] (by simp)
      have hl := way_len (g := g) q [l.getD g 0]
      have hq : q.length ≤ 61 := by
        have := congrArg List.length e
        rw [storyP_len] at this
        simp at this; omega
      have hl : (q.foldl (wayStep g) [l.getD g 0]).length ≤ 99999 := by rw [List.length_singleton] at hl; omega
      refine ⟨rfl, _, seq_nx (en1 := [some ⟨1, .d (dW w)⟩, some ⟨1, .d (dT l)⟩, some ⟨1, .d (dT hs)⟩, some ⟨1, .d (dN g)⟩, some ⟨0, .d (.list (((q ++ [stN w l hs k]).foldl (wayStep g) [l.getD g 0]).map dN))⟩, some ⟨1, .d (dT (stN w l hs k))⟩]) ?_ rfl, _, rfl⟩
      rw [List.foldl_append]
      show _ = T.ret (Out.nx [_, _, _, _, some ⟨0, .d (.list ((wayStep g (q.foldl (wayStep g) [l.getD g 0]) (stN w l hs k)).map dN))⟩, _])
      generalize q.foldl (wayStep g) [l.getD g 0] = acc at hn hl ⊢
      have ht : mT (m2 (oDD pAny fNe) (m2 oGet (mVar 5) (mVar 3)) (m2 oGet (mVar 4) (m1 oNeg (mC (.int (1)))))) [some ⟨1, .d (dW w)⟩, some ⟨1, .d (dT l)⟩, some ⟨1, .d (dT hs)⟩, some ⟨1, .d (dN g)⟩, some ⟨0, .d (.list (acc.map dN))⟩, some ⟨1, .d (dT (stN w l hs k))⟩] = .ret (!decide ((stN w l hs k).getD g 0 = acc.getLastD 0)) := by
        simp [fnV, enOf, mSeq, mRet, mRetV, mAnd, mOr, mIf, mIfS, mT, tNotM, tAndM, tOrM, mCall, mArgs, mCons, mNil, mVar, mC, m1, m2, o1, o2, mDrop, mSet, mSets, mUnp, mTup, mLst, mImm, datas, setsO, bindO, bind_ret, bind_fail, must_t, ofO_some, isB, mChain, Nat.beq, List.replicate, il0, il1, il2, il3, il4, il5, il6, il7, il8, il9, il10, il11, il12, il60, setsE, visE, demE, visO, demO, gTupM, gsCons, gsNil, len_T, len_W, len_L, add_N, sub_N, in_T, le_NN, lt_NN, gt_NN, ge_NN, eq_NN, ne_NN, eq_TT, ne_TT, eq_WW, ne_WW, -List.getD_eq_getElem?_getD, oNot, neg_1, dOf_d, isTup_T, isTup_W, list_T, get_g k hg, get_lastD hn]
      unfold wayStep
      by_cases hc : (stN w l hs k).getD g 0 = acc.getLastD 0
      · rw [decide_eq_true hc] at ht
        rw [if_pos hc]
        exact ifS_f ht rfl
      · rw [decide_eq_false hc] at ht
        rw [if_neg hc]
        refine ifS_t ht (seq_nx ?_ rfl)
        unfold mApp
        simp [fnV, enOf, mSeq, mRet, mRetV, mAnd, mOr, mIf, mIfS, mT, tNotM, tAndM, tOrM, mCall, mArgs, mCons, mNil, mVar, mC, m1, m2, o1, o2, mDrop, mSet, mSets, mUnp, mTup, mLst, mImm, datas, setsO, bindO, bind_ret, bind_fail, must_t, ofO_some, isB, mChain, Nat.beq, List.replicate, il0, il1, il2, il3, il4, il5, il6, il7, il8, il9, il10, il11, il12, il60, setsE, visE, demE, visO, demO, gTupM, gsCons, gsNil, len_T, len_W, len_L, add_N, sub_N, in_T, le_NN, lt_NN, gt_NN, ge_NN, eq_NN, ne_NN, eq_TT, ne_TT, eq_WW, ne_WW, -List.getD_eq_getElem?_getD, oNot, neg_1, dOf_d, isTup_T, isTup_W, list_T, get_g k hg, imm_dN, W.imm, must_le hl]
    · subst e2
      simp [fnV, enOf, mSeq, mRet, mRetV, mAnd, mOr, mIf, mIfS, mT, tNotM, tAndM, tOrM, mCall, mArgs, mCons, mNil, mVar, mC, m1, m2, o1, o2, mDrop, mSet, mSets, mUnp, mTup, mLst, mImm, datas, setsO, bindO, bind_ret, bind_fail, must_t, ofO_some, isB, mChain, Nat.beq, List.replicate, il0, il1, il2, il3, il4, il5, il6, il7, il8, il9, il10, il11, il12, il60, setsE, visE, demE, visO, demO, gTupM, gsCons, gsNil, len_T, len_W, len_L, add_N, sub_N, in_T, le_NN, lt_NN, gt_NN, ge_NN, eq_NN, ne_NN, eq_TT, ne_TT, eq_WW, ne_WW, -List.getD_eq_getElem?_getD, oNot, neg_1, dOf_d, isTup_T, isTup_W, list_T, tup_N]
      rfl
theorem ph_seen_houses_eq (p : Pl w l) (c : Ca w hs) (hg : g < l.length) : ph_seen_houses [.d (dW w), .d (dT l), .d (dT hs), .d (dN g)] = .ret (.d (dT (sortN ((storyP w l hs).map fun r => r.getD g 0)))) := by
  have h60 := c.most
  unfold ph_seen_houses
  refine fnV_rt (seq_nx (drop_eq (x := .d .none) ?_) (seq_nx (drop_eq (x := .d .none) ?_) (seq_nx (drop_eq (x := .d .none) ?_) (seq_rt (ret_eq ?_)))))
  · simp [fnV, enOf, mSeq, mRet, mRetV, mAnd, mOr, mIf, mIfS, mT, tNotM, tAndM, tOrM, mCall, mArgs, mCons, mNil, mVar, mC, m1, m2, o1, o2, mDrop, mSet, mSets, mUnp, mTup, mLst, mImm, datas, setsO, bindO, bind_ret, bind_fail, must_t, ofO_some, isB, mChain, Nat.beq, List.replicate, il0, il1, il2, il3, il4, il5, il6, il7, il8, il9, il10, il11, il12, il60, setsE, visE, demE, visO, demO, gTupM, gsCons, gsNil, len_T, len_W, len_L, add_N, sub_N, in_T, le_NN, lt_NN, gt_NN, ge_NN, eq_NN, ne_NN, eq_TT, ne_TT, eq_WW, ne_WW, -List.getD_eq_getElem?_getD, oNot, neg_1, dOf_d, isTup_T, isTup_W, list_T, np_eq p]
  · simp [fnV, enOf, mSeq, mRet, mRetV, mAnd, mOr, mIf, mIfS, mT, tNotM, tAndM, tOrM, mCall, mArgs, mCons, mNil, mVar, mC, m1, m2, o1, o2, mDrop, mSet, mSets, mUnp, mTup, mLst, mImm, datas, setsO, bindO, bind_ret, bind_fail, must_t, ofO_some, isB, mChain, Nat.beq, List.replicate, il0, il1, il2, il3, il4, il5, il6, il7, il8, il9, il10, il11, il12, il60, setsE, visE, demE, visO, demO, gTupM, gsCons, gsNil, len_T, len_W, len_L, add_N, sub_N, in_T, le_NN, lt_NN, gt_NN, ge_NN, eq_NN, ne_NN, eq_TT, ne_TT, eq_WW, ne_WW, -List.getD_eq_getElem?_getD, oNot, neg_1, dOf_d, isTup_T, isTup_W, list_T, nc_eq c]
  · simp [fnV, enOf, mSeq, mRet, mRetV, mAnd, mOr, mIf, mIfS, mT, tNotM, tAndM, tOrM, mCall, mArgs, mCons, mNil, mVar, mC, m1, m2, o1, o2, mDrop, mSet, mSets, mUnp, mTup, mLst, mImm, datas, setsO, bindO, bind_ret, bind_fail, must_t, ofO_some, isB, mChain, Nat.beq, List.replicate, il0, il1, il2, il3, il4, il5, il6, il7, il8, il9, il10, il11, il12, il60, setsE, visE, demE, visO, demO, gTupM, gsCons, gsNil, len_T, len_W, len_L, add_N, sub_N, in_T, le_NN, lt_NN, gt_NN, ge_NN, eq_NN, ne_NN, eq_TT, ne_TT, eq_WW, ne_WW, -List.getD_eq_getElem?_getD, oNot, neg_1, dOf_d, isTup_T, isTup_W, list_T, ng_eq hg]
  · have hl : mLC (fun en => ((mCall (fun xs => T.must (Nat.beq xs.length 3) (ph_story_in xs)) (mCons (mVar 0) (mCons (mVar 1) (mCons (mVar 2) mNil)))) en).bind (itemsX true)) (fun x => .ret [(4, x)]) [4] (fun _ => .ret true) (mImm (m2 oGet (mVar 4) (mVar 3))) (enOf 5 [.d (dW w), .d (dT l), .d (dT hs), .d (dN g)]) = .ret (.d (.list (((storyP w l hs).map fun r => r.getD g 0).map dN))) := by
      rw [List.map_map]
      refine mLC_all (storyP w l hs) (fun r => .d (dT r)) (fun r => dN (r.getD g 0)) ?_ (by rw [storyP_len]; omega) ?_
      · simp [fnV, enOf, mSeq, mRet, mRetV, mAnd, mOr, mIf, mIfS, mT, tNotM, tAndM, tOrM, mCall, mArgs, mCons, mNil, mVar, mC, m1, m2, o1, o2, mDrop, mSet, mSets, mUnp, mTup, mLst, mImm, datas, setsO, bindO, bind_ret, bind_fail, must_t, ofO_some, isB, mChain, Nat.beq, List.replicate, il0, il1, il2, il3, il4, il5, il6, il7, il8, il9, il10, il11, il12, il60, setsE, visE, demE, visO, demO, gTupM, gsCons, gsNil, len_T, len_W, len_L, add_N, sub_N, in_T, le_NN, lt_NN, gt_NN, ge_NN, eq_NN, ne_NN, eq_TT, ne_TT, eq_WW, ne_WW, -List.getD_eq_getElem?_getD, oNot, neg_1, dOf_d, isTup_T, isTup_W, list_T, story_eq p c, itemsX_L]
      · intro r hr
        obtain ⟨k, hk, rfl⟩ := storyP_row hr
        simp [fnV, enOf, mSeq, mRet, mRetV, mAnd, mOr, mIf, mIfS, mT, tNotM, tAndM, tOrM, mCall, mArgs, mCons, mNil, mVar, mC, m1, m2, o1, o2, mDrop, mSet, mSets, mUnp, mTup, mLst, mImm, datas, setsO, bindO, bind_ret, bind_fail, must_t, ofO_some, isB, mChain, Nat.beq, List.replicate, il0, il1, il2, il3, il4, il5, il6, il7, il8, il9, il10, il11, il12, il60, setsE, visE, demE, visO, demO, gTupM, gsCons, gsNil, len_T, len_W, len_L, add_N, sub_N, in_T, le_NN, lt_NN, gt_NN, ge_NN, eq_NN, ne_NN, eq_TT, ne_TT, eq_WW, ne_WW, -List.getD_eq_getElem?_getD, oNot, neg_1, dOf_d, isTup_T, isTup_W, list_T, get_g k hg, imm_dN, W.imm]
    refine (args1 (x := .d (.list ((sortN ((storyP w l hs).map fun r => r.getD g 0)).map dN))) ?_).trans (tup_N _)
    unfold m1
    rw [hl]
    exact sortSet_N (.inr rfl) (by rw [List.length_map, storyP_len]; omega)
def stayStep (w : List (List Nat)) (g : Nat) (s : Nat × Nat × List Nat) (h : Nat) : Nat × Nat × List Nat :=
  (max s.1 (if (callN w s.2.2 h).getD g 0 = s.2.2.getD g 0 then s.2.1 + 1 else 0), (if (callN w s.2.2 h).getD g 0 = s.2.2.getD g 0 then s.2.1 + 1 else 0), callN w s.2.2 h)
theorem stay_run (p : List Nat) : ∀ (s : Nat × Nat × List Nat), (p.foldl (stayStep w g) s).2.2 = runN w s.2.2 p := by
  induction p with
  | nil => intro s; rfl
  | cons x p ih => intro s; exact ih (stayStep w g s x)
theorem max_NN (a b : Nat) : oMax2 (.d (dN a)) (.d (dN b)) = .ret (.d (dN (max a b))) := by
  show T.ret (W.d (.int (if (b : Int) > (a : Int) then (b : Int) else a))) = _
  congr 2
  show PyData.int _ = PyData.int _
  congr 1
  split <;> omega
theorem ph_longest_stay_eq (p : Pl w l) (c : Ca w hs) (hg : g < l.length) : ph_longest_stay [.d (dW w), .d (dT l), .d (dT hs), .d (dN g)] = .ret (.d (dN (hs.foldl (stayStep w g) (0, 0, l)).1)) := by
  have h60 := c.most
  have h6 := p.six
  unfold ph_longest_stay
  refine fnV_rt (seq_nx (drop_eq (x := .d .none) ?_) (seq_nx (drop_eq (x := .d .none) ?_) (seq_nx (drop_eq (x := .d .none) ?_) (seq_nx (en1 := [some ⟨1, .d (dW w)⟩, some ⟨1, .d (dT l)⟩, some ⟨1, .d (dT hs)⟩, some ⟨1, .d (dN g)⟩, some ⟨0, .d (dN 0)⟩, some ⟨0, .d (dN 0)⟩, some ⟨0, .d (dT l)⟩, none, none]) ?_ ?_))))
  · simp [fnV, enOf, mSeq, mRet, mRetV, mAnd, mOr, mIf, mIfS, mT, tNotM, tAndM, tOrM, mCall, mArgs, mCons, mNil, mVar, mC, m1, m2, o1, o2, mDrop, mSet, mSets, mUnp, mTup, mLst, mImm, datas, setsO, bindO, bind_ret, bind_fail, must_t, ofO_some, isB, mChain, Nat.beq, List.replicate, il0, il1, il2, il3, il4, il5, il6, il7, il8, il9, il10, il11, il12, il60, setsE, visE, demE, visO, demO, gTupM, gsCons, gsNil, len_T, len_W, len_L, add_N, sub_N, in_T, le_NN, lt_NN, gt_NN, ge_NN, eq_NN, ne_NN, eq_TT, ne_TT, eq_WW, ne_WW, -List.getD_eq_getElem?_getD, oNot, neg_1, dOf_d, isTup_T, isTup_W, list_T, np_eq p]
  · simp [fnV, enOf, mSeq, mRet, mRetV, mAnd, mOr, mIf, mIfS, mT, tNotM, tAndM, tOrM, mCall, mArgs, mCons, mNil, mVar, mC, m1, m2, o1, o2, mDrop, mSet, mSets, mUnp, mTup, mLst, mImm, datas, setsO, bindO, bind_ret, bind_fail, must_t, ofO_some, isB, mChain, Nat.beq, List.replicate, il0, il1, il2, il3, il4, il5, il6, il7, il8, il9, il10, il11, il12, il60, setsE, visE, demE, visO, demO, gTupM, gsCons, gsNil, len_T, len_W, len_L, add_N, sub_N, in_T, le_NN, lt_NN, gt_NN, ge_NN, eq_NN, ne_NN, eq_TT, ne_TT, eq_WW, ne_WW, -List.getD_eq_getElem?_getD, oNot, neg_1, dOf_d, isTup_T, isTup_W, list_T, nc_eq c]
  · simp [fnV, enOf, mSeq, mRet, mRetV, mAnd, mOr, mIf, mIfS, mT, tNotM, tAndM, tOrM, mCall, mArgs, mCons, mNil, mVar, mC, m1, m2, o1, o2, mDrop, mSet, mSets, mUnp, mTup, mLst, mImm, datas, setsO, bindO, bind_ret, bind_fail, must_t, ofO_some, isB, mChain, Nat.beq, List.replicate, il0, il1, il2, il3, il4, il5, il6, il7, il8, il9, il10, il11, il12, il60, setsE, visE, demE, visO, demO, gTupM, gsCons, gsNil, len_T, len_W, len_L, add_N, sub_N, in_T, le_NN, lt_NN, gt_NN, ge_NN, eq_NN, ne_NN, eq_TT, ne_TT, eq_WW, ne_WW, -List.getD_eq_getElem?_getD, oNot, neg_1, dOf_d, isTup_T, isTup_W, list_T, ng_eq hg]
  · simp [fnV, enOf, mSeq, mRet, mRetV, mAnd, mOr, mIf, mIfS, mT, tNotM, tAndM, tOrM, mCall, mArgs, mCons, mNil, mVar, mC, m1, m2, o1, o2, mDrop, mSet, mSets, mUnp, mTup, mLst, mImm, datas, setsO, bindO, bind_ret, bind_fail, must_t, ofO_some, isB, mChain, Nat.beq, List.replicate, il0, il1, il2, il3, il4, il5, il6, il7, il8, il9, il10, il11, il12, il60, setsE, visE, demE, visO, demO, gTupM, gsCons, gsNil, len_T, len_W, len_L, add_N, sub_N, in_T, le_NN, lt_NN, gt_NN, ge_NN, eq_NN, ne_NN, eq_TT, ne_TT, eq_WW, ne_WW, -List.getD_eq_getElem?_getD, oNot, neg_1, dOf_d, isTup_T, isTup_W, list_T, imm_dT, W.imm]
  · refine (mFor_inv hs (fun n => .d (dN n)) (fun n => [(7, .d (dN n))]) (fun p en => ∃ a b, en = [some ⟨1, .d (dW w)⟩, some ⟨1, .d (dT l)⟩, some ⟨1, .d (dT hs)⟩, some ⟨1, .d (dN g)⟩, some ⟨0, .d (dN (p.foldl (stayStep w g) (0, 0, l)).1)⟩, some ⟨0, .d (dN (p.foldl (stayStep w g) (0, 0, l)).2.1)⟩, some ⟨0, .d (dT (p.foldl (stayStep w g) (0, 0, l)).2.2)⟩, a, b]) ?_ ?_ ?_).elim fun en1 ⟨e1, a, b, e2⟩ => seq_nx e1 ?_
    · simp [fnV, enOf, mSeq, mRet, mRetV, mAnd, mOr, mIf, mIfS, mT, tNotM, tAndM, tOrM, mCall, mArgs, mCons, mNil, mVar, mC, m1, m2, o1, o2, mDrop, mSet, mSets, mUnp, mTup, mLst, mImm, datas, setsO, bindO, bind_ret, bind_fail, must_t, ofO_some, isB, mChain, Nat.beq, List.replicate, il0, il1, il2, il3, il4, il5, il6, il7, il8, il9, il10, il11, il12, il60, setsE, visE, demE, visO, demO, gTupM, gsCons, gsNil, len_T, len_W, len_L, add_N, sub_N, in_T, le_NN, lt_NN, gt_NN, ge_NN, eq_NN, ne_NN, eq_TT, ne_TT, eq_WW, ne_WW, -List.getD_eq_getElem?_getD, oNot, neg_1, dOf_d, isTup_T, isTup_W, list_T, items_T]
    · exact ⟨_, _, rfl⟩
    · rintro q s x e en ⟨a, b, rfl⟩
      have hx := c.row x (by rw [e]; simp)
      have hr := stay_run (w := w) (g := g) q (0, 0, l)
      have hl : (q.foldl (stayStep w g) (0, 0, l)).2.2.length = l.length := by rw [hr]; exact runN_len w q l
      rw [List.foldl_append, List.foldl_cons, List.foldl_nil]
      generalize q.foldl (stayStep w g) (0, 0, l) = s3 at hl ⊢
      obtain ⟨best, many, here⟩ := s3
      have hl : here.length = l.length := hl
      refine ⟨rfl, _, seq_nx (set_eq (x := .d (dT (callN w here x))) ?_) (seq_nx (set_eq (x := .d (dN (if (callN w here x).getD g 0 = here.getD g 0 then many + 1 else 0))) ?_) (seq_nx (en1 := [some ⟨1, .d (dW w)⟩, some ⟨1, .d (dT l)⟩, some ⟨1, .d (dT hs)⟩, some ⟨1, .d (dN g)⟩, some ⟨0, .d (dN (stayStep w g (best, many, here) x).1)⟩, some ⟨0, .d (dN (stayStep w g (best, many, here) x).2.1)⟩, some ⟨0, .d (dT (stayStep w g (best, many, here) x).2.2)⟩, some ⟨1, .d (dN x)⟩, some ⟨0, .d (dT (callN w here x))⟩]) ?_ rfl)), _, _, rfl⟩
      · simp [fnV, enOf, mSeq, mRet, mRetV, mAnd, mOr, mIf, mIfS, mT, tNotM, tAndM, tOrM, mCall, mArgs, mCons, mNil, mVar, mC, m1, m2, o1, o2, mDrop, mSet, mSets, mUnp, mTup, mLst, mImm, datas, setsO, bindO, bind_ret, bind_fail, must_t, ofO_some, isB, mChain, Nat.beq, List.replicate, il0, il1, il2, il3, il4, il5, il6, il7, il8, il9, il10, il11, il12, il60, setsE, visE, demE, visO, demO, gTupM, gsCons, gsNil, len_T, len_W, len_L, add_N, sub_N, in_T, le_NN, lt_NN, gt_NN, ge_NN, eq_NN, ne_NN, eq_TT, ne_TT, eq_WW, ne_WW, -List.getD_eq_getElem?_getD, oNot, neg_1, dOf_d, isTup_T, isTup_W, list_T, ph_call_in_eq hx (show here.length ≤ 1000 by omega)]
      · have h1 : g < (callN w here x).length := by rw [callN_len]; omega
        have ht : ∀ en : En, en = [some ⟨1, .d (dW w)⟩, some ⟨1, .d (dT l)⟩, some ⟨1, .d (dT hs)⟩, some ⟨1, .d (dN g)⟩, some ⟨0, .d (dN best)⟩, some ⟨0, .d (dN many)⟩, some ⟨0, .d (dT here)⟩, some ⟨1, .d (dN x)⟩, some ⟨0, .d (dT (callN w here x))⟩] → mT (m2 (oDD pAny PyData.eqv) (m2 oGet (mVar 8) (mVar 3)) (m2 oGet (mVar 6) (mVar 3))) en = .ret (decide ((callN w here x).getD g 0 = here.getD g 0)) := by
          rintro _ rfl
          simp [fnV, enOf, mSeq, mRet, mRetV, mAnd, mOr, mIf, mIfS, mT, tNotM, tAndM, tOrM, mCall, mArgs, mCons, mNil, mVar, mC, m1, m2, o1, o2, mDrop, mSet, mSets, mUnp, mTup, mLst, mImm, datas, setsO, bindO, bind_ret, bind_fail, must_t, ofO_some, isB, mChain, Nat.beq, List.replicate, il0, il1, il2, il3, il4, il5, il6, il7, il8, il9, il10, il11, il12, il60, setsE, visE, demE, visO, demO, gTupM, gsCons, gsNil, len_T, len_W, len_L, add_N, sub_N, in_T, le_NN, lt_NN, gt_NN, ge_NN, eq_NN, ne_NN, eq_TT, ne_TT, eq_WW, ne_WW, -List.getD_eq_getElem?_getD, oNot, neg_1, dOf_d, isTup_T, isTup_W, list_T, get_Tg h1, get_Tg (show g < here.length by omega)]
        by_cases hc : (callN w here x).getD g 0 = here.getD g 0
        · rw [if_pos hc]
          refine mIf_t ((ht _ rfl).trans (by rw [decide_eq_true hc])) ?_
          simp [fnV, enOf, mSeq, mRet, mRetV, mAnd, mOr, mIf, mIfS, mT, tNotM, tAndM, tOrM, mCall, mArgs, mCons, mNil, mVar, mC, m1, m2, o1, o2, mDrop, mSet, mSets, mUnp, mTup, mLst, mImm, datas, setsO, bindO, bind_ret, bind_fail, must_t, ofO_some, isB, mChain, Nat.beq, List.replicate, il0, il1, il2, il3, il4, il5, il6, il7, il8, il9, il10, il11, il12, il60, setsE, visE, demE, visO, demO, gTupM, gsCons, gsNil, len_T, len_W, len_L, add_N, sub_N, in_T, le_NN, lt_NN, gt_NN, ge_NN, eq_NN, ne_NN, eq_TT, ne_TT, eq_WW, ne_WW, -List.getD_eq_getElem?_getD, oNot, neg_1, dOf_d, isTup_T, isTup_W, list_T]
        · rw [if_neg hc]
          refine mIf_f ((ht _ rfl).trans (by rw [decide_eq_false hc])) ?_
          simp [fnV, enOf, mSeq, mRet, mRetV, mAnd, mOr, mIf, mIfS, mT, tNotM, tAndM, tOrM, mCall, mArgs, mCons, mNil, mVar, mC, m1, m2, o1, o2, mDrop, mSet, mSets, mUnp, mTup, mLst, mImm, datas, setsO, bindO, bind_ret, bind_fail, must_t, ofO_some, isB, mChain, Nat.beq, List.replicate, il0, il1, il2, il3, il4, il5, il6, il7, il8, il9, il10, il11, il12, il60, setsE, visE, demE, visO, demO, gTupM, gsCons, gsNil, len_T, len_W, len_L, add_N, sub_N, in_T, le_NN, lt_NN, gt_NN, ge_NN, eq_NN, ne_NN, eq_TT, ne_TT, eq_WW, ne_WW, -List.getD_eq_getElem?_getD, oNot, neg_1, dOf_d, isTup_T, isTup_W, list_T]
      · simp [fnV, enOf, mSeq, mRet, mRetV, mAnd, mOr, mIf, mIfS, mT, tNotM, tAndM, tOrM, mCall, mArgs, mCons, mNil, mVar, mC, m1, m2, o1, o2, mDrop, mSet, mSets, mUnp, mTup, mLst, mImm, datas, setsO, bindO, bind_ret, bind_fail, must_t, ofO_some, isB, mChain, Nat.beq, List.replicate, il0, il1, il2, il3, il4, il5, il6, il7, il8, il9, il10, il11, il12, il60, setsE, visE, demE, visO, demO, gTupM, gsCons, gsNil, len_T, len_W, len_L, add_N, sub_N, in_T, le_NN, lt_NN, gt_NN, ge_NN, eq_NN, ne_NN, eq_TT, ne_TT, eq_WW, ne_WW, -List.getD_eq_getElem?_getD, oNot, neg_1, dOf_d, isTup_T, isTup_W, list_T, max_NN, imm_dT, W.imm, stayStep]
    · subst e2
      refine seq_rt ?_
      simp [fnV, enOf, mSeq, mRet, mRetV, mAnd, mOr, mIf, mIfS, mT, tNotM, tAndM, tOrM, mCall, mArgs, mCons, mNil, mVar, mC, m1, m2, o1, o2, mDrop, mSet, mSets, mUnp, mTup, mLst, mImm, datas, setsO, bindO, bind_ret, bind_fail, must_t, ofO_some, isB, mChain, Nat.beq, List.replicate, il0, il1, il2, il3, il4, il5, il6, il7, il8, il9, il10, il11, il12, il60, setsE, visE, demE, visO, demO, gTupM, gsCons, gsNil, len_T, len_W, len_L, add_N, sub_N, in_T, le_NN, lt_NN, gt_NN, ge_NN, eq_NN, ne_NN, eq_TT, ne_TT, eq_WW, ne_WW, -List.getD_eq_getElem?_getD, oNot, neg_1, dOf_d, isTup_T, isTup_W, list_T]
/-- the houses that every guest was in -/
def seenN (w : List (List Nat)) (l hs : List Nat) : List Nat := (List.range w.length).filter fun h => (List.range l.length).all fun g => (storyP w l hs).any fun r => decide (r.getD g 0 = h)
end G

set_option Elab.async false
set_option linter.all false
set_option maxRecDepth 100000
set_option exponentiation.threshold 5000
namespace G
open PySem PySem.Spec PyProof.Rows L2
/-! S6: houses that all have seen; ratios. -/
variable {w : List (List Nat)} {l hs : List Nat} {h g : Nat}
theorem ph_seen_by_all_eq (p : Pl w l) (c : Ca w hs) : ph_seen_by_all [.d (dW w), .d (dT l), .d (dT hs)] = .ret (.d (dT (seenN w l hs))) := by
  have h60 := c.most
  have h6 := p.six
  have w6 := p.web.most
  unfold ph_seen_by_all
  refine fnV_rt (seq_nx (drop_eq (x := .d .none) ?_) (seq_nx (drop_eq (x := .d .none) ?_) (seq_nx (en1 := [some ⟨1, .d (dW w)⟩, some ⟨1, .d (dT l)⟩, some ⟨1, .d (dT hs)⟩, some ⟨0, .d (.list ((storyP w l hs).map dT))⟩, some ⟨0, .d (.list [])⟩, none, none, none]) ?_ ?_)))
  · simp [fnV, enOf, mSeq, mRet, mRetV, mAnd, mOr, mIf, mIfS, mT, tNotM, tAndM, tOrM, mCall, mArgs, mCons, mNil, mVar, mC, m1, m2, o1, o2, mDrop, mSet, mSets, mUnp, mTup, mLst, mImm, datas, setsO, bindO, bind_ret, bind_fail, must_t, ofO_some, isB, mChain, Nat.beq, List.replicate, il0, il1, il2, il3, il4, il5, il6, il7, il8, il9, il10, il11, il12, il60, setsE, visE, demE, visO, demO, gTupM, gsCons, gsNil, len_T, len_W, len_L, add_N, sub_N, in_T, le_NN, lt_NN, gt_NN, ge_NN, eq_NN, ne_NN, eq_TT, ne_TT, eq_WW, ne_WW, -List.getD_eq_getElem?_getD, oNot, neg_1, dOf_d, isTup_T, isTup_W, list_T, np_eq p]
  · simp [fnV, enOf, mSeq, mRet, mRetV, mAnd, mOr, mIf, mIfS, mT, tNotM, tAndM, tOrM, mCall, mArgs, mCons, mNil, mVar, mC, m1, m2, o1, o2, mDrop, mSet, mSets, mUnp, mTup, mLst, mImm, datas, setsO, bindO, bind_ret, bind_fail, must_t, ofO_some, isB, mChain, Nat.beq, List.replicate, il0, il1, il2, il3, il4, il5, il6, il7, il8, il9, il10, il11, il12, il60, setsE, visE, demE, visO, demO, gTupM, gsCons, gsNil, len_T, len_W, len_L, add_N, sub_N, in_T, le_NN, lt_NN, gt_NN, ge_NN, eq_NN, ne_NN, eq_TT, ne_TT, eq_WW, ne_WW, -List.getD_eq_getElem?_getD, oNot, neg_1, dOf_d, isTup_T, isTup_W, list_T, nc_eq c]
  · simp [fnV, enOf, mSeq, mRet, mRetV, mAnd, mOr, mIf, mIfS, mT, tNotM, tAndM, tOrM, mCall, mArgs, mCons, mNil, mVar, mC, m1, m2, o1, o2, mDrop, mSet, mSets, mUnp, mTup, mLst, mImm, datas, setsO, bindO, bind_ret, bind_fail, must_t, ofO_some, isB, mChain, Nat.beq, List.replicate, il0, il1, il2, il3, il4, il5, il6, il7, il8, il9, il10, il11, il12, il60, setsE, visE, demE, visO, demO, gTupM, gsCons, gsNil, len_T, len_W, len_L, add_N, sub_N, in_T, le_NN, lt_NN, gt_NN, ge_NN, eq_NN, ne_NN, eq_TT, ne_TT, eq_WW, ne_WW, -List.getD_eq_getElem?_getD, oNot, neg_1, dOf_d, isTup_T, isTup_W, list_T, story_eq p c, must_le (show 0 ≤ lim by decide), must_le (show 2 ≤ lim by decide)]
  · refine (mFor0_inv (List.range w.length) (fun n => .d (dN n)) (fun n => [(5, .d (dN n))]) (fun p en => ∃ a, en = [some ⟨1, .d (dW w)⟩, some ⟨1, .d (dT l)⟩, some ⟨1, .d (dT hs)⟩, some ⟨0, .d (.list ((storyP w l hs).map dT))⟩, some ⟨0, .d (.list ((p.filter fun h => (List.range l.length).all fun g => (storyP w l hs).any fun r => decide (r.getD g 0 = h)).map dN))⟩, a, none, none]) ?_ ?_ ?_).elim fun en1 ⟨e1, a, e2⟩ => seq_nx e1 (seq_rt (ret_eq ?_))
    · simp [fnV, enOf, mSeq, mRet, mRetV, mAnd, mOr, mIf, mIfS, mT, tNotM, tAndM, tOrM, mCall, mArgs, mCons, mNil, mVar, mC, m1, m2, o1, o2, mDrop, mSet, mSets, mUnp, mTup, mLst, mImm, datas, setsO, bindO, bind_ret, bind_fail, must_t, ofO_some, isB, mChain, Nat.beq, List.replicate, il0, il1, il2, il3, il4, il5, il6, il7, il8, il9, il10, il11, il12, il60, setsE, visE, demE, visO, demO, gTupM, gsCons, gsNil, len_T, len_W, len_L, add_N, sub_N, in_T, le_NN, lt_NN, gt_NN, ge_NN, eq_NN, ne_NN, eq_TT, ne_TT, eq_WW, ne_WW, -List.getD_eq_getElem?_getD, oNot, neg_1, dOf_d, isTup_T, isTup_W, list_T, rng_N (show w.length ≤ 100000 by omega)]
    · exact ⟨_, rfl⟩
    · rintro q s x e en ⟨a, rfl⟩
      have hx := range_lt e
      have hp := range_len e
      have hf := filt_len (fun h => (List.range l.length).all fun g => (storyP w l hs).any fun r => decide (r.getD g 0 = h)) q
      refine ⟨rfl, _, seq_nx (en1 := [some ⟨1, .d (dW w)⟩, some ⟨1, .d (dT l)⟩, some ⟨1, .d (dT hs)⟩, some ⟨0, .d (.list ((storyP w l hs).map dT))⟩, some ⟨0, .d (.list (((q ++ [x]).filter fun h => (List.range l.length).all fun g => (storyP w l hs).any fun r => decide (r.getD g 0 = h)).map dN))⟩, some ⟨1, .d (dN x)⟩, none, none]) ?_ rfl, _, rfl⟩
      rw [filt_add]
      generalize hfe : q.filter (fun h => (List.range l.length).all fun g => (storyP w l hs).any fun r => decide (r.getD g 0 = h)) = acc at hf ⊢
      have ht : mT (mArgs (o1 oAll) (mCons (mLC (fun en => ((mCons (mArgs (o1 oLenX) (mCons (mVar 1) mNil)) mNil) en).bind rng1) (fun x => .ret [(7, x)]) [7] (fun _ => .ret true) (mArgs (o1 oAny) (mCons (mLC (fun en => ((mVar 3) en).bind itemsOf) (fun x => .ret [(6, x)]) [6] (fun _ => .ret true) (m2 (oDD pAny PyData.eqv) (m2 oGet (mVar 6) (mVar 7)) (mVar 5))) mNil))) mNil)) [some ⟨1, .d (dW w)⟩, some ⟨1, .d (dT l)⟩, some ⟨1, .d (dT hs)⟩, some ⟨0, .d (.list ((storyP w l hs).map dT))⟩, some ⟨0, .d (.list (acc.map dN))⟩, some ⟨1, .d (dN x)⟩, none, none] = .ret ((List.range l.length).all fun g => (storyP w l hs).any fun r => decide (r.getD g 0 = x)) := by
        refine mT_b ((args1 (mLC_all (List.range l.length) (fun n => .d (dN n)) (fun g => .bool ((storyP w l hs).any fun r => decide (r.getD g 0 = x))) ?_ (by rw [List.length_range]; omega) ?_)).trans (all_map _ _))
        · simp [fnV, enOf, mSeq, mRet, mRetV, mAnd, mOr, mIf, mIfS, mT, tNotM, tAndM, tOrM, mCall, mArgs, mCons, mNil, mVar, mC, m1, m2, o1, o2, mDrop, mSet, mSets, mUnp, mTup, mLst, mImm, datas, setsO, bindO, bind_ret, bind_fail, must_t, ofO_some, isB, mChain, Nat.beq, List.replicate, il0, il1, il2, il3, il4, il5, il6, il7, il8, il9, il10, il11, il12, il60, setsE, visE, demE, visO, demO, gTupM, gsCons, gsNil, len_T, len_W, len_L, add_N, sub_N, in_T, le_NN, lt_NN, gt_NN, ge_NN, eq_NN, ne_NN, eq_TT, ne_TT, eq_WW, ne_WW, -List.getD_eq_getElem?_getD, oNot, neg_1, dOf_d, isTup_T, isTup_W, list_T, rng_N (show l.length ≤ 100000 by omega)]
        · intro g hg
          rw [List.mem_range] at hg
          refine (args1 (mLC_all (storyP w l hs) (fun r => .d (dT r)) (fun r => .bool (decide (r.getD g 0 = x))) ?_ (by rw [storyP_len]; omega) ?_)).trans (any_map _ _)
          · simp [fnV, enOf, mSeq, mRet, mRetV, mAnd, mOr, mIf, mIfS, mT, tNotM, tAndM, tOrM, mCall, mArgs, mCons, mNil, mVar, mC, m1, m2, o1, o2, mDrop, mSet, mSets, mUnp, mTup, mLst, mImm, datas, setsO, bindO, bind_ret, bind_fail, must_t, ofO_some, isB, mChain, Nat.beq, List.replicate, il0, il1, il2, il3, il4, il5, il6, il7, il8, il9, il10, il11, il12, il60, setsE, visE, demE, visO, demO, gTupM, gsCons, gsNil, len_T, len_W, len_L, add_N, sub_N, in_T, le_NN, lt_NN, gt_NN, ge_NN, eq_NN, ne_NN, eq_TT, ne_TT, eq_WW, ne_WW, -List.getD_eq_getElem?_getD, oNot, neg_1, dOf_d, isTup_T, isTup_W, list_T, itemsOf]
          · intro r hr
            obtain ⟨k, hk, rfl⟩ := storyP_row hr
            simp [fnV, enOf, mSeq, mRet, mRetV, mAnd, mOr, mIf, mIfS, mT, tNotM, tAndM, tOrM, mCall, mArgs, mCons, mNil, mVar, mC, m1, m2, o1, o2, mDrop, mSet, mSets, mUnp, mTup, mLst, mImm, datas, setsO, bindO, bind_ret, bind_fail, must_t, ofO_some, isB, mChain, Nat.beq, List.replicate, il0, il1, il2, il3, il4, il5, il6, il7, il8, il9, il10, il11, il12, il60, setsE, visE, demE, visO, demO, gTupM, gsCons, gsNil, len_T, len_W, len_L, add_N, sub_N, in_T, le_NN, lt_NN, gt_NN, ge_NN, eq_NN, ne_NN, eq_TT, ne_TT, eq_WW, ne_WW, -List.getD_eq_getElem?_getD, oNot, neg_1, dOf_d, isTup_T, isTup_W, list_T, get_g k hg]
      cases hc : (List.range l.length).all fun g => (storyP w l hs).any fun r => decide (r.getD g 0 = x) with
      | true =>
        rw [hc] at ht
        refine ifS_t ht (seq_nx ?_ rfl)
        rw [if_pos rfl]
        unfold mAppMove
        simp [fnV, enOf, mSeq, mRet, mRetV, mAnd, mOr, mIf, mIfS, mT, tNotM, tAndM, tOrM, mCall, mArgs, mCons, mNil, mVar, mC, m1, m2, o1, o2, mDrop, mSet, mSets, mUnp, mTup, mLst, mImm, datas, setsO, bindO, bind_ret, bind_fail, must_t, ofO_some, isB, mChain, Nat.beq, List.replicate, il0, il1, il2, il3, il4, il5, il6, il7, il8, il9, il10, il11, il12, il60, setsE, visE, demE, visO, demO, gTupM, gsCons, gsNil, len_T, len_W, len_L, add_N, sub_N, in_T, le_NN, lt_NN, gt_NN, ge_NN, eq_NN, ne_NN, eq_TT, ne_TT, eq_WW, ne_WW, -List.getD_eq_getElem?_getD, oNot, neg_1, dOf_d, isTup_T, isTup_W, list_T, imm_dN, must_le (show acc.length ≤ 99999 by omega)]
      | false =>
        rw [hc] at ht
        exact ifS_f ht rfl
    · subst e2
      simp [fnV, enOf, mSeq, mRet, mRetV, mAnd, mOr, mIf, mIfS, mT, tNotM, tAndM, tOrM, mCall, mArgs, mCons, mNil, mVar, mC, m1, m2, o1, o2, mDrop, mSet, mSets, mUnp, mTup, mLst, mImm, datas, setsO, bindO, bind_ret, bind_fail, must_t, ofO_some, isB, mChain, Nat.beq, List.replicate, il0, il1, il2, il3, il4, il5, il6, il7, il8, il9, il10, il11, il12, il60, setsE, visE, demE, visO, demO, gTupM, gsCons, gsNil, len_T, len_W, len_L, add_N, sub_N, in_T, le_NN, lt_NN, gt_NN, ge_NN, eq_NN, ne_NN, eq_TT, ne_TT, eq_WW, ne_WW, -List.getD_eq_getElem?_getD, oNot, neg_1, dOf_d, isTup_T, isTup_W, list_T, tup_N]
      rfl
/-! ratios -/
def pr (f f' : Nat) (a b : Nat) : En := [some ⟨f, .d (dN a)⟩, some ⟨f', .d (dN b)⟩]
theorem gcd_loop {mt : En → T Bool} {mb : En → T Out} (h1 : ∀ f f' a b, mt (pr f f' a b) = .ret (!decide (b = 0))) (h2 : ∀ f f' a b, 0 < b → mb (pr f f' a b) = .ret (.nx (pr 0 0 b (a % b)))) : ∀ (b a f f' n : Nat), b < n → ∃ f1 f2, wLoop mt mb n (pr f f' a b) = .ret (.nx (pr f1 f2 (Nat.gcd a b) 0)) := by
    intro b
    induction b using Nat.strongRecOn with
    | _ b ih =>
      intro a f f' n hn
      cases n with
      | zero => omega
      | succ n =>
        unfold wLoop
        rw [h1]
        by_cases hb : b = 0
        · subst hb
          exact ⟨f, f', by rw [Nat.gcd_zero_right]; rfl⟩
        · have h0 : 0 < b := by omega
          obtain ⟨f1, f2, e⟩ := ih (a % b) (Nat.mod_lt _ h0) b 0 0 n (by have := Nat.mod_lt a h0; omega)
          refine ⟨f1, f2, ?_⟩
          rw [decide_eq_false hb]
          show ((mb (pr f f' a b)).bind _) = _
          rw [h2 f f' a b h0]
          show wLoop mt mb n (pr 0 0 b (a % b)) = _
          rw [e]
          congr 3
          rw [Nat.gcd_comm a b, Nat.gcd_rec b a, Nat.gcd_comm]
theorem mod_N {a b : Nat} (h : 0 < b) : oMod (.d (dN a)) (.d (dN b)) = .ret (.d (dN (a % b))) := by
  show T.must (decide ((0 : Int) < (b : Int))) _ = _
  rw [decide_eq_true (by omega)]; rfl
theorem fdiv_N {a b : Nat} (h : 0 < b) (hb : b ≤ 100000) : oFdiv (.d (dN a)) (.d (dN b)) = .ret (.d (dN (a / b))) := by
  show T.must (decide ((0 : Int) < (b : Int)) && fitsB (b : Int)) _ = _
  rw [decide_eq_true (by omega), show fitsB (b : Int) = true by
    unfold fitsB
    exact decide_eq_true (Nat.lt_of_le_of_lt (show (b : Int).natAbs ≤ 100000 by omega) (by decide))]
  rfl
theorem abs_N (a : Nat) : oAbs (.d (dN a)) = .ret (.d (dN a)) := by
  show T.ret (W.d (.int (if (a : Int) < 0 then -(a : Int) else a))) = _
  rw [if_neg (by omega)]; rfl
theorem ph_shared_eq {a b : Nat} (hb : b < 100000) : ph_shared [.d (dN a), .d (dN b)] = .ret (.d (dN (Nat.gcd a b))) := by
  unfold ph_shared
  refine fnV_rt (seq_nx (en1 := pr 0 0 a b) ?_ ?_)
  · simp [fnV, enOf, mSeq, mRet, mRetV, mAnd, mOr, mIf, mIfS, mT, tNotM, tAndM, tOrM, mCall, mArgs, mCons, mNil, mVar, mC, m1, m2, o1, o2, mDrop, mSet, mSets, mUnp, mTup, mLst, mImm, datas, setsO, bindO, bind_ret, bind_fail, must_t, ofO_some, isB, mChain, Nat.beq, List.replicate, il0, il1, il2, il3, il4, il5, il6, il7, il8, il9, il10, il11, il12, il60, setsE, visE, demE, visO, demO, gTupM, gsCons, gsNil, len_T, len_W, len_L, add_N, sub_N, in_T, le_NN, lt_NN, gt_NN, ge_NN, eq_NN, ne_NN, eq_TT, ne_TT, eq_WW, ne_WW, -List.getD_eq_getElem?_getD, oNot, neg_1, dOf_d, isTup_T, isTup_W, list_T, abs_N, pr]
  · obtain ⟨f1, f2, e⟩ := gcd_loop (mt := mT (m2 (oDD pAny fNe) (mVar 1) (mC (.int (0))))) (mb := mSeq (mSets [0, 1] (mCons (mImm (mVar 1)) (mCons (m2 oMod (mVar 0) (mVar 1)) mNil))) (fun en => .ret (.nx en))) (fun f f' a b => by simp [fnV, enOf, mSeq, mRet, mRetV, mAnd, mOr, mIf, mIfS, mT, tNotM, tAndM, tOrM, mCall, mArgs, mCons, mNil, mVar, mC, m1, m2, o1, o2, mDrop, mSet, mSets, mUnp, mTup, mLst, mImm, datas, setsO, bindO, bind_ret, bind_fail, must_t, ofO_some, isB, mChain, Nat.beq, List.replicate, il0, il1, il2, il3, il4, il5, il6, il7, il8, il9, il10, il11, il12, il60, setsE, visE, demE, visO, demO, gTupM, gsCons, gsNil, len_T, len_W, len_L, add_N, sub_N, in_T, le_NN, lt_NN, gt_NN, ge_NN, eq_NN, ne_NN, eq_TT, ne_TT, eq_WW, ne_WW, -List.getD_eq_getElem?_getD, oNot, neg_1, dOf_d, isTup_T, isTup_W, list_T, pr]) (fun f f' a b h => by simp [fnV, enOf, mSeq, mRet, mRetV, mAnd, mOr, mIf, mIfS, mT, tNotM, tAndM, tOrM, mCall, mArgs, mCons, mNil, mVar, mC, m1, m2, o1, o2, mDrop, mSet, mSets, mUnp, mTup, mLst, mImm, datas, setsO, bindO, bind_ret, bind_fail, must_t, ofO_some, isB, mChain, Nat.beq, List.replicate, il0, il1, il2, il3, il4, il5, il6, il7, il8, il9, il10, il11, il12, il60, setsE, visE, demE, visO, demO, gTupM, gsCons, gsNil, len_T, len_W, len_L, add_N, sub_N, in_T, le_NN, lt_NN, gt_NN, ge_NN, eq_NN, ne_NN, eq_TT, ne_TT, eq_WW, ne_WW, -List.getD_eq_getElem?_getD, oNot, neg_1, dOf_d, isTup_T, isTup_W, list_T, pr, mod_N h, imm_dN, W.imm]) b a 0 0 fuel (by unfold fuel; omega)
    refine seq_nx e (seq_rt ?_)
    simp [fnV, enOf, mSeq, mRet, mRetV, mAnd, mOr, mIf, mIfS, mT, tNotM, tAndM, tOrM, mCall, mArgs, mCons, mNil, mVar, mC, m1, m2, o1, o2, mDrop, mSet, mSets, mUnp, mTup, mLst, mImm, datas, setsO, bindO, bind_ret, bind_fail, must_t, ofO_some, isB, mChain, Nat.beq, List.replicate, il0, il1, il2, il3, il4, il5, il6, il7, il8, il9, il10, il11, il12, il60, setsE, visE, demE, visO, demO, gTupM, gsCons, gsNil, len_T, len_W, len_L, add_N, sub_N, in_T, le_NN, lt_NN, gt_NN, ge_NN, eq_NN, ne_NN, eq_TT, ne_TT, eq_WW, ne_WW, -List.getD_eq_getElem?_getD, oNot, neg_1, dOf_d, isTup_T, isTup_W, list_T, pr, imm_dN, W.imm]
/-- in lowest terms -/
def lowN (a b : Nat) : List Nat := [a / Nat.gcd a b, b / Nat.gcd a b]
theorem gcd_ok {a b : Nat} (h : 0 < b) (hb : b < 100000) : 0 < Nat.gcd a b ∧ Nat.gcd a b ≤ 100000 := ⟨Nat.gcd_pos_of_pos_right _ h, by have := Nat.gcd_le_right a h; omega⟩
theorem ph_ratio_eq {a b : Nat} (h : 0 < b) (hb : b < 100000) : ph_ratio [.d (dN a), .d (dN b)] = .ret (.d (dT (lowN a b))) := by
  obtain ⟨g1, g2⟩ := gcd_ok (a := a) h hb
  unfold ph_ratio
  refine fnV_rt (seq_nx (set_eq (x := .d (dN (Nat.gcd a b))) ?_) (seq_rt (ret_eq ?_)))
  · simp [fnV, enOf, mSeq, mRet, mRetV, mAnd, mOr, mIf, mIfS, mT, tNotM, tAndM, tOrM, mCall, mArgs, mCons, mNil, mVar, mC, m1, m2, o1, o2, mDrop, mSet, mSets, mUnp, mTup, mLst, mImm, datas, setsO, bindO, bind_ret, bind_fail, must_t, ofO_some, isB, mChain, Nat.beq, List.replicate, il0, il1, il2, il3, il4, il5, il6, il7, il8, il9, il10, il11, il12, il60, setsE, visE, demE, visO, demO, gTupM, gsCons, gsNil, len_T, len_W, len_L, add_N, sub_N, in_T, le_NN, lt_NN, gt_NN, ge_NN, eq_NN, ne_NN, eq_TT, ne_TT, eq_WW, ne_WW, -List.getD_eq_getElem?_getD, oNot, neg_1, dOf_d, isTup_T, isTup_W, list_T, ph_shared_eq hb]
  · simp [fnV, enOf, mSeq, mRet, mRetV, mAnd, mOr, mIf, mIfS, mT, tNotM, tAndM, tOrM, mCall, mArgs, mCons, mNil, mVar, mC, m1, m2, o1, o2, mDrop, mSet, mSets, mUnp, mTup, mLst, mImm, datas, setsO, bindO, bind_ret, bind_fail, must_t, ofO_some, isB, mChain, Nat.beq, List.replicate, il0, il1, il2, il3, il4, il5, il6, il7, il8, il9, il10, il11, il12, il60, setsE, visE, demE, visO, demO, gTupM, gsCons, gsNil, len_T, len_W, len_L, add_N, sub_N, in_T, le_NN, lt_NN, gt_NN, ge_NN, eq_NN, ne_NN, eq_TT, ne_TT, eq_WW, ne_WW, -List.getD_eq_getElem?_getD, oNot, neg_1, dOf_d, isTup_T, isTup_W, list_T, fdiv_N g1 g2, must_le (show 2 ≤ lim by decide)]
    rfl
theorem ph__law_gcd_eq {a b : Nat} (hb : b < 100000) : ph__law_gcd [.d (dN a), .d (dN b)] = .ret (.d (dN (Nat.gcd a b))) := by
  unfold ph__law_gcd
  obtain ⟨f1, f2, e⟩ := gcd_loop (mt := mT (m2 (oDD pAny fNe) (mVar 1) (mC (.int (0))))) (mb := mSeq (mSets [0, 1] (mCons (mImm (mVar 1)) (mCons (m2 oMod (mArgs (o1 oInt) (mCons (mVar 0) mNil)) (mVar 1)) mNil))) (fun en => .ret (.nx en))) (fun f f' a b => by simp [fnV, enOf, mSeq, mRet, mRetV, mAnd, mOr, mIf, mIfS, mT, tNotM, tAndM, tOrM, mCall, mArgs, mCons, mNil, mVar, mC, m1, m2, o1, o2, mDrop, mSet, mSets, mUnp, mTup, mLst, mImm, datas, setsO, bindO, bind_ret, bind_fail, must_t, ofO_some, isB, mChain, Nat.beq, List.replicate, il0, il1, il2, il3, il4, il5, il6, il7, il8, il9, il10, il11, il12, il60, setsE, visE, demE, visO, demO, gTupM, gsCons, gsNil, len_T, len_W, len_L, add_N, sub_N, in_T, le_NN, lt_NN, gt_NN, ge_NN, eq_NN, ne_NN, eq_TT, ne_TT, eq_WW, ne_WW, -List.getD_eq_getElem?_getD, oNot, neg_1, dOf_d, isTup_T, isTup_W, list_T, pr]) (fun f f' a b h => by simp [fnV, enOf, mSeq, mRet, mRetV, mAnd, mOr, mIf, mIfS, mT, tNotM, tAndM, tOrM, mCall, mArgs, mCons, mNil, mVar, mC, m1, m2, o1, o2, mDrop, mSet, mSets, mUnp, mTup, mLst, mImm, datas, setsO, bindO, bind_ret, bind_fail, must_t, ofO_some, isB, mChain, Nat.beq, List.replicate, il0, il1, il2, il3, il4, il5, il6, il7, il8, il9, il10, il11, il12, il60, setsE, visE, demE, visO, demO, gTupM, gsCons, gsNil, len_T, len_W, len_L, add_N, sub_N, in_T, le_NN, lt_NN, gt_NN, ge_NN, eq_NN, ne_NN, eq_TT, ne_TT, eq_WW, ne_WW, -List.getD_eq_getElem?_getD, oNot, neg_1, dOf_d, isTup_T, isTup_W, list_T, pr, show oInt (.d (dN a)) = .ret (.d (dN a)) from rfl, mod_N h, imm_dN, W.imm]) b a 1 1 fuel (by unfold fuel; omega)
  refine fnV_rt (seq_nx e (seq_rt ?_))
  simp [fnV, enOf, mSeq, mRet, mRetV, mAnd, mOr, mIf, mIfS, mT, tNotM, tAndM, tOrM, mCall, mArgs, mCons, mNil, mVar, mC, m1, m2, o1, o2, mDrop, mSet, mSets, mUnp, mTup, mLst, mImm, datas, setsO, bindO, bind_ret, bind_fail, must_t, ofO_some, isB, mChain, Nat.beq, List.replicate, il0, il1, il2, il3, il4, il5, il6, il7, il8, il9, il10, il11, il12, il60, setsE, visE, demE, visO, demO, gTupM, gsCons, gsNil, len_T, len_W, len_L, add_N, sub_N, in_T, le_NN, lt_NN, gt_NN, ge_NN, eq_NN, ne_NN, eq_TT, ne_TT, eq_WW, ne_WW, -List.getD_eq_getElem?_getD, oNot, neg_1, dOf_d, isTup_T, isTup_W, list_T, pr, imm_dN, W.imm]
theorem ph__law_lowest_eq {a b : Nat} (h : 0 < b) (hb : b < 100000) : ph__law_lowest [.d (dN a), .d (dN b)] = .ret (.d (dT (lowN a b))) := by
  obtain ⟨g1, g2⟩ := gcd_ok (a := a) h hb
  unfold ph__law_lowest
  refine fnV_rt (seq_nx (set_eq (x := .d (dN (Nat.gcd a b))) ?_) (seq_rt (ret_eq ?_)))
  · simp [fnV, enOf, mSeq, mRet, mRetV, mAnd, mOr, mIf, mIfS, mT, tNotM, tAndM, tOrM, mCall, mArgs, mCons, mNil, mVar, mC, m1, m2, o1, o2, mDrop, mSet, mSets, mUnp, mTup, mLst, mImm, datas, setsO, bindO, bind_ret, bind_fail, must_t, ofO_some, isB, mChain, Nat.beq, List.replicate, il0, il1, il2, il3, il4, il5, il6, il7, il8, il9, il10, il11, il12, il60, setsE, visE, demE, visO, demO, gTupM, gsCons, gsNil, len_T, len_W, len_L, add_N, sub_N, in_T, le_NN, lt_NN, gt_NN, ge_NN, eq_NN, ne_NN, eq_TT, ne_TT, eq_WW, ne_WW, -List.getD_eq_getElem?_getD, oNot, neg_1, dOf_d, isTup_T, isTup_W, list_T, abs_N, ph__law_gcd_eq hb]
  · simp [fnV, enOf, mSeq, mRet, mRetV, mAnd, mOr, mIf, mIfS, mT, tNotM, tAndM, tOrM, mCall, mArgs, mCons, mNil, mVar, mC, m1, m2, o1, o2, mDrop, mSet, mSets, mUnp, mTup, mLst, mImm, datas, setsO, bindO, bind_ret, bind_fail, must_t, ofO_some, isB, mChain, Nat.beq, List.replicate, il0, il1, il2, il3, il4, il5, il6, il7, il8, il9, il10, il11, il12, il60, setsE, visE, demE, visO, demO, gTupM, gsCons, gsNil, len_T, len_W, len_L, add_N, sub_N, in_T, le_NN, lt_NN, gt_NN, ge_NN, eq_NN, ne_NN, eq_TT, ne_TT, eq_WW, ne_WW, -List.getD_eq_getElem?_getD, oNot, neg_1, dOf_d, isTup_T, isTup_W, list_T, fdiv_N g1 g2, must_le (show 2 ≤ lim by decide)]
    rfl
theorem ph_drawing_chance_eq (p : Pl w l) : ph_drawing_chance [.d (dW w), .d (dT l)] = .ret (.d (dT (lowN (moversN w l).length w.length))) := by
  have w6 := p.web.most
  have w1 := p.web.pos
  unfold ph_drawing_chance
  refine fnV_rt (seq_nx (drop_eq (x := .d .none) ?_) (seq_rt (ret_eq ?_)))
  · simp [fnV, enOf, mSeq, mRet, mRetV, mAnd, mOr, mIf, mIfS, mT, tNotM, tAndM, tOrM, mCall, mArgs, mCons, mNil, mVar, mC, m1, m2, o1, o2, mDrop, mSet, mSets, mUnp, mTup, mLst, mImm, datas, setsO, bindO, bind_ret, bind_fail, must_t, ofO_some, isB, mChain, Nat.beq, List.replicate, il0, il1, il2, il3, il4, il5, il6, il7, il8, il9, il10, il11, il12, il60, setsE, visE, demE, visO, demO, gTupM, gsCons, gsNil, len_T, len_W, len_L, add_N, sub_N, in_T, le_NN, lt_NN, gt_NN, ge_NN, eq_NN, ne_NN, eq_TT, ne_TT, eq_WW, ne_WW, -List.getD_eq_getElem?_getD, oNot, neg_1, dOf_d, isTup_T, isTup_W, list_T, np_eq p]
  · simp [fnV, enOf, mSeq, mRet, mRetV, mAnd, mOr, mIf, mIfS, mT, tNotM, tAndM, tOrM, mCall, mArgs, mCons, mNil, mVar, mC, m1, m2, o1, o2, mDrop, mSet, mSets, mUnp, mTup, mLst, mImm, datas, setsO, bindO, bind_ret, bind_fail, must_t, ofO_some, isB, mChain, Nat.beq, List.replicate, il0, il1, il2, il3, il4, il5, il6, il7, il8, il9, il10, il11, il12, il60, setsE, visE, demE, visO, demO, gTupM, gsCons, gsNil, len_T, len_W, len_L, add_N, sub_N, in_T, le_NN, lt_NN, gt_NN, ge_NN, eq_NN, ne_NN, eq_TT, ne_TT, eq_WW, ne_WW, -List.getD_eq_getElem?_getD, oNot, neg_1, dOf_d, isTup_T, isTup_W, list_T, ph_movers_in_eq p, ph_ratio_eq (show 0 < w.length by omega) (show w.length < 100000 by omega)]
theorem sum_N (ns : List Nat) : oSumX (.d (.list (ns.map dN))) = .ret (.d (dN ns.sum)) := by
  show oSum (.d (.list (ns.map dN))) = _
  unfold oSum
  show (T.ofO (intsOf (ns.map dN))).bind _ = _
  rw [intsOf_dN]
  show T.ret (W.d (.int (ns.map fun n : Nat => (n : Int)).sum)) = _
  have : (ns.map fun n : Nat => (n : Int)).sum = (ns.sum : Int) := by
    induction ns with
    | nil => rfl
    | cons x xs ih => rw [List.map_cons, List.sum_cons, List.sum_cons, ih]; omega
  rw [this]; rfl
theorem ph_mean_drawn_eq (p : Pl w l) : ph_mean_drawn [.d (dW w), .d (dT l)] = .ret (.d (dT (lowN (l.map fun h => (w.getD h []).length).sum w.length))) := by
  have w6 := p.web.most
  have w1 := p.web.pos
  unfold ph_mean_drawn
  refine fnV_rt (seq_nx (drop_eq (x := .d .none) ?_) (seq_rt (ret_eq ?_)))
  · simp [fnV, enOf, mSeq, mRet, mRetV, mAnd, mOr, mIf, mIfS, mT, tNotM, tAndM, tOrM, mCall, mArgs, mCons, mNil, mVar, mC, m1, m2, o1, o2, mDrop, mSet, mSets, mUnp, mTup, mLst, mImm, datas, setsO, bindO, bind_ret, bind_fail, must_t, ofO_some, isB, mChain, Nat.beq, List.replicate, il0, il1, il2, il3, il4, il5, il6, il7, il8, il9, il10, il11, il12, il60, setsE, visE, demE, visO, demO, gTupM, gsCons, gsNil, len_T, len_W, len_L, add_N, sub_N, in_T, le_NN, lt_NN, gt_NN, ge_NN, eq_NN, ne_NN, eq_TT, ne_TT, eq_WW, ne_WW, -List.getD_eq_getElem?_getD, oNot, neg_1, dOf_d, isTup_T, isTup_W, list_T, np_eq p]
  · have hl : mLC (fun en => ((mVar 1) en).bind itemsOf) (fun x => .ret [(2, x)]) [2] (fun _ => .ret true) (mArgs (o1 oLenX) (mCons (m2 oGet (mVar 0) (mVar 2)) mNil)) (enOf 3 [.d (dW w), .d (dT l)]) = .ret (.d (.list ((l.map fun h => (w.getD h []).length).map dN))) := by
      rw [List.map_map]
      refine mLC_all l (fun n => .d (dN n)) (fun h => dN (w.getD h []).length) ?_ (by have := p.six; omega) ?_
      · simp [fnV, enOf, mSeq, mRet, mRetV, mAnd, mOr, mIf, mIfS, mT, tNotM, tAndM, tOrM, mCall, mArgs, mCons, mNil, mVar, mC, m1, m2, o1, o2, mDrop, mSet, mSets, mUnp, mTup, mLst, mImm, datas, setsO, bindO, bind_ret, bind_fail, must_t, ofO_some, isB, mChain, Nat.beq, List.replicate, il0, il1, il2, il3, il4, il5, il6, il7, il8, il9, il10, il11, il12, il60, setsE, visE, demE, visO, demO, gTupM, gsCons, gsNil, len_T, len_W, len_L, add_N, sub_N, in_T, le_NN, lt_NN, gt_NN, ge_NN, eq_NN, ne_NN, eq_TT, ne_TT, eq_WW, ne_WW, -List.getD_eq_getElem?_getD, oNot, neg_1, dOf_d, isTup_T, isTup_W, list_T, items_T]
      · intro t ht
        simp [fnV, enOf, mSeq, mRet, mRetV, mAnd, mOr, mIf, mIfS, mT, tNotM, tAndM, tOrM, mCall, mArgs, mCons, mNil, mVar, mC, m1, m2, o1, o2, mDrop, mSet, mSets, mUnp, mTup, mLst, mImm, datas, setsO, bindO, bind_ret, bind_fail, must_t, ofO_some, isB, mChain, Nat.beq, List.replicate, il0, il1, il2, il3, il4, il5, il6, il7, il8, il9, il10, il11, il12, il60, setsE, visE, demE, visO, demO, gTupM, gsCons, gsNil, len_T, len_W, len_L, add_N, sub_N, in_T, le_NN, lt_NN, gt_NN, ge_NN, eq_NN, ne_NN, eq_TT, ne_TT, eq_WW, ne_WW, -List.getD_eq_getElem?_getD, oNot, neg_1, dOf_d, isTup_T, isTup_W, list_T, get_Wg (p.row t ht)]
    refine (call_eq (cons_eq ((args1 hl).trans (sum_N _)) (cons_eq (x := .d (dN w.length)) ?_ rfl))).trans ?_
    · simp [fnV, enOf, mSeq, mRet, mRetV, mAnd, mOr, mIf, mIfS, mT, tNotM, tAndM, tOrM, mCall, mArgs, mCons, mNil, mVar, mC, m1, m2, o1, o2, mDrop, mSet, mSets, mUnp, mTup, mLst, mImm, datas, setsO, bindO, bind_ret, bind_fail, must_t, ofO_some, isB, mChain, Nat.beq, List.replicate, il0, il1, il2, il3, il4, il5, il6, il7, il8, il9, il10, il11, il12, il60, setsE, visE, demE, visO, demO, gTupM, gsCons, gsNil, len_T, len_W, len_L, add_N, sub_N, in_T, le_NN, lt_NN, gt_NN, ge_NN, eq_NN, ne_NN, eq_TT, ne_TT, eq_WW, ne_WW, -List.getD_eq_getElem?_getD, oNot, neg_1, dOf_d, isTup_T, isTup_W, list_T]
    · simp [fnV, enOf, mSeq, mRet, mRetV, mAnd, mOr, mIf, mIfS, mT, tNotM, tAndM, tOrM, mCall, mArgs, mCons, mNil, mVar, mC, m1, m2, o1, o2, mDrop, mSet, mSets, mUnp, mTup, mLst, mImm, datas, setsO, bindO, bind_ret, bind_fail, must_t, ofO_some, isB, mChain, Nat.beq, List.replicate, il0, il1, il2, il3, il4, il5, il6, il7, il8, il9, il10, il11, il12, il60, setsE, visE, demE, visO, demO, gTupM, gsCons, gsNil, len_T, len_W, len_L, add_N, sub_N, in_T, le_NN, lt_NN, gt_NN, ge_NN, eq_NN, ne_NN, eq_TT, ne_TT, eq_WW, ne_WW, -List.getD_eq_getElem?_getD, oNot, neg_1, dOf_d, isTup_T, isTup_W, list_T, ph_ratio_eq (show 0 < w.length by omega) (show w.length < 100000 by omega)]
end G

set_option Elab.async false
set_option linter.all false
set_option maxRecDepth 100000
namespace G
open PySem PySem.Spec PyProof.Rows L2
/-! S7: rows drawn, webs built. -/
variable {w : List (List Nat)} {l hs : List Nat} {h g : Nat}
/-! ### sorted rows of numbers -/
def srtN (ks : List Nat) : List Nat := isort (fun a b => decide (a ≤ b)) ks
theorem insD_map (x : Nat) : ∀ ys : List Nat, insD leD (dN x) (ys.map dN) = (insD (fun a b => decide (a ≤ b)) x ys).map dN
  | [] => rfl
  | y :: ys => by
    rw [List.map_cons, insD, insD, show leD (dN x) (dN y) = decide (x ≤ y) by show (!ltD (dN y) (dN x)) = _; rw [ltD_N, ← decide_not]; exact decide_eq_decide.mpr (by omega)]
    cases decide (x ≤ y) with
    | true => rfl
    | false =>
      show dN y :: insD leD (dN x) (ys.map dN) = _
      rw [insD_map x ys]; rfl
theorem sortD_N : ∀ ks : List Nat, sortD (ks.map dN) = (srtN ks).map dN
  | [] => rfl
  | x :: xs => by
    show insD leD (dN x) (sortD (xs.map dN)) = _
    rw [sortD_N xs, insD_map]; rfl
theorem insN_mem {x k : Nat} : ∀ {ys : List Nat}, k ∈ insD (fun a b => decide (a ≤ b)) x ys ↔ k = x ∨ k ∈ ys
  | [] => by simp [insD]
  | y :: ys => by
    unfold insD
    split
    · simp
    · rw [List.mem_cons, insN_mem, List.mem_cons]
      constructor
      · rintro (h | h | h)
        · exact .inr (.inl h)
        · exact .inl h
        · exact .inr (.inr h)
      · rintro (h | h | h)
        · exact .inr (.inl h)
        · exact .inl h
        · exact .inr (.inr h)
theorem srtN_mem {k : Nat} : ∀ {ks : List Nat}, k ∈ srtN ks ↔ k ∈ ks
  | [] => Iff.rfl
  | x :: xs => by
    show k ∈ insD _ x (srtN xs) ↔ _
    rw [insN_mem, srtN_mem, List.mem_cons]
theorem insN_len {x : Nat} : ∀ {ys : List Nat}, (insD (fun a b => decide (a ≤ b)) x ys).length = ys.length + 1
  | [] => rfl
  | y :: ys => by
    unfold insD
    split
    · rfl
    · rw [List.length_cons, insN_len, List.length_cons]
theorem srtN_len : ∀ {ks : List Nat}, (srtN ks).length = ks.length
  | [] => rfl
  | x :: xs => by
    show (insD _ x (srtN xs)).length = _
    rw [insN_len, srtN_len]; rfl
theorem insN_up {x : Nat} : ∀ {ys : List Nat}, ys.Pairwise (· < ·) → x ∉ ys → (insD (fun a b => decide (a ≤ b)) x ys).Pairwise (· < ·)
  | [], _, _ => by simp [insD]
  | y :: ys, h, hx => by
    obtain ⟨h1, h2⟩ := List.pairwise_cons.mp h
    rw [List.mem_cons] at hx
    unfold insD
    split
    · rename_i hle
      have hle : x ≤ y := of_decide_eq_true hle
      refine List.pairwise_cons.mpr ⟨fun z hz => ?_, h⟩
      rcases List.mem_cons.mp hz with rfl | hz
      · exact Nat.lt_of_le_of_ne hle fun e => hx (.inl e)
      · have := h1 z hz
        have : x ≠ y := fun e => hx (.inl e)
        omega
    · rename_i hle
      have hle : ¬ x ≤ y := of_decide_eq_false hle
      refine List.pairwise_cons.mpr ⟨fun z hz => ?_, insN_up h2 fun e => hx (.inr e)⟩
      rcases insN_mem.mp hz with rfl | hz
      · omega
      · exact h1 z hz
theorem srtN_up : ∀ {ks : List Nat}, ks.Nodup → (srtN ks).Pairwise (· < ·)
  | [], _ => .nil
  | x :: xs, h => by
    obtain ⟨h1, h2⟩ := List.nodup_cons.mp h
    exact insN_up (srtN_up h2) fun e => h1 (srtN_mem.mp e)
theorem allB_map {α : Type} {f : α → D} {p : D → Bool} (h : ∀ x, p (f x) = true) : ∀ l : List α, allB (l.map f) p = true
  | [] => rfl
  | x :: xs => by
    show (p (f x) && allB (xs.map f) p) = true
    rw [h, allB_map h xs]; rfl
theorem sortOk_N (ks : List Nat) : sortOk (ks.map dN) = true := by
  unfold sortOk
  rw [allB_map (p := plainItem) (fun _ => rfl), allB_map (p := flat 20) (flat_dN 20), allB_map (p := fun x => allB (ks.map dN) (PySem.W.alike x)) fun x => allB_map (fun _ => rfl) ks]
  rfl
theorem sortX_N (ks : List Nat) : oSortX (.d (.list (ks.map dN))) = .ret (.d (.list ((srtN ks).map dN))) := by
  show T.must ((Nat.blt (ks.map dN).length 2 && allB (ks.map dN) (flat 20) || sortOk (ks.map dN)) && immAll (ks.map dN)) _ = _
  rw [sortOk_N, Bool.or_true, immAll_map imm_dN, sortD_N]; rfl
/-! ### dicts of neighbours -/
def dK (ks : List Nat) : D := .dict (ks.map fun j => (dN j, PyData.bool true))
def insK (ks : List Nat) (j : Nat) : List Nat := if j ∈ ks then ks else ks ++ [j]
theorem sameK_N (a b : Nat) : sameK (dN a) (dN b) = decide (a = b) := by
  by_cases e : a = b
  · subst e
    rw [decide_eq_true rfl]
    exact sameK_iff.mpr rfl
  · rw [decide_eq_false e]
    cases hs : sameK (dN a) (dN b) with
    | false => rfl
    | true =>
      have := sameK_iff.mp hs
      have h2 : (a : Int) = (b : Int) := by injection this
      exact absurd (Int.ofNat.inj h2) e
theorem dhas_N (j : Nat) : ∀ ks : List Nat, dhas (ks.map fun j => (dN j, PyData.bool true)) (dN j) = decide (j ∈ ks)
  | [] => by simp [dhas]
  | k :: ks => by
    show (sameK (dN k) (dN j) || dhas (ks.map _) (dN j)) = _
    rw [sameK_N, dhas_N j ks]
    by_cases e : k = j
    · subst e; simp
    · rw [decide_eq_false e, Bool.false_or]
      exact decide_eq_decide.mpr ⟨fun h => List.mem_cons_of_mem _ h, fun h => (List.mem_cons.mp h).resolve_left (Ne.symm e)⟩
theorem drep_N (j : Nat) : ∀ ks : List Nat, drep (ks.map fun j => (dN j, PyData.bool true)) (dN j) (.bool true) = ks.map fun j => (dN j, PyData.bool true)
  | [] => rfl
  | k :: ks => by
    show (match sameK (dN k) (dN j) with | true => (dN k, PyData.bool true) | false => (dN k, PyData.bool true)) :: drep (ks.map _) (dN j) (.bool true) = _
    rw [drep_N j ks]
    cases sameK (dN k) (dN j) <;> rfl
theorem allI_N : ∀ ks : List Nat, allI (ks.map fun j => (dN j, PyData.bool true)) = true
  | [] => rfl
  | k :: ks => by
    show (isI (dN k) && allI (ks.map _)) = true
    rw [allI_N ks]; rfl
theorem oPut_N {ks : List Nat} (j : Nat) (hl : ks.length ≤ 99999) : oPut (dK ks) (dN j) (.bool true) = some (dK (insK ks j)) := by
  show (match kindB (ks.map fun j => (dN j, PyData.bool true)) (dN j) && imm (dN j) && Nat.ble (ks.map fun j => (dN j, PyData.bool true)).length 99999 with | true => some (PyData.dict (dput (ks.map fun j => (dN j, PyData.bool true)) (dN j) (.bool true))) | false => none) = _
  rw [show kindB (ks.map fun j => (dN j, PyData.bool true)) (dN j) = true by unfold kindB; rw [allI_N]; rfl, List.length_map, Nat.ble_eq_true_of_le hl]
  show some (PyData.dict (dput _ _ _)) = _
  unfold dput
  rw [dhas_N]
  unfold insK
  by_cases e : j ∈ ks
  · rw [decide_eq_true e, if_pos e]
    show some (PyData.dict (drep _ _ _)) = _
    rw [drep_N]; rfl
  · rw [decide_eq_false e, if_neg e]
    show some (PyData.dict (_ ++ _)) = some (PyData.dict _)
    rw [List.map_append]; rfl
theorem keysOf_N : ∀ ks : List Nat, keysOf (ks.map fun j => (dN j, PyData.bool true)) = ks.map dN
  | [] => rfl
  | k :: ks => by
    show dN k :: keysOf (ks.map _) = _
    rw [keysOf_N ks]; rfl
theorem list_K (ks : List Nat) : oListX (.d (dK ks)) = .ret (.d (.list (ks.map dN))) := by
  show T.ret (W.d (.list (keysOf (ks.map fun j => (dN j, PyData.bool true))))) = _
  rw [keysOf_N]
theorem ixN_N {n j : Nat} (h : j < n) : L2.ixN n (j : Int) = some j := by
  unfold L2.ixN
  rw [if_pos (by omega), if_pos (by omega)]; rfl
/-- one entry put -/
def putK (F : List (List Nat)) (i j : Nat) : List (List Nat) := F.set i (insK (F.getD i []) j)
def bothK (F : List (List Nat)) (p : Nat × Nat) : List (List Nat) := putK (putK F p.1 p.2) p.2 p.1
/-- the web of so many houses with these roads -/
def byN (many : Nat) (cs : List (Nat × Nat)) : List (List Nat) := (cs.foldl bothK (List.replicate many [])).map srtN
theorem putK_len (F : List (List Nat)) (i j : Nat) : (putK F i j).length = F.length := List.length_set
theorem bothK_len (F : List (List Nat)) (p : Nat × Nat) : (bothK F p).length = F.length := by unfold bothK; rw [putK_len, putK_len]
theorem byK_len : ∀ (cs : List (Nat × Nat)) (F : List (List Nat)), (cs.foldl bothK F).length = F.length
  | [], _ => rfl
  | c :: cs, F => by
    show (cs.foldl bothK (bothK F c)).length = _
    rw [byK_len cs, bothK_len]
theorem putK_mem {F : List (List Nat)} {i j a b : Nat} (hi : i < F.length) : b ∈ (putK F i j).getD a [] ↔ b ∈ F.getD a [] ∨ (a = i ∧ b = j) := by
  unfold putK
  rw [List.getD_eq_getElem?_getD, List.getElem?_set]
  by_cases e : i = a
  · subst e
    rw [if_pos rfl, if_pos hi]
    show b ∈ insK _ j ↔ _
    unfold insK
    split
    · rename_i hj
      exact ⟨.inl, fun h => h.elim id fun ⟨_, e⟩ => e ▸ hj⟩
    · simp
  · rw [if_neg e, ← List.getD_eq_getElem?_getD]
    exact ⟨.inl, fun h => h.elim id fun ⟨e', _⟩ => absurd e'.symm e⟩
theorem byK_mem : ∀ (cs : List (Nat × Nat)) (F : List (List Nat)) {a b : Nat}, (∀ p ∈ cs, p.1 < F.length ∧ p.2 < F.length) → (b ∈ (cs.foldl bothK F).getD a [] ↔ b ∈ F.getD a [] ∨ (a, b) ∈ cs ∨ (b, a) ∈ cs)
  | [], F, a, b, _ => by simp
  | c :: cs, F, a, b, h => by
    show b ∈ (cs.foldl bothK (bothK F c)).getD a [] ↔ _
    obtain ⟨h1, h2⟩ := h c List.mem_cons_self
    rw [byK_mem cs (bothK F c) fun p hp => by rw [bothK_len]; exact h p (List.mem_cons_of_mem _ hp)]
    unfold bothK
    rw [putK_mem (by rw [putK_len]; exact h2), putK_mem h1, List.mem_cons, List.mem_cons]
    obtain ⟨c1, c2⟩ := c
    simp only [Prod.mk.injEq]
    constructor
    · rintro (((h | h) | h) | h | h)
      · exact .inl h
      · exact .inr (.inl (.inl h))
      · exact .inr (.inr (.inl ⟨h.2, h.1⟩))
      · exact .inr (.inl (.inr h))
      · exact .inr (.inr (.inr h))
    · rintro (h | (h | h) | (h | h))
      · exact .inl (.inl (.inl h))
      · exact .inl (.inl (.inr h))
      · exact .inr (.inl h)
      · exact .inl (.inr ⟨h.2, h.1⟩)
      · exact .inr (.inr h)
theorem insK_nodup {ks : List Nat} {j : Nat} (h : ks.Nodup) : (insK ks j).Nodup := by
  unfold insK
  split
  · exact h
  · rename_i hj
    rw [List.nodup_append]
    exact ⟨h, by simp, fun a ha b hb => by rw [List.mem_singleton.mp hb]; exact fun e => hj (e ▸ ha)⟩
theorem putK_nodup {F : List (List Nat)} {i j : Nat} (h : ∀ ks ∈ F, ks.Nodup) : ∀ ks ∈ putK F i j, ks.Nodup := fun ks hk => by
  rcases List.mem_or_eq_of_mem_set hk with hk | rfl
  · exact h ks hk
  · refine insK_nodup ?_
    rw [List.getD_eq_getElem?_getD]
    cases e : F[i]? with
    | none => exact .nil
    | some ks => exact h ks (List.mem_of_getElem? e)
theorem byK_nodup : ∀ (cs : List (Nat × Nat)) (F : List (List Nat)), (∀ ks ∈ F, ks.Nodup) → ∀ ks ∈ cs.foldl bothK F, ks.Nodup
  | [], _, h => h
  | c :: cs, F, h => byK_nodup cs (bothK F c) (putK_nodup (putK_nodup h))
theorem up_len : ∀ {l : List Nat} {lo hi : Nat}, l.Pairwise (· < ·) → (∀ x ∈ l, lo ≤ x ∧ x < hi) → l.length ≤ hi - lo
  | [], _, _, _, _ => Nat.zero_le _
  | x :: xs, lo, hi, h, hb => by
    obtain ⟨h1, h2⟩ := List.pairwise_cons.mp h
    have := up_len (lo := x + 1) (hi := hi) h2 fun y hy => ⟨h1 y hy, (hb y (List.mem_cons_of_mem _ hy)).2⟩
    have := hb x List.mem_cons_self
    rw [List.length_cons]; omega
/-- roads of so many houses -/
def Cpl (many : Nat) (cs : List (Nat × Nat)) : Prop := ∀ p ∈ cs, p.1 < p.2 ∧ p.2 < many
theorem byN_len (many : Nat) (cs : List (Nat × Nat)) : (byN many cs).length = many := by unfold byN; rw [List.length_map, byK_len, List.length_replicate]
theorem byN_get {many : Nat} {cs : List (Nat × Nat)} (hc : Cpl many cs) {i : Nat} {near : List Nat} (h : (byN many cs)[i]? = some near) : i < many ∧ near.Pairwise (· < ·) ∧ ∀ j, j ∈ near ↔ (i, j) ∈ cs ∨ (j, i) ∈ cs := by
  have hi : i < many := by
    have := (List.getElem?_eq_some_iff.mp h).1
    rw [byN_len] at this; exact this
  unfold byN at h
  rw [List.getElem?_map] at h
  obtain ⟨ks, hk, rfl⟩ := Option.map_eq_some_iff.mp h
  refine ⟨hi, srtN_up (byK_nodup cs _ (fun ks hk => ?_) ks (List.mem_of_getElem? hk)), fun j => ?_⟩
  · rw [(List.mem_replicate.mp hk).2]; exact .nil
  · rw [srtN_mem]
    have := byK_mem cs (List.replicate many []) (a := i) (b := j) fun p hp => by rw [List.length_replicate]; have := hc p hp; omega
    rw [List.getD_eq_getElem?_getD, hk] at this
    rw [show (some ks).getD [] = ks from rfl] at this
    rw [this]
    constructor
    · rintro (h | h)
      · rw [List.getD_eq_getElem?_getD, List.getElem?_replicate, if_pos hi] at h
        cases h
      · exact h
    · exact .inr
theorem byN_web {many : Nat} {cs : List (Nat × Nat)} (h1 : 1 ≤ many) (h6 : many ≤ 6) (hc : Cpl many cs) : Web (byN many cs) := by
  have within : ∀ (i : Nat) (near : List Nat), (byN many cs)[i]? = some near → ∀ j ∈ near, j < many := fun i near h j hj => by
    obtain ⟨_, _, hm⟩ := byN_get hc h
    rcases (hm j).mp hj with h | h
    · exact (hc _ h).2
    · have h := hc _ h
      exact Nat.lt_trans h.1 h.2
  have own : ∀ (i : Nat) (near : List Nat), (byN many cs)[i]? = some near → i ∉ near := fun i near h hj => by
    obtain ⟨_, _, hm⟩ := byN_get hc h
    rcases (hm i).mp hj with h | h
    · exact absurd (hc _ h).1 (Nat.lt_irrefl _)
    · exact absurd (hc _ h).1 (Nat.lt_irrefl _)
  refine ⟨by rw [byN_len]; exact h1, by rw [byN_len]; exact h6, fun i near h => (byN_get hc h).2.1, fun i near h => ?_, fun i near h => by rw [byN_len]; exact within i near h, own, fun i near h j hj => ?_⟩
  · obtain ⟨hi, hu, _⟩ := byN_get hc h
    have h2 := insN_up hu (own i near h)
    have h3 := up_len (lo := 0) (hi := many) h2 fun x hx => ⟨Nat.zero_le _, by
      rcases insN_mem.mp hx with rfl | hx
      · exact hi
      · exact within i near h x hx⟩
    rw [insN_len] at h3
    rw [byN_len]; omega
  · have hj' := within i near h j hj
    have hl : j < (byN many cs).length := by rw [byN_len]; exact hj'
    refine ⟨(byN many cs)[j], List.getElem?_eq_getElem hl, ?_⟩
    have e : (byN many cs)[j]? = some (byN many cs)[j] := List.getElem?_eq_getElem hl
    refine ((byN_get hc e).2.2 i).mpr ?_
    exact (((byN_get hc h).2.2 j).mp hj).symm
theorem putK_rows {F : List (List Nat)} {i j B : Nat} (h : ∀ ks ∈ F, ks.length ≤ B) : ∀ ks ∈ putK F i j, ks.length ≤ B + 1 := fun ks hk => by
  rcases List.mem_or_eq_of_mem_set hk with hk | rfl
  · exact Nat.le_succ_of_le (h ks hk)
  · have h0 : (F.getD i []).length ≤ B := by
      rw [List.getD_eq_getElem?_getD]
      cases e : F[i]? with
      | none => exact Nat.zero_le _
      | some ks => exact h ks (List.mem_of_getElem? e)
    unfold insK
    split
    · omega
    · rw [List.length_append, List.length_singleton]; omega
theorem byK_rows : ∀ (cs : List (Nat × Nat)) (F : List (List Nat)) (B : Nat), (∀ ks ∈ F, ks.length ≤ B) → ∀ ks ∈ cs.foldl bothK F, ks.length ≤ B + 2 * cs.length
  | [], _, _, h => h
  | c :: cs, F, B, h => fun ks hk => by
    have := byK_rows cs (bothK F c) (B + 1 + 1) (putK_rows (putK_rows h)) ks hk
    rw [List.length_cons]; omega
theorem krow_le {F : List (List Nat)} {B i : Nat} (h : ∀ ks ∈ F, ks.length ≤ B) : (F.getD i []).length ≤ B := by
  rw [List.getD_eq_getElem?_getD]
  cases e : F[i]? with
  | none => exact Nat.zero_le _
  | some ks => exact h ks (List.mem_of_getElem? e)
theorem set_map {α β : Type} (f : α → β) (l : List α) (i : Nat) (x : α) : (l.map f).set i (f x) = (l.set i x).map f := (List.map_set ..).symm
theorem sub2_N {en : En} {F : List (List Nat)} {i j : Nat} {mj mk m : En → T W} (h2 : en[2]? = some (some ⟨0, .d (.list (F.map dK))⟩)) (hm : m en = .ret (.d (.bool true))) (hj : mj en = .ret (.d (dN i))) (hk : mk en = .ret (.d (dN j))) (hi : i < F.length) (hl : (F.getD i []).length ≤ 99999) :
    mSub2 2 mj mk m en = .ret (.nx (en.set 2 (some ⟨0, .d (.list ((putK F i j).map dK))⟩))) := by
  unfold mSub2
  rw [h2]
  show (m en).bind _ = _
  rw [hm]
  show (mj en).bind _ = _
  rw [hj]
  show (match L2.ixN (F.map dK).length (i : Int) with | some j => _ | none => T.fail) = _
  rw [List.length_map, ixN_N hi]
  dsimp only
  have hget : (F.map dK)[i]? = some (dK (F.getD i [])) := by
    rw [List.getElem?_map, List.getD_eq_getElem?_getD, List.getElem?_eq_getElem hi]; rfl
  rw [hget]
  dsimp only
  rw [hk]
  show (T.ofO (oPut (dK (F.getD i [])) (dN j) (.bool true))).bind _ = _
  rw [oPut_N j hl]
  show T.ret (Out.nx (en.set 2 (some ⟨0, .d (.list ((F.map dK).set i (dK (insK (F.getD i []) j))))⟩))) = _
  rw [set_map]; rfl
theorem mLock_list {j f : Nat} {m : En → T W} {en : En} {ds : List D} (h : en[j]? = some (some ⟨f, .d (.list ds)⟩)) : mLock j m en = m en := by
  unfold mLock; rw [h]
def dP (p : Nat × Nat) : D := .tuple [dN p.1, dN p.2]
theorem ph__law_by_eq {many : Nat} {cs : List (Nat × Nat)} (h6 : many ≤ 6) (hc : Cpl many cs) (hl : cs.length ≤ 1000) : ph__law_by [.d (dN many), .d (.list (cs.map dP))] = .ret (.d (dW (byN many cs))) := by
  unfold ph__law_by
  refine fnV_rt (seq_nx (en1 := [some ⟨1, .d (dN many)⟩, some ⟨1, .d (.list (cs.map dP))⟩, some ⟨0, .d (.list ((List.replicate many []).map dK))⟩, none, none, none, none]) ?_ ?_)
  · refine (set_eq (x := .d (.list ((List.range many).map fun _ => PyData.dict []))) (mLC_all (List.range many) (fun n => .d (dN n)) (fun _ => PyData.dict []) ?_ (by rw [List.length_range]; omega) ?_)).trans ?_
    · simp [fnV, enOf, mSeq, mRet, mRetV, mAnd, mOr, mIf, mIfS, mT, tNotM, tAndM, tOrM, mCall, mArgs, mCons, mNil, mVar, mC, m1, m2, o1, o2, mDrop, mSet, mSets, mUnp, mTup, mLst, mImm, datas, setsO, bindO, bind_ret, bind_fail, must_t, ofO_some, isB, mChain, Nat.beq, List.replicate, il0, il1, il2, il3, il4, il5, il6, il7, il8, il9, il10, il11, il12, il60, setsE, visE, demE, visO, demO, gTupM, gsCons, gsNil, len_T, len_W, len_L, add_N, sub_N, in_T, le_NN, lt_NN, gt_NN, ge_NN, eq_NN, ne_NN, eq_TT, ne_TT, eq_WW, ne_WW, -List.getD_eq_getElem?_getD, oNot, neg_1, dOf_d, isTup_T, isTup_W, list_T, rng_N (show many ≤ 100000 by omega)]
    · intro x hx
      rfl
    · show T.ret (Out.nx [_, _, some ⟨0, .d (.list ((List.range many).map fun _ => PyData.dict []))⟩, _, _, _, _]) = _
      rw [List.map_replicate, show (List.range many).map (fun _ => PyData.dict []) = List.replicate many (dK []) by rw [List.map_const', List.length_range]; rfl]
  · refine (mFor_inv cs (fun p => .d (dP p)) (fun p => [(3, .d (dN p.1)), (4, .d (dN p.2))]) (fun p en => ∃ a b, en = [some ⟨1, .d (dN many)⟩, some ⟨1, .d (.list (cs.map dP))⟩, some ⟨0, .d (.list ((p.foldl bothK (List.replicate many [])).map dK))⟩, a, b, none, none]) ?_ ?_ ?_).elim fun en1 ⟨e1, a, b, e2⟩ => seq_nx e1 (seq_rt (ret_eq ?_))
    · simp [fnV, enOf, mSeq, mRet, mRetV, mAnd, mOr, mIf, mIfS, mT, tNotM, tAndM, tOrM, mCall, mArgs, mCons, mNil, mVar, mC, m1, m2, o1, o2, mDrop, mSet, mSets, mUnp, mTup, mLst, mImm, datas, setsO, bindO, bind_ret, bind_fail, must_t, ofO_some, isB, mChain, Nat.beq, List.replicate, il0, il1, il2, il3, il4, il5, il6, il7, il8, il9, il10, il11, il12, il60, setsE, visE, demE, visO, demO, gTupM, gsCons, gsNil, len_T, len_W, len_L, add_N, sub_N, in_T, le_NN, lt_NN, gt_NN, ge_NN, eq_NN, ne_NN, eq_TT, ne_TT, eq_WW, ne_WW, -List.getD_eq_getElem?_getD, oNot, neg_1, dOf_d, isTup_T, isTup_W, list_T, itemsOf]
    · exact ⟨_, _, rfl⟩
    · rintro p q ⟨x, y⟩ e en ⟨a, b, rfl⟩
      have hx := hc (x, y) (by rw [e]; simp)
      have hp : p.length ≤ 1000 := by have := congrArg List.length e; simp at this; omega
      have hr := byK_rows p (List.replicate many []) 0 fun ks hk => by rw [(List.mem_replicate.mp hk).2]; exact Nat.le_refl _
      have hF : (p.foldl bothK (List.replicate many [])).length = many := by rw [byK_len, List.length_replicate]
      rw [List.foldl_append, List.foldl_cons, List.foldl_nil]
      generalize p.foldl bothK (List.replicate many []) = F at hr hF ⊢
      have l1 := krow_le (i := x) hr
      have l2 := krow_le (i := y) (putK_rows (i := x) (j := y) hr)
      have hx1 : x < F.length := by rw [hF]; exact Nat.lt_trans hx.1 hx.2
      have hx2 : y < (putK F x y).length := by rw [putK_len, hF]; exact hx.2
      refine ⟨by simp [fnV, enOf, mSeq, mRet, mRetV, mAnd, mOr, mIf, mIfS, mT, tNotM, tAndM, tOrM, mCall, mArgs, mCons, mNil, mVar, mC, m1, m2, o1, o2, mDrop, mSet, mSets, mUnp, mTup, mLst, mImm, datas, setsO, bindO, bind_ret, bind_fail, must_t, ofO_some, isB, mChain, Nat.beq, List.replicate, il0, il1, il2, il3, il4, il5, il6, il7, il8, il9, il10, il11, il12, il60, setsE, visE, demE, visO, demO, gTupM, gsCons, gsNil, len_T, len_W, len_L, add_N, sub_N, in_T, le_NN, lt_NN, gt_NN, ge_NN, eq_NN, ne_NN, eq_TT, ne_TT, eq_WW, ne_WW, -List.getD_eq_getElem?_getD, oNot, neg_1, dOf_d, isTup_T, isTup_W, list_T, dP], _, seq_nx (sub2_N (F := F) (i := x) (j := y) rfl rfl rfl rfl hx1 (by omega)) (seq_nx (sub2_N (F := putK F x y) (i := y) (j := x) rfl rfl rfl rfl hx2 (by omega)) rfl), _, _, rfl⟩
    · subst e2
      refine (args1 (x := .d (.list ((byN many cs).map dT))) ?_).trans (tup_TT _)
      refine (mLock_list rfl).trans ?_
      unfold byN
      rw [List.map_map]
      refine mLC_all (cs.foldl bothK (List.replicate many [])) (fun ks => .d (dK ks)) (fun ks => dT (srtN ks)) ?_ (by rw [byK_len, List.length_replicate]; omega) ?_
      · simp [fnV, enOf, mSeq, mRet, mRetV, mAnd, mOr, mIf, mIfS, mT, tNotM, tAndM, tOrM, mCall, mArgs, mCons, mNil, mVar, mC, m1, m2, o1, o2, mDrop, mSet, mSets, mUnp, mTup, mLst, mImm, datas, setsO, bindO, bind_ret, bind_fail, must_t, ofO_some, isB, mChain, Nat.beq, List.replicate, il0, il1, il2, il3, il4, il5, il6, il7, il8, il9, il10, il11, il12, il60, setsE, visE, demE, visO, demO, gTupM, gsCons, gsNil, len_T, len_W, len_L, add_N, sub_N, in_T, le_NN, lt_NN, gt_NN, ge_NN, eq_NN, ne_NN, eq_TT, ne_TT, eq_WW, ne_WW, -List.getD_eq_getElem?_getD, oNot, neg_1, dOf_d, isTup_T, isTup_W, list_T, itemsX]
      · intro ks hk
        refine (args1 (x := .d (.list ((srtN ks).map dN))) ?_).trans (tup_N _)
        refine (args1 (x := .d (.list (ks.map dN))) ?_).trans (sortX_N _)
        exact (args1 (x := .d (dK ks)) rfl).trans (list_K ks)
end G

set_option Elab.async false
set_option linter.all false
set_option maxRecDepth 100000
namespace G
open PySem PySem.Spec PyProof.Rows L2
/-! S8: what is drawn. -/
variable {w : List (List Nat)} {l hs : List Nat} {h g : Nat}
theorem bind_draw {α β : Type} {k : Nat} {f : Nat → T α} {g : α → T β} : (T.draw k f).bind g = .draw k fun d => (f d).bind g := rfl
theorem taken_N {k : Nat} (h0 : 0 < k) (h : k < 1073741824) : phTaken [.row, .d (dN k)] = .draw k fun d => .ret (.d (dN d)) := by
  show T.must (decide ((0 : Int) < (k : Int)) && decide ((k : Int) < 1073741824)) _ = _
  rw [decide_eq_true (by omega), decide_eq_true (by omega)]
  rfl
theorem Wp.mono {α : Type} {t : T α} {K K' : α → Prop} (h : Wp t K) (i : ∀ a, K a → K' a) : Wp t K' := ⟨T.wp_mono h.out i⟩
theorem Wp.ret {α : Type} {a : α} {K : α → Prop} (h : K a) : Wp (.ret a) K := ⟨h⟩
theorem Wp.bind {α β : Type} {t : T α} {f : α → T β} {K : β → Prop} (h : Wp t fun a => Wp (f a) K) : Wp (t.bind f) K := ⟨(T.wp_bind _ _ _).mpr (T.wp_mono h.out fun _ h => h.out)⟩
theorem Wp.draw {α : Type} {k : Nat} {f : Nat → T α} {K : α → Prop} (h : ∀ d, d < k → Wp (f d) K) : Wp (.draw k f) K := ⟨fun d hd => (h d hd).out⟩
theorem Wp.eq {α : Type} {t u : T α} {K : α → Prop} (e : t = u) (h : Wp u K) : Wp t K := e ▸ h
theorem fnV_wp {n : Nat} {m : En → T Out} {xs : List W} {K : W → Prop} (h : Wp (m (enOf n xs)) fun o => ∃ x, o = .rt x ∧ K x) : Wp (fnV n m xs) K := by
  refine Wp.bind (h.mono ?_)
  rintro _ ⟨x, rfl, k⟩
  exact ⟨k⟩
theorem seq_wp {m1 m2 : En → T Out} {en : En} {K : Out → Prop} (h : Wp (m1 en) fun o => ∃ en1, o = .nx en1 ∧ Wp (m2 en1) K) : Wp (mSeq m1 m2 en) K := by
  refine Wp.bind (h.mono ?_)
  rintro _ ⟨x, rfl, k⟩
  exact k
theorem seqR_wp {m1 m2 : En → T Out} {en : En} {K : Out → Prop} (h : Wp (m1 en) fun o => ∃ x, o = .rt x ∧ K (.rt x)) : Wp (mSeq m1 m2 en) K := by
  refine Wp.bind (h.mono ?_)
  rintro _ ⟨x, rfl, k⟩
  exact ⟨k⟩
theorem ret_wp {m : En → T W} {en : En} {K : Out → Prop} (h : Wp (m en) fun x => K (.rt x)) : Wp (mRet m en) K := Wp.bind (h.mono fun _ k => ⟨k⟩)
theorem set_wp {m : En → T W} {en : En} {i : Nat} {K : Out → Prop} (h : Wp (m en) fun x => K (.nx (en.set i (some ⟨0, x⟩)))) : Wp (mSet i m en) K := Wp.bind (h.mono fun _ k => ⟨k⟩)
theorem args_wp {m : En → T W} {op : W → T W} {en : En} {K : W → Prop} (h : Wp (m en) fun x => Wp (op x) K) : Wp (mArgs (o1 op) (mCons m mNil) en) K :=
  Wp.bind (Wp.bind (h.mono fun x hx => Wp.bind (Wp.ret (Wp.ret hx))))
theorem lc_wp1 {α : Type} {i : Nat} {me : En → T W} {en : En} {P : D → Prop} (f : α → W) : ∀ (l : List α), (∀ x ∈ l, Wp (me (en.set i (some ⟨1, f x⟩))) fun y => ∃ d, y = .d d ∧ P d) →
    Wp (lcLoop (fun x => .ret [(i, x)]) [i] (fun _ => .ret true) me en (l.map f)) fun ds => ds.length = l.length ∧ ∀ d ∈ ds, P d
  | [], _ => ⟨⟨rfl, fun _ h => nomatch h⟩⟩
  | x :: xs, h => by
    have ih := lc_wp1 f xs fun y hy => h y (List.mem_cons_of_mem _ hy)
    rw [List.map_cons, lcLoop]
    show Wp (T.must (slotsIn [(i, f x)] [i]) _) _
    rw [show slotsIn [(i, f x)] [i] = true by simp [slotsIn]]
    show Wp ((me (en.set i (some ⟨1, f x⟩))).bind _) _
    refine Wp.bind ((h x List.mem_cons_self).mono ?_)
    rintro _ ⟨d, rfl, hd⟩
    show Wp ((lcLoop _ _ _ _ _ _).bind _) _
    refine Wp.bind (ih.mono fun ds hds => Wp.ret ?_)
    refine ⟨by rw [List.length_cons, List.length_cons, hds.1], fun z hz => ?_⟩
    rcases List.mem_cons.mp hz with rfl | hz
    · exact hd
    · exact hds.2 z hz
theorem lc_wp2 {α : Type} {i : Nat} {mt : En → T Bool} {me : En → T W} {en : En} (f : α → W) (g : α → D) : ∀ (l : List α), (∀ x ∈ l, Wp (mt (en.set i (some ⟨1, f x⟩))) fun _ => True) → (∀ x ∈ l, me (en.set i (some ⟨1, f x⟩)) = .ret (.d (g x))) →
    Wp (lcLoop (fun x => .ret [(i, x)]) [i] mt me en (l.map f)) fun ds => ∃ sub : List α, (∀ x ∈ sub, x ∈ l) ∧ sub.length ≤ l.length ∧ ds = sub.map g
  | [], _, _ => Wp.ret (show ∃ sub : List α, (∀ x ∈ sub, x ∈ []) ∧ sub.length ≤ 0 ∧ [] = sub.map g from ⟨[], by simp, by simp, rfl⟩)
  | x :: xs, h, h2 => by
    have ih := lc_wp2 f g xs (fun y hy => h y (List.mem_cons_of_mem _ hy)) (fun y hy => h2 y (List.mem_cons_of_mem _ hy))
    rw [List.map_cons, lcLoop]
    show Wp (T.must (slotsIn [(i, f x)] [i]) _) _
    rw [show slotsIn [(i, f x)] [i] = true by simp [slotsIn]]
    show Wp ((mt (en.set i (some ⟨1, f x⟩))).bind _) _
    refine Wp.bind ((h x List.mem_cons_self).mono fun b _ => ?_)
    cases b with
    | false =>
      refine ih.mono ?_
      rintro ds ⟨sub, h1, h2, h3⟩
      exact ⟨sub, fun y hy => List.mem_cons_of_mem _ (h1 y hy), Nat.le_succ_of_le h2, h3⟩
    | true =>
      show Wp ((me (en.set i (some ⟨1, f x⟩))).bind _) _
      rw [h2 x List.mem_cons_self]
      show Wp ((lcLoop _ _ _ _ _ _).bind _) _
      refine Wp.bind (ih.mono ?_)
      rintro ds ⟨sub, h1, h2, h3⟩
      refine Wp.ret ⟨x :: sub, fun y hy => ?_, Nat.succ_le_succ h2, by rw [h3]; rfl⟩
      rcases List.mem_cons.mp hy with rfl | hy
      · exact List.mem_cons_self
      · exact List.mem_cons_of_mem _ (h1 y hy)
theorem mLC_wp {mi : En → T (List W)} {g : W → T (List (Nat × W))} {vs : List Nat} {mt : En → T Bool} {me : En → T W} {en : En} {K : W → Prop} (h : Wp (mi en) fun xs => xs.length ≤ 1000 ∧ Wp (lcLoop g vs mt me (wipeE en vs) xs) fun ds => K (.d (.list ds))) : Wp (mLC mi g vs mt me en) K := by
  refine Wp.bind (h.mono fun xs hx => ?_)
  rw [show Nat.ble xs.length lim = true from Nat.ble_eq_true_of_le (by unfold lim; omega)]
  exact Wp.bind (hx.2.mono fun _ k => ⟨k⟩)
theorem rows_of {n : Nat} : ∀ {ds : List D}, (∀ d ∈ ds, ∃ k, k < n ∧ d = dN k) → ∃ l : List Nat, ds = l.map dN ∧ Row n l
  | [], _ => ⟨[], rfl, fun _ h => nomatch h⟩
  | d :: ds, h => by
    obtain ⟨k, hk, rfl⟩ := h d List.mem_cons_self
    obtain ⟨l, rfl, hl⟩ := rows_of fun d hd => h d (List.mem_cons_of_mem _ hd)
    refine ⟨k :: l, rfl, fun x hx => ?_⟩
    rcases List.mem_cons.mp hx with rfl | hx
    · exact hk
    · exact hl x hx
theorem ph__law_row_wp {m : Nat} (hw : 1 ≤ w.length) (hw6 : w.length ≤ 1000) (hm : m ≤ 900) : Wp (ph__law_row [.row, .d (dW w), .d (dN m)]) fun r => ∃ l, r = .d (dT l) ∧ l.length ≤ m ∧ Row w.length l := by
  unfold ph__law_row
  refine fnV_wp (seqR_wp (ret_wp (args_wp (mLC_wp ?_))))
  have e : ((mCons (mCall (fun xs => T.must (Nat.beq xs.length 2) (phTaken xs)) (mCons (mVar 0) (mCons (m2 oAdd (mVar 2) (mC (.int (1)))) mNil))) mNil) (enOf 4 [.row, .d (dW w), .d (dN m)])).bind rng1 = .draw (m + 1) fun d => rng1 [.d (dN d)] := by
    simp [fnV, enOf, mSeq, mRet, mRetV, mAnd, mOr, mIf, mIfS, mT, tNotM, tAndM, tOrM, mCall, mArgs, mCons, mNil, mVar, mC, m1, m2, o1, o2, mDrop, mSet, mSets, mUnp, mTup, mLst, mImm, datas, setsO, bindO, bind_ret, bind_fail, must_t, ofO_some, isB, mChain, Nat.beq, List.replicate, il0, il1, il2, il3, il4, il5, il6, il7, il8, il9, il10, il11, il12, il60, setsE, visE, demE, visO, demO, gTupM, gsCons, gsNil, len_T, len_W, len_L, add_N, sub_N, in_T, le_NN, lt_NN, gt_NN, ge_NN, eq_NN, ne_NN, eq_TT, ne_TT, eq_WW, ne_WW, -List.getD_eq_getElem?_getD, oNot, neg_1, dOf_d, isTup_T, isTup_W, list_T, taken_N (show 0 < m + 1 by omega) (show m + 1 < 1073741824 by omega), bind_draw]
  refine Wp.eq e (Wp.draw fun d hd => Wp.eq (rng_N (by omega)) (Wp.ret ?_))
  refine ⟨by rw [List.length_map, List.length_range]; omega, ?_⟩
  refine (lc_wp1 (P := fun d => ∃ k, k < w.length ∧ d = dN k) _ _ fun x hx => ?_).mono ?_
  · have e : mCall (fun xs => T.must (Nat.beq xs.length 2) (phTaken xs)) (mCons (mVar 0) (mCons (mArgs (o1 oLenX) (mCons (mVar 1) mNil)) mNil)) [some ⟨1, .row⟩, some ⟨1, .d (dW w)⟩, some ⟨1, .d (dN m)⟩, some ⟨1, .d (dN x)⟩] = .draw w.length fun d => .ret (.d (dN d)) := by
      simp [fnV, enOf, mSeq, mRet, mRetV, mAnd, mOr, mIf, mIfS, mT, tNotM, tAndM, tOrM, mCall, mArgs, mCons, mNil, mVar, mC, m1, m2, o1, o2, mDrop, mSet, mSets, mUnp, mTup, mLst, mImm, datas, setsO, bindO, bind_ret, bind_fail, must_t, ofO_some, isB, mChain, Nat.beq, List.replicate, il0, il1, il2, il3, il4, il5, il6, il7, il8, il9, il10, il11, il12, il60, setsE, visE, demE, visO, demO, gTupM, gsCons, gsNil, len_T, len_W, len_L, add_N, sub_N, in_T, le_NN, lt_NN, gt_NN, ge_NN, eq_NN, ne_NN, eq_TT, ne_TT, eq_WW, ne_WW, -List.getD_eq_getElem?_getD, oNot, neg_1, dOf_d, isTup_T, isTup_W, list_T, taken_N (show 0 < w.length by omega) (show w.length < 1073741824 by omega)]
    exact Wp.eq e (Wp.draw fun d hd => Wp.ret ⟨_, rfl, d, hd, rfl⟩)
  · rintro ds ⟨hl, hd⟩
    obtain ⟨l, rfl, hr⟩ := rows_of hd
    refine Wp.eq (tup_N l) (Wp.ret ⟨_, rfl, _, rfl, l, rfl, ?_, hr⟩)
    rw [List.length_map, List.length_range] at hl
    omega
theorem ph__law_put_wp {m : Nat} (hw : 1 ≤ w.length) (hw6 : w.length ≤ 1000) (h0 : 0 < m) (hm : m ≤ 900) : Wp (ph__law_put [.row, .d (dW w), .d (dN m)]) fun r => ∃ l, r = .d (dT l) ∧ 1 ≤ l.length ∧ l.length ≤ m ∧ Row w.length l := by
  unfold ph__law_put
  refine fnV_wp (seqR_wp (ret_wp (args_wp (mLC_wp ?_))))
  have e : ((mCons (m2 oAdd (mC (.int (1))) (mCall (fun xs => T.must (Nat.beq xs.length 2) (phTaken xs)) (mCons (mVar 0) (mCons (mVar 2) mNil)))) mNil) (enOf 4 [.row, .d (dW w), .d (dN m)])).bind rng1 = .draw m fun d => rng1 [.d (dN (1 + d))] := by
    simp [fnV, enOf, mSeq, mRet, mRetV, mAnd, mOr, mIf, mIfS, mT, tNotM, tAndM, tOrM, mCall, mArgs, mCons, mNil, mVar, mC, m1, m2, o1, o2, mDrop, mSet, mSets, mUnp, mTup, mLst, mImm, datas, setsO, bindO, bind_ret, bind_fail, must_t, ofO_some, isB, mChain, Nat.beq, List.replicate, il0, il1, il2, il3, il4, il5, il6, il7, il8, il9, il10, il11, il12, il60, setsE, visE, demE, visO, demO, gTupM, gsCons, gsNil, len_T, len_W, len_L, add_N, sub_N, in_T, le_NN, lt_NN, gt_NN, ge_NN, eq_NN, ne_NN, eq_TT, ne_TT, eq_WW, ne_WW, -List.getD_eq_getElem?_getD, oNot, neg_1, dOf_d, isTup_T, isTup_W, list_T, taken_N h0 (show m < 1073741824 by omega), bind_draw]
  refine Wp.eq e (Wp.draw fun d hd => Wp.eq (rng_N (by omega)) (Wp.ret ?_))
  refine ⟨by rw [List.length_map, List.length_range]; omega, ?_⟩
  refine (lc_wp1 (P := fun d => ∃ k, k < w.length ∧ d = dN k) _ _ fun x hx => ?_).mono ?_
  · have e : mCall (fun xs => T.must (Nat.beq xs.length 2) (phTaken xs)) (mCons (mVar 0) (mCons (mArgs (o1 oLenX) (mCons (mVar 1) mNil)) mNil)) [some ⟨1, .row⟩, some ⟨1, .d (dW w)⟩, some ⟨1, .d (dN m)⟩, some ⟨1, .d (dN x)⟩] = .draw w.length fun d => .ret (.d (dN d)) := by
      simp [fnV, enOf, mSeq, mRet, mRetV, mAnd, mOr, mIf, mIfS, mT, tNotM, tAndM, tOrM, mCall, mArgs, mCons, mNil, mVar, mC, m1, m2, o1, o2, mDrop, mSet, mSets, mUnp, mTup, mLst, mImm, datas, setsO, bindO, bind_ret, bind_fail, must_t, ofO_some, isB, mChain, Nat.beq, List.replicate, il0, il1, il2, il3, il4, il5, il6, il7, il8, il9, il10, il11, il12, il60, setsE, visE, demE, visO, demO, gTupM, gsCons, gsNil, len_T, len_W, len_L, add_N, sub_N, in_T, le_NN, lt_NN, gt_NN, ge_NN, eq_NN, ne_NN, eq_TT, ne_TT, eq_WW, ne_WW, -List.getD_eq_getElem?_getD, oNot, neg_1, dOf_d, isTup_T, isTup_W, list_T, taken_N (show 0 < w.length by omega) (show w.length < 1073741824 by omega)]
    exact Wp.eq e (Wp.draw fun d hd => Wp.ret ⟨_, rfl, d, hd, rfl⟩)
  · rintro ds ⟨hl, hd⟩
    obtain ⟨l, rfl, hr⟩ := rows_of hd
    refine Wp.eq (tup_N l) (Wp.ret ⟨_, rfl, _, rfl, l, rfl, ?_, ?_, hr⟩)
    · rw [List.length_map, List.length_range] at hl; omega
    · rw [List.length_map, List.length_range] at hl; omega
theorem for_wp {α : Type} {g : W → T (List (Nat × W))} {mb : En → T Out} (f : α → W) (st : α → List (Nat × W)) (P : List α → En → Prop) (l : List α) : ∀ (suf pre : List α) (en : En), l = pre ++ suf → P pre en → (∀ (p q : List α) (x : α), l = p ++ x :: q → ∀ en, P p en → g (f x) = .ret (st x) ∧ Wp (mb (setsE en (st x))) fun o => ∃ en', o = .nx en' ∧ P (p ++ [x]) en') →
    Wp (fLoop g mb (suf.map f) en) fun o => ∃ en', o = .nx en' ∧ P l en'
  | [], pre, en, e, h0, _ => Wp.ret ⟨en, rfl, by rw [List.append_nil] at e; rw [e]; exact h0⟩
  | x :: xs, pre, en, e, h0, hs => by
    obtain ⟨h1, h2⟩ := hs pre xs x e en h0
    rw [List.map_cons, fLoop, h1]
    show Wp ((mb (setsE en (st x))).bind _) _
    refine Wp.bind (h2.mono ?_)
    rintro _ ⟨en', rfl, h3⟩
    exact for_wp f st P l xs (pre ++ [x]) en' (by rw [e]; simp) h3 hs
theorem mFor0_wp {α : Type} {mi : En → T (List W)} {g : W → T (List (Nat × W))} {mb : En → T Out} {en : En} {K : Out → Prop} (l : List α) (f : α → W) (st : α → List (Nat × W)) (P : List α → En → Prop) (hi : mi en = .ret (l.map f)) (h0 : P [] en)
    (hs : ∀ (p q : List α) (x : α), l = p ++ x :: q → ∀ en, P p en → g (f x) = .ret (st x) ∧ Wp (mb (setsE en (st x))) fun o => ∃ en', o = .nx en' ∧ P (p ++ [x]) en') (k : ∀ en', P l en' → K (.nx en')) : Wp (mFor0 mi g mb en) K := by
  unfold mFor0
  rw [hi]
  refine Wp.mono (for_wp f st P l l [] _ rfl h0 hs) ?_
  rintro _ ⟨en', rfl, h⟩
  exact k en' h
theorem add_LL {α : Type} {f : α → D} (h : ∀ x, imm (f x) = true) {a b : List α} (hl : a.length + b.length ≤ lim) : oAdd (.d (.list (a.map f))) (.d (.list (b.map f))) = .ret (.d (.list ((a ++ b).map f))) := by
  show T.must (immAll (a.map f) && immAll (b.map f) && Nat.ble ((a.map f).length + (b.map f).length) lim) _ = _
  rw [immAll_map h, immAll_map h, List.length_map, List.length_map, Nat.ble_eq_true_of_le hl, List.map_append]; rfl
theorem rng2_N {a b : Nat} (ha : a ≤ 100000) (hb : b ≤ 100000) : rng2 [.d (dN a), .d (dN b)] = .ret ((List.range (b - a)).map fun i => W.d (dN (a + i))) := by
  show T.must (decide ((b : Int) ≤ 100000) && decide (-100000 ≤ (b : Int)) && decide ((a : Int) ≤ 100000) && decide (-100000 ≤ (a : Int))) (.ret (rangeW a ((b : Int) - (a : Int)).toNat)) = _
  rw [decide_eq_true (by omega), decide_eq_true (by omega), decide_eq_true (by omega), decide_eq_true (by omega)]
  show T.ret (rangeW a ((b : Int) - (a : Int)).toNat) = _
  unfold rangeW
  rw [show ((b : Int) - (a : Int)).toNat = b - a by omega]
  congr 1
theorem ph__law_web_wp {m : Nat} (h0 : 0 < m) (h6 : m ≤ 6) : Wp (ph__law_web [.row, .d (dN m)]) fun r => ∃ w, r = .d (dW w) ∧ Web w ∧ w.length ≤ m := by
  unfold ph__law_web
  refine fnV_wp (seq_wp ?_)
  have e1 : mSets [2, 3] (mCons (m2 oAdd (mC (.int (1))) (mCall (fun xs => T.must (Nat.beq xs.length 2) (phTaken xs)) (mCons (mVar 0) (mCons (mVar 1) mNil)))) (mCons (mLst mNil) mNil)) (enOf 7 [.row, .d (dN m)]) = .draw m fun d => .ret (.nx [some ⟨1, .row⟩, some ⟨1, .d (dN m)⟩, some ⟨0, .d (dN (1 + d))⟩, some ⟨0, .d (.list [])⟩, none, none, none]) := by
    simp [fnV, enOf, mSeq, mRet, mRetV, mAnd, mOr, mIf, mIfS, mT, tNotM, tAndM, tOrM, mCall, mArgs, mCons, mNil, mVar, mC, m1, m2, o1, o2, mDrop, mSet, mSets, mUnp, mTup, mLst, mImm, datas, setsO, bindO, bind_ret, bind_fail, must_t, ofO_some, isB, mChain, Nat.beq, List.replicate, il0, il1, il2, il3, il4, il5, il6, il7, il8, il9, il10, il11, il12, il60, setsE, visE, demE, visO, demO, gTupM, gsCons, gsNil, len_T, len_W, len_L, add_N, sub_N, in_T, le_NN, lt_NN, gt_NN, ge_NN, eq_NN, ne_NN, eq_TT, ne_TT, eq_WW, ne_WW, -List.getD_eq_getElem?_getD, oNot, neg_1, dOf_d, isTup_T, isTup_W, list_T, taken_N h0 (show m < 1073741824 by omega), bind_draw, must_le (show 0 ≤ lim by decide)]
  refine Wp.eq e1 (Wp.draw fun d hd => Wp.ret ⟨_, rfl, seq_wp ?_⟩)
  have e2 : mSet 4 (m2 oAdd (mC (.int (2))) (mCall (fun xs => T.must (Nat.beq xs.length 2) (phTaken xs)) (mCons (mVar 0) (mCons (mC (.int (3))) mNil)))) [some ⟨1, .row⟩, some ⟨1, .d (dN m)⟩, some ⟨0, .d (dN (1 + d))⟩, some ⟨0, .d (.list [])⟩, none, none, none] = .draw 3 fun r => .ret (.nx [some ⟨1, .row⟩, some ⟨1, .d (dN m)⟩, some ⟨0, .d (dN (1 + d))⟩, some ⟨0, .d (.list [])⟩, some ⟨0, .d (dN (2 + r))⟩, none, none]) := by
    simp [fnV, enOf, mSeq, mRet, mRetV, mAnd, mOr, mIf, mIfS, mT, tNotM, tAndM, tOrM, mCall, mArgs, mCons, mNil, mVar, mC, m1, m2, o1, o2, mDrop, mSet, mSets, mUnp, mTup, mLst, mImm, datas, setsO, bindO, bind_ret, bind_fail, must_t, ofO_some, isB, mChain, Nat.beq, List.replicate, il0, il1, il2, il3, il4, il5, il6, il7, il8, il9, il10, il11, il12, il60, setsE, visE, demE, visO, demO, gTupM, gsCons, gsNil, len_T, len_W, len_L, add_N, sub_N, in_T, le_NN, lt_NN, gt_NN, ge_NN, eq_NN, ne_NN, eq_TT, ne_TT, eq_WW, ne_WW, -List.getD_eq_getElem?_getD, oNot, neg_1, dOf_d, isTup_T, isTup_W, list_T, taken_N (show 0 < 3 by omega) (show 3 < 1073741824 by omega), bind_draw]
  refine Wp.eq e2 (Wp.draw fun r hr => Wp.ret ⟨_, rfl, seq_wp ?_⟩)
  refine mFor0_wp (List.range (1 + d)) (fun n => .d (dN n)) (fun n => [(5, .d (dN n))]) (fun p en => ∃ (cs : List (Nat × Nat)) (a : Option Slot), Cpl (1 + d) cs ∧ cs.length ≤ 6 * p.length ∧ en = [some ⟨1, .row⟩, some ⟨1, .d (dN m)⟩, some ⟨0, .d (dN (1 + d))⟩, some ⟨0, .d (.list (cs.map dP))⟩, some ⟨0, .d (dN (2 + r))⟩, a, none]) ?_ ?_ ?_ ?_
  · simp [fnV, enOf, mSeq, mRet, mRetV, mAnd, mOr, mIf, mIfS, mT, tNotM, tAndM, tOrM, mCall, mArgs, mCons, mNil, mVar, mC, m1, m2, o1, o2, mDrop, mSet, mSets, mUnp, mTup, mLst, mImm, datas, setsO, bindO, bind_ret, bind_fail, must_t, ofO_some, isB, mChain, Nat.beq, List.replicate, il0, il1, il2, il3, il4, il5, il6, il7, il8, il9, il10, il11, il12, il60, setsE, visE, demE, visO, demO, gTupM, gsCons, gsNil, len_T, len_W, len_L, add_N, sub_N, in_T, le_NN, lt_NN, gt_NN, ge_NN, eq_NN, ne_NN, eq_TT, ne_TT, eq_WW, ne_WW, -List.getD_eq_getElem?_getD, oNot, neg_1, dOf_d, isTup_T, isTup_W, list_T, rng_N (show 1 + d ≤ 100000 by omega)]
  · exact ⟨[], _, fun _ h => (nomatch h), Nat.le_refl _, rfl⟩
  · rintro p q x e en ⟨cs, a, hc, hl, rfl⟩
    have hx := range_lt e
    have hp := range_len e
    refine ⟨rfl, seq_wp (set_wp ?_)⟩
    show Wp ((mVar 3 [some ⟨1, .row⟩, some ⟨1, .d (dN m)⟩, some ⟨0, .d (dN (1 + d))⟩, some ⟨0, .d (.list (cs.map dP))⟩, some ⟨0, .d (dN (2 + r))⟩, some ⟨1, .d (dN x)⟩, none]).bind _) _
    refine Wp.bind (Wp.ret (Wp.bind (mLC_wp ?_)))
    refine Wp.eq (u := .ret ((List.range (1 + d - (x + 1))).map fun i => W.d (dN (x + 1 + i)))) (by simp [fnV, enOf, mSeq, mRet, mRetV, mAnd, mOr, mIf, mIfS, mT, tNotM, tAndM, tOrM, mCall, mArgs, mCons, mNil, mVar, mC, m1, m2, o1, o2, mDrop, mSet, mSets, mUnp, mTup, mLst, mImm, datas, setsO, bindO, bind_ret, bind_fail, must_t, ofO_some, isB, mChain, Nat.beq, List.replicate, il0, il1, il2, il3, il4, il5, il6, il7, il8, il9, il10, il11, il12, il60, setsE, visE, demE, visO, demO, gTupM, gsCons, gsNil, len_T, len_W, len_L, add_N, sub_N, in_T, le_NN, lt_NN, gt_NN, ge_NN, eq_NN, ne_NN, eq_TT, ne_TT, eq_WW, ne_WW, -List.getD_eq_getElem?_getD, oNot, neg_1, dOf_d, isTup_T, isTup_W, list_T, rng2_N (show x + 1 ≤ 100000 by omega) (show 1 + d ≤ 100000 by omega)]) (Wp.ret ⟨by rw [List.length_map, List.length_range]; omega, ?_⟩)
    refine (lc_wp2 (fun i => W.d (dN (x + 1 + i))) (fun i => dP (x, x + 1 + i)) _ ?_ ?_).mono ?_
    · intro i hi
      refine Wp.eq (u := .draw (2 + r) fun t => .ret (decide (t = 0))) ?_ (Wp.draw fun _ _ => Wp.ret trivial)
      simp [fnV, enOf, mSeq, mRet, mRetV, mAnd, mOr, mIf, mIfS, mT, tNotM, tAndM, tOrM, mCall, mArgs, mCons, mNil, mVar, mC, m1, m2, o1, o2, mDrop, mSet, mSets, mUnp, mTup, mLst, mImm, datas, setsO, bindO, bind_ret, bind_fail, must_t, ofO_some, isB, mChain, Nat.beq, List.replicate, il0, il1, il2, il3, il4, il5, il6, il7, il8, il9, il10, il11, il12, il60, setsE, visE, demE, visO, demO, gTupM, gsCons, gsNil, len_T, len_W, len_L, add_N, sub_N, in_T, le_NN, lt_NN, gt_NN, ge_NN, eq_NN, ne_NN, eq_TT, ne_TT, eq_WW, ne_WW, -List.getD_eq_getElem?_getD, oNot, neg_1, dOf_d, isTup_T, isTup_W, list_T, taken_N (show 0 < 2 + r by omega) (show 2 + r < 1073741824 by omega), bind_draw, wipeE]
    · intro i hi
      simp [fnV, enOf, mSeq, mRet, mRetV, mAnd, mOr, mIf, mIfS, mT, tNotM, tAndM, tOrM, mCall, mArgs, mCons, mNil, mVar, mC, m1, m2, o1, o2, mDrop, mSet, mSets, mUnp, mTup, mLst, mImm, datas, setsO, bindO, bind_ret, bind_fail, must_t, ofO_some, isB, mChain, Nat.beq, List.replicate, il0, il1, il2, il3, il4, il5, il6, il7, il8, il9, il10, il11, il12, il60, setsE, visE, demE, visO, demO, gTupM, gsCons, gsNil, len_T, len_W, len_L, add_N, sub_N, in_T, le_NN, lt_NN, gt_NN, ge_NN, eq_NN, ne_NN, eq_TT, ne_TT, eq_WW, ne_WW, -List.getD_eq_getElem?_getD, oNot, neg_1, dOf_d, isTup_T, isTup_W, list_T, must_le (show 2 ≤ lim by decide), wipeE, dP, W.imm, imm, immAll, imm_dN]
    · rintro ds ⟨sub, h1, h2, rfl⟩
      have e3 : sub.map (fun i => dP (x, x + 1 + i)) = (sub.map fun i => (x, x + 1 + i)).map dP := by rw [List.map_map]; rfl
      rw [e3]
      rw [List.length_range] at h2
      refine Wp.eq (add_LL (f := dP) (fun _ => rfl) (by rw [List.length_map]; have : 100 ≤ lim := (by decide); omega)) (Wp.ret ⟨_, rfl, Wp.ret ⟨_, rfl, cs ++ sub.map fun i => (x, x + 1 + i), _, fun p hp => ?_, ?_, rfl⟩⟩)
      · rcases List.mem_append.mp hp with hp | hp
        · exact hc p hp
        · obtain ⟨i, hi, rfl⟩ := List.mem_map.mp hp
          have := List.mem_range.mp (h1 i hi)
          exact ⟨by show x < x + 1 + i; omega, by show x + 1 + i < 1 + d; omega⟩
      · rw [List.length_append, List.length_map, List.length_append, List.length_singleton]; omega
  · rintro en' ⟨cs, a, hc, hl, rfl⟩
    rw [List.length_range] at hl
    refine ⟨_, rfl, seqR_wp (ret_wp ?_)⟩
    refine Wp.eq (u := .ret (.d (dW (byN (1 + d) cs)))) (by simp [fnV, enOf, mSeq, mRet, mRetV, mAnd, mOr, mIf, mIfS, mT, tNotM, tAndM, tOrM, mCall, mArgs, mCons, mNil, mVar, mC, m1, m2, o1, o2, mDrop, mSet, mSets, mUnp, mTup, mLst, mImm, datas, setsO, bindO, bind_ret, bind_fail, must_t, ofO_some, isB, mChain, Nat.beq, List.replicate, il0, il1, il2, il3, il4, il5, il6, il7, il8, il9, il10, il11, il12, il60, setsE, visE, demE, visO, demO, gTupM, gsCons, gsNil, len_T, len_W, len_L, add_N, sub_N, in_T, le_NN, lt_NN, gt_NN, ge_NN, eq_NN, ne_NN, eq_TT, ne_TT, eq_WW, ne_WW, -List.getD_eq_getElem?_getD, oNot, neg_1, dOf_d, isTup_T, isTup_W, list_T, ph__law_by_eq (show 1 + d ≤ 6 by omega) hc (show cs.length ≤ 1000 by omega)]) (Wp.ret ⟨_, rfl, _, rfl, _, rfl, byN_web (by omega) (by omega) hc, by rw [byN_len]; omega⟩)
end G

set_option Elab.async false
set_option linter.all false
set_option maxRecDepth 100000
namespace G
open PySem PySem.Spec PyProof.Rows L2
/-! M76: plain facts of webs and stories. -/
variable {w : List (List Nat)} {l hs : List Nat} {h g : Nat}
theorem filt_sum {β : Type} (p : β → Bool) : ∀ M : List β, (M.filter p).length = (M.map fun b => if p b = true then 1 else 0).sum
  | [] => rfl
  | b :: M => by
    rw [List.map_cons, List.sum_cons, ← filt_sum p M]
    by_cases e : p b = true
    · rw [List.filter_cons_of_pos e, if_pos e, List.length_cons]; omega
    · rw [List.filter_cons_of_neg e, if_neg e]; omega
theorem sum_add {β : Type} (f f' : β → Nat) : ∀ M : List β, (M.map fun b => f b + f' b).sum = (M.map f).sum + (M.map f').sum
  | [] => rfl
  | b :: M => by
    rw [List.map_cons, List.sum_cons, sum_add f f' M, List.map_cons, List.sum_cons, List.map_cons, List.sum_cons]; omega
/-- counted by rows as by columns -/
theorem sum_swap {α β : Type} (c : α → β → Bool) (M : List β) : ∀ L : List α, (L.map fun a => (M.filter (c a)).length).sum = (M.map fun b => (L.filter fun a => c a b).length).sum
  | [] => by
    rw [List.map_nil]
    induction M with
    | nil => rfl
    | cons b M ih => rw [List.map_cons, List.sum_cons, ← ih]; rfl
  | a :: L => by
    rw [List.map_cons, List.sum_cons, sum_swap c M L, filt_sum (c a) M, ← sum_add]
    congr 1
    refine List.map_congr_left fun b _ => ?_
    by_cases e : c a b = true
    · rw [if_pos e, List.filter_cons_of_pos (p := fun a => c a b) e, List.length_cons]; omega
    · rw [if_neg e, List.filter_cons_of_neg (p := fun a => c a b) e]; omega
/-- rising rows with the same members are the same -/
theorem up_ext : ∀ {a b : List Nat}, a.Pairwise (· < ·) → b.Pairwise (· < ·) → (∀ x, x ∈ a ↔ x ∈ b) → a = b
  | [], [], _, _, _ => rfl
  | [], y :: ys, _, _, h => absurd ((h y).mpr List.mem_cons_self) (by simp)
  | x :: xs, [], _, _, h => absurd ((h x).mp List.mem_cons_self) (by simp)
  | x :: xs, y :: ys, ha, hb, h => by
    obtain ⟨a1, a2⟩ := List.pairwise_cons.mp ha
    obtain ⟨b1, b2⟩ := List.pairwise_cons.mp hb
    have e : x = y := by
      rcases List.mem_cons.mp ((h x).mp List.mem_cons_self) with e | hx
      · exact e
      · rcases List.mem_cons.mp ((h y).mpr List.mem_cons_self) with e | hy
        · exact e.symm
        · have := b1 x hx
          have := a1 y hy
          omega
    subst e
    rw [up_ext a2 b2 fun z => ?_]
    constructor
    · intro hz
      rcases List.mem_cons.mp ((h z).mp (List.mem_cons_of_mem _ hz)) with e | hz'
      · have := a1 z hz; omega
      · exact hz'
    · intro hz
      rcases List.mem_cons.mp ((h z).mpr (List.mem_cons_of_mem _ hz)) with e | hz'
      · have := b1 z hz; omega
      · exact hz'
theorem range_up (n : Nat) : (List.range n).Pairwise (· < ·) := List.pairwise_lt_range
/-- the neighbours of a house -/
theorem near_get (hh : h < w.length) : w[h]? = some (w.getD h []) := by rw [List.getD_eq_getElem?_getD, List.getElem?_eq_getElem hh]; rfl
theorem near_up (ok : Web w) (hh : h < w.length) : (w.getD h []).Pairwise (· < ·) := ok.up h _ (near_get hh)
theorem near_lt (ok : Web w) (hh : h < w.length) {x : Nat} (hx : x ∈ w.getD h []) : x < w.length := ok.within h _ (near_get hh) x hx
theorem near_own (ok : Web w) (hh : h < w.length) : h ∉ w.getD h [] := ok.own h _ (near_get hh)
theorem near_both (ok : Web w) (hh : h < w.length) {x : Nat} (hx : x ∈ w.getD h []) : h ∈ w.getD x [] := by
  obtain ⟨far, h1, h2⟩ := ok.both h _ (near_get hh) x hx
  rw [List.getD_eq_getElem?_getD, h1]; exact h2
theorem near_filt (ok : Web w) (hh : h < w.length) (p : Nat → Bool) : (w.getD h []).filter p = (List.range w.length).filter fun j => decide (j ∈ w.getD h []) && p j := by
  refine up_ext ((near_up ok hh).filter _) ((range_up _).filter _) fun x => ?_
  rw [List.mem_filter, List.mem_filter, List.mem_range, Bool.and_eq_true, decide_eq_true_eq]
  exact ⟨fun ⟨h1, h2⟩ => ⟨near_lt ok hh h1, h1, h2⟩, fun ⟨_, h1, h2⟩ => ⟨h1, h2⟩⟩
/-- each road is counted at both its ends -/
theorem handshake (ok : Web w) : ((List.range w.length).map fun h => (w.getD h []).length).sum = 2 * ((List.range w.length).map fun h => ((w.getD h []).filter fun j => decide (h < j)).length).sum := by
  have e1 : ((List.range w.length).map fun h => (w.getD h []).length).sum = ((List.range w.length).map fun h => ((w.getD h []).filter fun j => decide (h < j)).length + ((w.getD h []).filter fun j => decide (j < h)).length).sum := by
    congr 1
    refine List.map_congr_left fun i hi => ?_
    rw [List.mem_range] at hi
    have : (w.getD i []).filter (fun j => decide (j < i)) = (w.getD i []).filter fun j => !decide (i < j) := List.filter_congr fun j hj => by
      have : j ≠ i := fun e => near_own ok hi (e ▸ hj)
      rw [← decide_not]
      exact decide_eq_decide.mpr (by omega)
    rw [this]
    have h2 : ∀ m : List Nat, m.length = (m.filter fun j => decide (i < j)).length + (m.filter fun j => !decide (i < j)).length := by
      intro m
      induction m with
      | nil => rfl
      | cons y ys ih =>
        by_cases e : i < y
        · rw [List.filter_cons_of_pos (by simpa using e), List.filter_cons_of_neg (by simpa using e), List.length_cons, List.length_cons]; omega
        · rw [List.filter_cons_of_neg (by simpa using e), List.filter_cons_of_pos (by simpa using e), List.length_cons, List.length_cons]; omega
    exact h2 _
  have e2 : ((List.range w.length).map fun h => ((w.getD h []).filter fun j => decide (j < h)).length).sum = ((List.range w.length).map fun h => ((w.getD h []).filter fun j => decide (h < j)).length).sum := by
    have a1 : ((List.range w.length).map fun h => ((w.getD h []).filter fun j => decide (j < h)).length) = (List.range w.length).map fun h => ((List.range w.length).filter fun j => decide (j ∈ w.getD h []) && decide (j < h)).length := List.map_congr_left fun i hi => by rw [near_filt ok (List.mem_range.mp hi)]
    have a2 : ((List.range w.length).map fun h => ((w.getD h []).filter fun j => decide (h < j)).length) = (List.range w.length).map fun h => ((List.range w.length).filter fun j => decide (j ∈ w.getD h []) && decide (h < j)).length := List.map_congr_left fun i hi => by rw [near_filt ok (List.mem_range.mp hi)]
    rw [a1, a2, sum_swap (fun h j => decide (j ∈ w.getD h []) && decide (j < h))]
    congr 1
    refine List.map_congr_left fun i hi => ?_
    rw [List.mem_range] at hi
    congr 1
    refine List.filter_congr fun j hj => ?_
    rw [List.mem_range] at hj
    congr 1
    exact decide_eq_decide.mpr ⟨fun h => near_both ok hj h, fun h => near_both ok hi h⟩
  rw [e1, sum_add, e2]; omega
theorem movers_all (ok : Web w) : (moversN w (List.range w.length)).length = (w.filter fun near => !decide (near = [])).length := by
  have e : w = (List.range w.length).map fun h => w.getD h [] := by
    apply List.ext_getElem?
    intro i
    rw [List.getElem?_map]
    by_cases hi : i < w.length
    · rw [List.getElem?_range hi]; exact near_get hi
    · rw [show (List.range w.length)[i]? = none by rw [List.getElem?_eq_none_iff, List.length_range]; omega]
      show w[i]? = none
      rw [List.getElem?_eq_none_iff]; omega
  conv => rhs; rw [e]
  rw [List.filter_map, List.length_map]
  unfold moversN
  congr 1
  refine List.filter_congr fun i hi => ?_
  rw [List.mem_range] at hi
  show _ = !decide (w.getD i [] = [])
  cases hw : w.getD i [] with
  | nil => simp
  | cons x xs =>
    have hx : x ∈ w.getD i [] := by rw [hw]; exact List.mem_cons_self
    rw [decide_eq_false (by simp)]
    refine List.any_eq_true.mpr ⟨x, List.mem_range.mpr (near_lt ok hi hx), ?_⟩
    exact decide_eq_true List.mem_cons_self
/-! stories -/
theorem stN_zero : stN w l hs 0 = l := rfl
theorem stN_succ {k : Nat} (hk : k < hs.length) : stN w l hs (k + 1) = callN w (stN w l hs k) (hs.getD k 0) := by
  unfold stN runN
  rw [List.take_succ, List.foldl_append]
  rw [List.getD_eq_getElem?_getD, List.getElem?_eq_getElem hk]; rfl
theorem stN_full : stN w l hs hs.length = runN w l hs := by unfold stN; rw [List.take_length]
theorem getD_row {n : Nat} {a : List Nat} (hr : Row n a) (hg : g < a.length) : a.getD g 0 < n := by
  rw [List.getD_eq_getElem?_getD, List.getElem?_eq_getElem hg]
  exact hr _ (List.getElem_mem hg)
theorem ca_at (c : Ca w hs) {k : Nat} (hk : k < hs.length) : hs.getD k 0 < w.length := getD_row c.row hk
theorem stN_row (p : Pl w l) (c : Ca w hs) (k : Nat) : Row w.length (stN w l hs k) := runN_row (fun x hx => c.row x (List.mem_of_mem_take hx)) p.row
theorem st_lt (p : Pl w l) (c : Ca w hs) (k : Nat) (hg : g < l.length) : (stN w l hs k).getD g 0 < w.length := getD_row (stN_row p c k) (by rw [stN_len]; exact hg)
theorem map_getD (f : Nat → Nat) {a : List Nat} (hg : g < a.length) : (a.map f).getD g 0 = f (a.getD g 0) := by
  rw [show a.getD g 0 = a[g] by rw [List.getD_eq_getElem?_getD, List.getElem?_eq_getElem hg]; rfl, List.getD_eq_getElem?_getD, List.getElem?_map, List.getElem?_eq_getElem hg]
  rfl
theorem callN_getD {a : List Nat} (hh : h < w.length) (hg : g < a.length) : (callN w a h).getD g 0 = if a.getD g 0 ∈ w.getD h [] then h else a.getD g 0 := by
  unfold callN
  rw [near_get hh]
  exact map_getD _ hg
/-- the k-th call draws g if g is a neighbour of its house -/
theorem moved_iff (p : Pl w l) (c : Ca w hs) {k : Nat} (hk : k < hs.length) (hg : g < l.length) : (stN w l hs k).getD g 0 ≠ (stN w l hs (k + 1)).getD g 0 ↔ (stN w l hs k).getD g 0 ∈ w.getD (hs.getD k 0) [] := by
  have hh := ca_at c hk
  rw [stN_succ hk, callN_getD hh (by rw [stN_len]; exact hg)]
  by_cases e : (stN w l hs k).getD g 0 ∈ w.getD (hs.getD k 0) []
  · rw [if_pos e]
    exact ⟨fun _ => e, fun _ z => near_own p.web hh (by rw [z] at e; exact e)⟩
  · rw [if_neg e]
    exact ⟨fun z => absurd rfl z, fun z => absurd z e⟩
theorem moved_to (p : Pl w l) (c : Ca w hs) {k : Nat} (hk : k < hs.length) (hg : g < l.length) (hm : (stN w l hs k).getD g 0 ≠ (stN w l hs (k + 1)).getD g 0) : (stN w l hs (k + 1)).getD g 0 = hs.getD k 0 := by
  have := (moved_iff p c hk hg).mp hm
  rw [stN_succ hk, callN_getD (ca_at c hk) (by rw [stN_len]; exact hg), if_pos this]
theorem gone_eq (p : Pl w l) (c : Ca w hs) {k : Nat} (hk : k < hs.length) : goneN w l hs k = (List.range l.length).filter fun g => decide ((stN w l hs k).getD g 0 ∈ w.getD (hs.getD k 0) []) := by
  unfold goneN
  refine List.filter_congr fun g hg => ?_
  rw [← decide_not]
  exact decide_eq_decide.mpr (moved_iff p c hk (List.mem_range.mp hg))
theorem gone_mem {k : Nat} : g ∈ goneN w l hs k ↔ g < l.length ∧ (stN w l hs k).getD g 0 ≠ (stN w l hs (k + 1)).getD g 0 := by
  unfold goneN
  rw [List.mem_filter, List.mem_range, ← decide_not, decide_eq_true_eq]
/-- (1) -/
theorem moves_sum : ((List.range l.length).map (movesN w l hs (List.range hs.length))).sum = (((List.range hs.length).map (goneN w l hs)).map List.length).sum := by
  rw [List.map_map]
  exact sum_swap (fun g k => !decide ((stN w l hs k).getD g 0 = (stN w l hs (k + 1)).getD g 0)) (List.range hs.length) (List.range l.length)
/-- (4a) -/
theorem moves_gone (hg : g < l.length) : movesN w l hs (List.range hs.length) g = (((List.range hs.length).map (goneN w l hs)).filter fun s => decide (g ∈ s)).length := by
  rw [List.filter_map, List.length_map]
  unfold movesN
  congr 1
  refine List.filter_congr fun k _ => ?_
  show _ = decide (g ∈ goneN w l hs k)
  rw [← decide_not]
  exact decide_eq_decide.mpr ⟨fun z => gone_mem.mpr ⟨hg, z⟩, fun z => (gone_mem.mp z).2⟩
/-! ways -/
/-- the story's first rows -/
def wayK (w : List (List Nat)) (l hs : List Nat) (g k : Nat) : List Nat := (((List.range (k + 1)).map (stN w l hs)).foldl (wayStep g) [l.getD g 0])
theorem wayK_zero : wayK w l hs g 0 = [l.getD g 0] := by
  show wayStep g [l.getD g 0] l = _
  unfold wayStep
  rw [if_pos (show l.getD g 0 = [l.getD g 0].getLastD 0 from rfl)]
theorem wayK_succ (k : Nat) : wayK w l hs g (k + 1) = wayStep g (wayK w l hs g k) (stN w l hs (k + 1)) := by
  unfold wayK
  rw [List.range_succ, List.map_append, List.foldl_append]; rfl
theorem wayN_eq : wayN w l hs g = wayK w l hs g hs.length := rfl
theorem getLastD_app (a : List Nat) (x : Nat) : (a ++ [x]).getLastD 0 = x := by
  rw [List.getLastD_eq_getLast?, List.getLast?_append]; rfl
structure WayOk (w : List (List Nat)) (l hs : List Nat) (g k : Nat) : Prop where
  ne : wayK w l hs g k ≠ []
  last : (wayK w l hs g k).getLastD 0 = (stN w l hs k).getD g 0
  len : (wayK w l hs g k).length = 1 + movesN w l hs (List.range k) g
  mem : ∀ x, x ∈ wayK w l hs g k ↔ ∃ i, i ≤ k ∧ x = (stN w l hs i).getD g 0
  tail : ∀ x ∈ (wayK w l hs g k).tail, x ∈ hs
theorem way_ok (p : Pl w l) (c : Ca w hs) (hg : g < l.length) : ∀ k, k ≤ hs.length → WayOk w l hs g k
  | 0, _ => by
    refine ⟨?_, ?_, ?_, fun x => ?_, ?_⟩
    · rw [wayK_zero]; simp
    · rw [wayK_zero]; rfl
    · rw [wayK_zero]; rfl
    · rw [wayK_zero, List.mem_singleton]
      exact ⟨fun e => ⟨0, Nat.le_refl _, e⟩, fun ⟨i, hi, e⟩ => by rw [e, show i = 0 by omega]; rfl⟩
    · rw [wayK_zero]; exact fun _ h => nomatch h
  | k + 1, hk => by
    obtain ⟨i1, i2, i3, i4, i5⟩ := way_ok p c hg k (by omega)
    have hs' : wayK w l hs g (k + 1) = if (stN w l hs k).getD g 0 = (stN w l hs (k + 1)).getD g 0 then wayK w l hs g k else wayK w l hs g k ++ [(stN w l hs (k + 1)).getD g 0] := by
      rw [wayK_succ]
      unfold wayStep
      rw [i2]
      by_cases e : (stN w l hs k).getD g 0 = (stN w l hs (k + 1)).getD g 0
      · rw [if_pos e, if_pos e.symm]
      · rw [if_neg e, if_neg (Ne.symm e)]
    have hm : movesN w l hs (List.range (k + 1)) g = movesN w l hs (List.range k) g + if (stN w l hs k).getD g 0 = (stN w l hs (k + 1)).getD g 0 then 0 else 1 := by rw [List.range_succ, movesN_add]
    by_cases e : (stN w l hs k).getD g 0 = (stN w l hs (k + 1)).getD g 0
    · rw [if_pos e] at hs' hm
      refine ⟨by rw [hs']; exact i1, by rw [hs', i2, e], by rw [hs', hm, i3]; omega, fun x => ?_, by rw [hs']; exact i5⟩
      rw [hs', i4]
      constructor
      · rintro ⟨i, hi, z⟩; exact ⟨i, by omega, z⟩
      · rintro ⟨i, hi, z⟩
        by_cases h2 : i = k + 1
        · subst h2; exact ⟨k, Nat.le_refl _, by rw [z, e]⟩
        · exact ⟨i, by omega, z⟩
    · rw [if_neg e] at hs' hm
      refine ⟨by rw [hs']; simp, by rw [hs', getLastD_app], by rw [hs', List.length_append, hm, i3]; simp; omega, fun x => ?_, fun x hx => ?_⟩
      · rw [hs', List.mem_append, i4, List.mem_singleton]
        constructor
        · rintro (⟨i, hi, z⟩ | z)
          · exact ⟨i, by omega, z⟩
          · exact ⟨k + 1, Nat.le_refl _, z⟩
        · rintro ⟨i, hi, z⟩
          by_cases h2 : i = k + 1
          · subst h2; exact .inr z
          · exact .inl ⟨i, by omega, z⟩
      · rw [hs', List.tail_append_of_ne_nil i1] at hx
        rcases List.mem_append.mp hx with hx | hx
        · exact i5 x hx
        · rw [List.mem_singleton.mp hx, moved_to p c (by omega) hg e, List.getD_eq_getElem?_getD, List.getElem?_eq_getElem (by omega)]
          exact List.getElem_mem _
end G

set_option Elab.async false
set_option linter.all false
set_option maxRecDepth 100000
namespace G
open PySem PySem.Spec PyProof.Rows L2
/-! M76b: the rest of the plain facts. -/
variable {w : List (List Nat)} {l hs : List Nat} {h g : Nat}
theorem sortN_up (a : List Nat) : (sortN a).Pairwise (· < ·) := by
  have h1 := sortI_rise (a.map fun n : Nat => (n : Int))
  rw [← sortI_nat, List.pairwise_map] at h1
  exact h1.imp fun h => by omega
theorem sortN_mem {a : List Nat} {x : Nat} : x ∈ sortN a ↔ x ∈ a := by
  have h1 : (x : Int) ∈ (sortN a).map (fun n : Nat => (n : Int)) ↔ (x : Int) ∈ a.map fun n : Nat => (n : Int) := by rw [sortI_nat]; exact sortI_mem
  have h2 : ∀ b : List Nat, (x : Int) ∈ b.map (fun n : Nat => (n : Int)) ↔ x ∈ b := fun b => by
    rw [List.mem_map]
    exact ⟨fun ⟨y, hy, e⟩ => by rw [show x = y by omega]; exact hy, fun hx => ⟨x, hx, rfl⟩⟩
  rw [← h2, h1, h2]
theorem sortN_ext {a b : List Nat} (h : ∀ x, x ∈ a ↔ x ∈ b) : sortN a = sortN b := up_ext (sortN_up a) (sortN_up b) fun x => by rw [sortN_mem, sortN_mem, h]
theorem sortN_len (a : List Nat) : (sortN a).length ≤ a.length := by
  have := sortI_le (a.map fun n : Nat => (n : Int))
  unfold sortN
  rw [List.length_map]
  rw [List.length_map] at this
  exact this
/-- (4c) -/
theorem seen_way (p : Pl w l) (c : Ca w hs) (hg : g < l.length) : sortN ((storyP w l hs).map fun r => r.getD g 0) = sortN (wayN w l hs g) := by
  refine sortN_ext fun x => ?_
  rw [wayN_eq, (way_ok p c hg hs.length (Nat.le_refl _)).mem, List.mem_map]
  constructor
  · rintro ⟨r, hr, e⟩
    obtain ⟨k, hk, rfl⟩ := storyP_row hr
    exact ⟨k, hk, e.symm⟩
  · rintro ⟨k, hk, e⟩
    exact ⟨_, List.mem_of_getElem? (storyP_get hk), e.symm⟩
/-- stays -/
structure StayOk (w : List (List Nat)) (l hs : List Nat) (g k : Nat) : Prop where
  here : ((hs.take k).foldl (stayStep w g) (0, 0, l)).2.2 = stN w l hs k
  best : ((hs.take k).foldl (stayStep w g) (0, 0, l)).1 + movesN w l hs (List.range k) g ≤ k
  many : ((hs.take k).foldl (stayStep w g) (0, 0, l)).2.1 + movesN w l hs (List.range k) g ≤ k
  none : movesN w l hs (List.range k) g = 0 → ((hs.take k).foldl (stayStep w g) (0, 0, l)).1 = k ∧ ((hs.take k).foldl (stayStep w g) (0, 0, l)).2.1 = k
theorem stay_ok : ∀ k, k ≤ hs.length → StayOk w l hs g k
  | 0, _ => ⟨rfl, Nat.le_refl _, Nat.le_refl _, fun _ => ⟨rfl, rfl⟩⟩
  | k + 1, hk => by
    obtain ⟨i1, i2, i3, i4⟩ := stay_ok k (by omega)
    have ht : (hs.take (k + 1)).foldl (stayStep w g) (0, 0, l) = stayStep w g ((hs.take k).foldl (stayStep w g) (0, 0, l)) (hs.getD k 0) := by
      rw [List.take_succ, List.foldl_append, List.getElem?_eq_getElem (show k < hs.length by omega), show hs.getD k 0 = hs[k] by rw [List.getD_eq_getElem?_getD, List.getElem?_eq_getElem (show k < hs.length by omega)]; rfl]
      rfl
    have hm : movesN w l hs (List.range (k + 1)) g = movesN w l hs (List.range k) g + if (stN w l hs k).getD g 0 = (stN w l hs (k + 1)).getD g 0 then 0 else 1 := by rw [List.range_succ, movesN_add]
    have hc := stN_succ (w := w) (l := l) (show k < hs.length by omega)
    generalize (hs.take k).foldl (stayStep w g) (0, 0, l) = s at i1 i2 i3 i4 ht
    obtain ⟨best, many, here⟩ := s
    have i1 : here = stN w l hs k := i1
    subst i1
    have ht : (hs.take (k + 1)).foldl (stayStep w g) (0, 0, l) = (max best (if (callN w (stN w l hs k) (hs.getD k 0)).getD g 0 = (stN w l hs k).getD g 0 then many + 1 else 0), (if (callN w (stN w l hs k) (hs.getD k 0)).getD g 0 = (stN w l hs k).getD g 0 then many + 1 else 0), callN w (stN w l hs k) (hs.getD k 0)) := ht
    rw [← hc] at ht
    dsimp only at i2 i3 i4
    by_cases e : (stN w l hs k).getD g 0 = (stN w l hs (k + 1)).getD g 0
    · rw [if_pos e] at hm
      rw [if_pos e.symm] at ht
      refine ⟨by rw [ht], ?_, ?_, fun h0 => ?_⟩
      · rw [ht, hm]; show max best (many + 1) + _ ≤ _; omega
      · rw [ht, hm]; show many + 1 + _ ≤ _; omega
      · have := i4 (by omega)
        rw [ht]; show max best (many + 1) = _ ∧ many + 1 = _; omega
    · rw [if_neg e] at hm
      rw [if_neg (Ne.symm e)] at ht
      refine ⟨by rw [ht], ?_, ?_, fun h0 => by omega⟩
      · rw [ht, hm]; show max best 0 + _ ≤ _; omega
      · rw [ht, hm]; show 0 + _ ≤ _; omega
theorem filt_le {α : Type} {p q : α → Bool} : ∀ {L : List α}, (∀ x ∈ L, p x = true → q x = true) → (L.filter p).length ≤ (L.filter q).length
  | [], _ => Nat.le_refl _
  | x :: L, h => by
    have ih := filt_le (L := L) fun y hy => h y (List.mem_cons_of_mem _ hy)
    by_cases e : p x = true
    · rw [List.filter_cons_of_pos e, List.filter_cons_of_pos (h x List.mem_cons_self e), List.length_cons, List.length_cons]; omega
    · rw [List.filter_cons_of_neg e]
      by_cases e2 : q x = true
      · rw [List.filter_cons_of_pos e2, List.length_cons]; omega
      · rw [List.filter_cons_of_neg e2]; exact ih
theorem row_ext {a b : List Nat} (hl : a.length = b.length) (h : ∀ g, g < a.length → a.getD g 0 = b.getD g 0) : a = b := by
  apply List.ext_getElem hl
  intro i h1 h2
  have := h i h1
  rw [List.getD_eq_getElem?_getD, List.getElem?_eq_getElem h1, List.getD_eq_getElem?_getD, List.getElem?_eq_getElem h2] at this
  exact this
theorem still_mem {k : Nat} : k ∈ stillN w l hs ↔ k < hs.length ∧ stN w l hs k = stN w l hs (k + 1) := by
  unfold stillN
  rw [List.mem_filter, List.mem_range, decide_eq_true_eq]
/-- the calls that move someone -/
def restN (w : List (List Nat)) (l hs : List Nat) : List Nat := (List.range hs.length).filter fun k => !decide (k ∈ stillN w l hs)
theorem rest_gone {k : Nat} (hk : k ∈ restN w l hs) : goneN w l hs k ≠ [] := by
  unfold restN at hk
  rw [List.mem_filter, List.mem_range, ← decide_not, decide_eq_true_eq, still_mem] at hk
  intro z
  refine hk.2 ⟨hk.1, row_ext (by rw [stN_len, stN_len]) fun g hg => ?_⟩
  rw [stN_len] at hg
  exact Decidable.byContradiction fun e => by
    have := gone_mem.mpr ⟨hg, e⟩
    rw [z] at this
    cases this
theorem rest_moves : movesN w l hs (List.range hs.length) g ≤ (restN w l hs).length := by
  unfold movesN restN
  refine filt_le fun k hk h => ?_
  rw [← decide_not, decide_eq_true_eq] at h
  rw [← decide_not, decide_eq_true_eq, still_mem]
  exact fun z => h (by rw [z.2])
theorem range_map {β : Type} (f : Nat → β) (l : List Nat) : l.map f = (List.range l.length).map fun g => f (l.getD g 0) := by
  apply List.ext_getElem?
  intro i
  rw [List.getElem?_map, List.getElem?_map]
  by_cases hi : i < l.length
  · rw [List.getElem?_range hi, List.getElem?_eq_getElem hi]
    show some (f l[i]) = some (f (l.getD i 0))
    rw [List.getD_eq_getElem?_getD, List.getElem?_eq_getElem hi]; rfl
  · rw [show (List.range l.length)[i]? = none by rw [List.getElem?_eq_none_iff, List.length_range]; omega, show l[i]? = none by rw [List.getElem?_eq_none_iff]; omega]
    rfl
/-- (7) -/
theorem total_eq (p : Pl w l) : ((List.range w.length).map fun h => (goneN w l [h] 0).length).sum = (l.map fun t => (w.getD t []).length).sum := by
  have c1 : ∀ h, h < w.length → Ca w [h] := fun h hh => ⟨by simp, fun x hx => by rw [List.mem_singleton.mp hx]; exact hh⟩
  have e1 : ((List.range w.length).map fun h => (goneN w l [h] 0).length) = (List.range w.length).map fun h => ((List.range l.length).filter fun g => decide (l.getD g 0 ∈ w.getD h [])).length := List.map_congr_left fun h hh => by
    rw [gone_eq p (c1 h (List.mem_range.mp hh)) (by simp)]; rfl
  rw [e1, sum_swap (fun h g => decide (l.getD g 0 ∈ w.getD h [])), range_map (fun t => (w.getD t []).length) l]
  congr 1
  refine List.map_congr_left fun g hg => ?_
  have ht : l.getD g 0 < w.length := getD_row p.row (List.mem_range.mp hg)
  have e2 := near_filt p.web ht fun _ => true
  rw [List.filter_eq_self.mpr fun _ _ => rfl] at e2
  rw [e2]
  congr 1
  refine List.filter_congr fun h hh => ?_
  rw [Bool.and_true]
  rw [List.mem_range] at hh
  have e3 : (List.range w.length).filter (fun j => decide (j ∈ w.getD (l.getD g 0) []) && true) = w.getD (l.getD g 0) [] := e2.symm
  exact decide_eq_decide.mpr ⟨fun z => near_both p.web hh z, fun z => near_both p.web ht z⟩
theorem movers_mem (p : Pl w l) : h ∈ moversN w l ↔ h < w.length ∧ ∃ t ∈ l, t ∈ w.getD h [] := by
  unfold moversN
  rw [List.mem_filter, List.mem_range, List.any_eq_true]
  simp only [decide_eq_true_eq]
/-- (9) -/
theorem movers_call (p : Pl w l) (hm : h ∈ moversN w l) : callN w l h ≠ l := by
  obtain ⟨hh, t, ht, hn⟩ := (movers_mem p).mp hm
  obtain ⟨g, hg, e⟩ := List.getElem_of_mem ht
  intro z
  have h1 := callN_getD (a := l) hh hg
  have h2 : l.getD g 0 = t := by rw [List.getD_eq_getElem?_getD, List.getElem?_eq_getElem hg]; exact e
  rw [z, h2, if_pos hn] at h1
  exact near_own p.web hh (h1 ▸ hn)
/-- (10) -/
theorem movers_none (p : Pl w l) : moversN w l = [] ↔ (sortN l).filter (fun t => !decide (w.getD t [] = [])) = [] := by
  rw [List.eq_nil_iff_forall_not_mem, List.eq_nil_iff_forall_not_mem]
  constructor
  · intro hm t ht
    rw [List.mem_filter, sortN_mem, ← decide_not, decide_eq_true_eq] at ht
    obtain ⟨ht, hn⟩ := ht
    cases e : w.getD t [] with
    | nil => exact hn e
    | cons h r =>
      have hh : h ∈ w.getD t [] := by rw [e]; exact List.mem_cons_self
      exact hm h ((movers_mem p).mpr ⟨near_lt p.web (p.row t ht) hh, t, ht, near_both p.web (p.row t ht) hh⟩)
  · intro hm h hh
    obtain ⟨hh, t, ht, hn⟩ := (movers_mem p).mp hh
    have := near_both p.web hh hn
    refine hm t ?_
    rw [List.mem_filter, sortN_mem, ← decide_not, decide_eq_true_eq]
    exact ⟨ht, fun z => by rw [z] at this; cases this⟩
/-- (11) -/
theorem seen_calls (p : Pl w l) (c : Ca w hs) (hm : h ∈ seenN w l hs) (hn : h ∉ hs) : l.filter (fun t => !decide (t = h)) = [] := by
  rw [List.eq_nil_iff_forall_not_mem]
  intro t ht
  rw [List.mem_filter, ← decide_not, decide_eq_true_eq] at ht
  obtain ⟨ht, hne⟩ := ht
  obtain ⟨g, hg, e⟩ := List.getElem_of_mem ht
  have h2 : l.getD g 0 = t := by rw [List.getD_eq_getElem?_getD, List.getElem?_eq_getElem hg]; exact e
  unfold seenN at hm
  rw [List.mem_filter, List.all_eq_true] at hm
  have h3 := hm.2 g (List.mem_range.mpr hg)
  rw [List.any_eq_true] at h3
  obtain ⟨r, hr, h4⟩ := h3
  obtain ⟨k, hk, rfl⟩ := storyP_row hr
  have h4 : (stN w l hs k).getD g 0 = h := of_decide_eq_true h4
  have wo := way_ok p c hg k hk
  have hx : h ∈ wayK w l hs g k := (wo.mem h).mpr ⟨k, Nat.le_refl _, h4.symm⟩
  have hx0 : ∃ r, wayK w l hs g k = l.getD g 0 :: r := by
    have : ∀ k, ∃ r, wayK w l hs g k = l.getD g 0 :: r := by
      intro k
      induction k with
      | zero => exact ⟨[], wayK_zero⟩
      | succ k ih =>
        obtain ⟨r, er⟩ := ih
        rw [wayK_succ, er]
        unfold wayStep
        split
        · exact ⟨r, rfl⟩
        · exact ⟨r ++ _, rfl⟩
    exact this k
  obtain ⟨r, er⟩ := hx0
  have ht := wo.tail
  rw [er] at hx ht
  rcases List.mem_cons.mp hx with e | hx
  · exact hne (by rw [← h2, ← e])
  · exact hn (ht h hx)
end G

set_option Elab.async false
set_option linter.all false
set_option maxRecDepth 100000
namespace G
open PySem PySem.Spec PyProof.Rows L2
/-! S9: roads. -/
variable {w : List (List Nat)} {l hs : List Nat} {h g : Nat}
def roadsAt (w : List (List Nat)) (i : Nat) : List (List Nat) := ((w.getD i []).filter fun j => decide (i < j)).map fun j => [i, j]
def roadsN (w : List (List Nat)) : List (List Nat) := (List.range w.length).flatMap (roadsAt w)
theorem len_flat {α β : Type} (f : α → List β) : ∀ p : List α, (p.flatMap f).length = (p.map fun x => (f x).length).sum
  | [] => rfl
  | x :: p => by rw [List.flatMap_cons, List.length_append, len_flat f p, List.map_cons, List.sum_cons]
theorem sum_le {α : Type} {f : α → Nat} {b : Nat} : ∀ {p : List α}, (∀ x ∈ p, f x ≤ b) → (p.map f).sum ≤ b * p.length
  | [], _ => Nat.zero_le _
  | x :: p, h => by
    rw [List.map_cons, List.sum_cons, List.length_cons, Nat.mul_succ]
    have := sum_le (p := p) fun y hy => h y (List.mem_cons_of_mem _ hy)
    have := h x List.mem_cons_self
    omega
theorem roadsN_len (w : List (List Nat)) : (roadsN w).length = ((List.range w.length).map fun h => ((w.getD h []).filter fun j => decide (h < j)).length).sum := by
  unfold roadsN
  rw [len_flat]
  congr 1
  exact List.map_congr_left fun i _ => by unfold roadsAt; rw [List.length_map]
theorem near_len (ok : Web w) (hh : h < w.length) : (w.getD h []).length ≤ 5 := by
  have := ok.few h _ (near_get hh)
  have := ok.most
  omega
theorem ph_roads_in_eq (ok : Web w) : ph_roads_in [.d (dW w)] = .ret (.d (.list ((roadsN w).map dT))) := by
  have w6 := ok.most
  unfold ph_roads_in
  refine fnV_rt (seq_nx (en1 := [some ⟨1, .d (dW w)⟩, some ⟨0, .d (.list [])⟩, none, none]) ?_ ?_)
  · simp [fnV, enOf, mSeq, mRet, mRetV, mAnd, mOr, mIf, mIfS, mT, tNotM, tAndM, tOrM, mCall, mArgs, mCons, mNil, mVar, mC, m1, m2, o1, o2, mDrop, mSet, mSets, mUnp, mTup, mLst, mImm, datas, setsO, bindO, bind_ret, bind_fail, must_t, ofO_some, isB, mChain, Nat.beq, List.replicate, il0, il1, il2, il3, il4, il5, il6, il7, il8, il9, il10, il11, il12, il60, setsE, visE, demE, visO, demO, gTupM, gsCons, gsNil, len_T, len_W, len_L, add_N, sub_N, in_T, le_NN, lt_NN, gt_NN, ge_NN, eq_NN, ne_NN, eq_TT, ne_TT, eq_WW, ne_WW, -List.getD_eq_getElem?_getD, oNot, neg_1, dOf_d, isTup_T, isTup_W, list_T, must_le (show 0 ≤ lim by decide)]
  · refine (mFor0_inv (List.range w.length) (fun n => .d (dN n)) (fun n => [(2, .d (dN n))]) (fun p en => ∃ a b, en = [some ⟨1, .d (dW w)⟩, some ⟨0, .d (.list ((p.flatMap (roadsAt w)).map dT))⟩, a, b]) ?_ ?_ ?_).elim fun en1 ⟨e1, a, b, e2⟩ => seq_nx e1 ?_
    · simp [fnV, enOf, mSeq, mRet, mRetV, mAnd, mOr, mIf, mIfS, mT, tNotM, tAndM, tOrM, mCall, mArgs, mCons, mNil, mVar, mC, m1, m2, o1, o2, mDrop, mSet, mSets, mUnp, mTup, mLst, mImm, datas, setsO, bindO, bind_ret, bind_fail, must_t, ofO_some, isB, mChain, Nat.beq, List.replicate, il0, il1, il2, il3, il4, il5, il6, il7, il8, il9, il10, il11, il12, il60, setsE, visE, demE, visO, demO, gTupM, gsCons, gsNil, len_T, len_W, len_L, add_N, sub_N, in_T, le_NN, lt_NN, gt_NN, ge_NN, eq_NN, ne_NN, eq_TT, ne_TT, eq_WW, ne_WW, -List.getD_eq_getElem?_getD, oNot, neg_1, dOf_d, isTup_T, isTup_W, list_T, rng_N (show w.length ≤ 100000 by omega)]
    · exact ⟨_, _, rfl⟩
    · rintro p q x e en ⟨a, b, rfl⟩
      have hx := range_lt e
      have hp := range_len e
      have n5 := near_len ok hx
      have hb : (p.flatMap (roadsAt w)).length ≤ 30 := by
        rw [len_flat]
        have : ∀ y ∈ p, (roadsAt w y).length ≤ 5 := fun y hy => by
          have hy : y < w.length := List.mem_range.mp (by rw [e]; exact List.mem_append_left _ hy)
          unfold roadsAt
          rw [List.length_map]
          exact Nat.le_trans (List.length_filter_le _ _) (near_len ok hy)
        have := sum_le this
        omega
      refine ⟨rfl, (mFor_inv (w.getD x []) (fun n => .d (dN n)) (fun n => [(3, .d (dN n))]) (fun r en => ∃ b, en = [some ⟨1, .d (dW w)⟩, some ⟨0, .d (.list ((p.flatMap (roadsAt w) ++ ((r.filter fun j => decide (x < j)).map fun j => [x, j])).map dT))⟩, some ⟨1, .d (dN x)⟩, b]) ?_ ?_ ?_).elim fun en1 ⟨e1, b, e2⟩ => ⟨_, seq_nx e1 rfl, some ⟨1, .d (dN x)⟩, b, ?_⟩⟩
      · simp [fnV, enOf, mSeq, mRet, mRetV, mAnd, mOr, mIf, mIfS, mT, tNotM, tAndM, tOrM, mCall, mArgs, mCons, mNil, mVar, mC, m1, m2, o1, o2, mDrop, mSet, mSets, mUnp, mTup, mLst, mImm, datas, setsO, bindO, bind_ret, bind_fail, must_t, ofO_some, isB, mChain, Nat.beq, List.replicate, il0, il1, il2, il3, il4, il5, il6, il7, il8, il9, il10, il11, il12, il60, setsE, visE, demE, visO, demO, gTupM, gsCons, gsNil, len_T, len_W, len_L, add_N, sub_N, in_T, le_NN, lt_NN, gt_NN, ge_NN, eq_NN, ne_NN, eq_TT, ne_TT, eq_WW, ne_WW, -List.getD_eq_getElem?_getD, oNot, neg_1, dOf_d, isTup_T, isTup_W, list_T, get_Wg hx, items_T]
      · exact ⟨demO [0, 2] 3 b, by rw [List.filter_nil, List.map_nil, List.append_nil]; rfl⟩
      · rintro r s y e' en ⟨b, rfl⟩
        have hr : r.length ≤ 5 := by have := congrArg List.length e'; rw [List.length_append, List.length_cons] at this; omega
        have hf := List.length_filter_le (fun j => decide (x < j)) r
        have hl : (p.flatMap (roadsAt w) ++ ((r.filter fun j => decide (x < j)).map fun j => [x, j])).length ≤ 99999 := by rw [List.length_append, List.length_map]; omega
        refine ⟨rfl, _, seq_nx (en1 := [some ⟨1, .d (dW w)⟩, some ⟨0, .d (.list ((p.flatMap (roadsAt w) ++ (((r ++ [y]).filter fun j => decide (x < j)).map fun j => [x, j])).map dT))⟩, some ⟨1, .d (dN x)⟩, some ⟨1, .d (dN y)⟩]) ?_ rfl, _, rfl⟩
        rw [filt_add]
        generalize r.filter (fun j => decide (x < j)) = acc at hl ⊢
        have ht : mT (m2 (oDD pLt ltD) (mVar 2) (mVar 3)) [some ⟨1, .d (dW w)⟩, some ⟨0, .d (.list ((p.flatMap (roadsAt w) ++ (acc.map fun j => [x, j])).map dT))⟩, some ⟨1, .d (dN x)⟩, some ⟨1, .d (dN y)⟩] = .ret (decide (x < y)) := by
          simp [fnV, enOf, mSeq, mRet, mRetV, mAnd, mOr, mIf, mIfS, mT, tNotM, tAndM, tOrM, mCall, mArgs, mCons, mNil, mVar, mC, m1, m2, o1, o2, mDrop, mSet, mSets, mUnp, mTup, mLst, mImm, datas, setsO, bindO, bind_ret, bind_fail, must_t, ofO_some, isB, mChain, Nat.beq, List.replicate, il0, il1, il2, il3, il4, il5, il6, il7, il8, il9, il10, il11, il12, il60, setsE, visE, demE, visO, demO, gTupM, gsCons, gsNil, len_T, len_W, len_L, add_N, sub_N, in_T, le_NN, lt_NN, gt_NN, ge_NN, eq_NN, ne_NN, eq_TT, ne_TT, eq_WW, ne_WW, -List.getD_eq_getElem?_getD, oNot, neg_1, dOf_d, isTup_T, isTup_W, list_T]
        by_cases hc : x < y
        · rw [decide_eq_true hc] at ht
          rw [if_pos (decide_eq_true hc)]
          refine ifS_t ht (seq_nx ?_ rfl)
          rw [List.map_append (f := fun j => [x, j]), ← List.append_assoc]
          generalize p.flatMap (roadsAt w) ++ (acc.map fun j => [x, j]) = big at hl ⊢
          rw [List.map_append]
          show T.must (Nat.ble (big.map dT).length 99999) _ = _
          rw [List.length_map, must_le hl]
          rfl
        · rw [decide_eq_false hc] at ht
          rw [if_neg (by rw [decide_eq_false hc]; decide)]
          exact ifS_f ht rfl
      · subst e2
        have e3 : (p ++ [x]).flatMap (roadsAt w) = p.flatMap (roadsAt w) ++ roadsAt w x := by
          rw [List.flatMap_append]
          congr 1
          show roadsAt w x ++ [] = _
          rw [List.append_nil]
        rw [e3]; rfl
    · subst e2
      refine seq_rt ?_
      simp [fnV, enOf, mSeq, mRet, mRetV, mAnd, mOr, mIf, mIfS, mT, tNotM, tAndM, tOrM, mCall, mArgs, mCons, mNil, mVar, mC, m1, m2, o1, o2, mDrop, mSet, mSets, mUnp, mTup, mLst, mImm, datas, setsO, bindO, bind_ret, bind_fail, must_t, ofO_some, isB, mChain, Nat.beq, List.replicate, il0, il1, il2, il3, il4, il5, il6, il7, il8, il9, il10, il11, il12, il60, setsE, visE, demE, visO, demO, gTupM, gsCons, gsNil, len_T, len_W, len_L, add_N, sub_N, in_T, le_NN, lt_NN, gt_NN, ge_NN, eq_NN, ne_NN, eq_TT, ne_TT, eq_WW, ne_WW, -List.getD_eq_getElem?_getD, oNot, neg_1, dOf_d, isTup_T, isTup_W, list_T]
      rfl
theorem ph_roads_eq (ok : Web w) : ph_roads [.d (dW w)] = .ret (.d (dW (roadsN w))) := by
  unfold ph_roads
  refine fnV_rt (seq_nx (drop_eq (x := .d .none) ?_) (seq_rt (ret_eq ?_)))
  · simp [fnV, enOf, mSeq, mRet, mRetV, mAnd, mOr, mIf, mIfS, mT, tNotM, tAndM, tOrM, mCall, mArgs, mCons, mNil, mVar, mC, m1, m2, o1, o2, mDrop, mSet, mSets, mUnp, mTup, mLst, mImm, datas, setsO, bindO, bind_ret, bind_fail, must_t, ofO_some, isB, mChain, Nat.beq, List.replicate, il0, il1, il2, il3, il4, il5, il6, il7, il8, il9, il10, il11, il12, il60, setsE, visE, demE, visO, demO, gTupM, gsCons, gsNil, len_T, len_W, len_L, add_N, sub_N, in_T, le_NN, lt_NN, gt_NN, ge_NN, eq_NN, ne_NN, eq_TT, ne_TT, eq_WW, ne_WW, -List.getD_eq_getElem?_getD, oNot, neg_1, dOf_d, isTup_T, isTup_W, list_T, ph_need_web_ok ok]
  · simp [fnV, enOf, mSeq, mRet, mRetV, mAnd, mOr, mIf, mIfS, mT, tNotM, tAndM, tOrM, mCall, mArgs, mCons, mNil, mVar, mC, m1, m2, o1, o2, mDrop, mSet, mSets, mUnp, mTup, mLst, mImm, datas, setsO, bindO, bind_ret, bind_fail, must_t, ofO_some, isB, mChain, Nat.beq, List.replicate, il0, il1, il2, il3, il4, il5, il6, il7, il8, il9, il10, il11, il12, il60, setsE, visE, demE, visO, demO, gTupM, gsCons, gsNil, len_T, len_W, len_L, add_N, sub_N, in_T, le_NN, lt_NN, gt_NN, ge_NN, eq_NN, ne_NN, eq_TT, ne_TT, eq_WW, ne_WW, -List.getD_eq_getElem?_getD, oNot, neg_1, dOf_d, isTup_T, isTup_W, list_T, ph_roads_in_eq ok, tup_TT]
end G

set_option Elab.async false
set_option linter.all false
set_option maxRecDepth 100000
namespace G
open PySem PySem.Spec PyProof.Rows L2
/-! S9b: more operations on coded values. -/
theorem ne_BB (a b : Bool) : oDD pAny fNe (.d (.bool a)) (.d (.bool b)) = .ret (.d (.bool (!(a == b)))) := by
  rw [eq_DD (by unfold flat; rfl) (by unfold flat; rfl) rfl]
  unfold fNe PyData.eqv; rfl
theorem cut_1 (x : Nat) (r : List Nat) : oCut (.d (dT (x :: r))) (some 1) none = .ret (.d (dT r)) := by
  show T.must (immAll ((x :: r).map dN)) _ = _
  rw [immAll_map imm_dN]
  show T.ret (W.d (.tuple (cutD ((x :: r).map dN) (some 1) none))) = _
  congr 3
  have e : ∀ n d, HT.sIx n d (some 1) = min 1 n := fun n d => HT.sIx_nat n d 1
  unfold cutD
  rw [e, HT.sIx_none, List.length_map, List.length_cons, Nat.min_eq_left (by omega)]
  show (r.map dN).take (r.length + 1 - 1) = _
  rw [Nat.add_sub_cancel, ← List.length_map (f := dN) (as := r), List.take_length]
theorem lenSet_T {l : List Nat} (hl : l.length ≤ 1000) : oLenSetX (.d (dT l)) = .ret (.d (dN (sortN l).length)) := by
  unfold oLenSetX
  rw [tupsIn_T]
  show oLenSet (.d (dT l)) = _
  unfold oLenSet
  show (T.ofO (intsOf (l.map dN))).bind _ = _
  rw [intsOf_dN]
  show T.must _ _ = _
  rw [List.length_map, Nat.ble_eq_true_of_le hl, ← sortI_nat, List.length_map]; rfl
theorem get_lastT {a : List Nat} (ha : a ≠ []) : oGet (.d (dT a)) (.d (.int (-1))) = .ret (.d (dN (a.getLastD 0))) := get_lastD ha
theorem m1_eq {op : W → T W} {a : En → T W} {en : En} {x : W} (h1 : a en = .ret x) : m1 op a en = op x := by
  unfold m1; rw [h1]; rfl
theorem m2_eq {op : W → W → T W} {a b : En → T W} {en : En} {x y : W} (h1 : a en = .ret x) (h2 : b en = .ret y) : m2 op a b en = op x y := by
  unfold m2; rw [h1]; show ((b en).bind _) = _; rw [h2]; rfl
theorem way_head {w : List (List Nat)} {l hs : List Nat} {g : Nat} : ∀ k, ∃ r, wayK w l hs g k = l.getD g 0 :: r
  | 0 => ⟨[], wayK_zero⟩
  | k + 1 => by
    obtain ⟨r, er⟩ := way_head (w := w) (l := l) (hs := hs) (g := g) k
    rw [wayK_succ, er]
    unfold wayStep
    split
    · exact ⟨r, rfl⟩
    · exact ⟨r ++ _, rfl⟩
/-- the greatest of a row -/
theorem pick_max : ∀ (r : List Nat) (a : Nat), pick (fun a b => ltD b a) (dN a) (r.map dN) = dN (r.foldl max a)
  | [], _ => rfl
  | y :: r, a => by
    rw [List.map_cons, pick, List.foldl_cons]
    have : (if ltD (dN a) (dN y) = true then dN y else dN a) = dN (max a y) := by
      rw [ltD_N]
      by_cases e : a < y
      · rw [if_pos (decide_eq_true e), Nat.max_eq_right (by omega)]
      · rw [if_neg (by rw [decide_eq_false e]; decide), Nat.max_eq_left (by omega)]
    show pick _ (if ltD (dN a) (dN y) = true then dN y else dN a) _ = _
    rw [this, pick_max r]
theorem foldl_max_le {b : Nat} : ∀ {r : List Nat} {a : Nat}, a ≤ b → (∀ x ∈ r, x ≤ b) → r.foldl max a ≤ b
  | [], _, h, _ => h
  | x :: r, a, h, hr => foldl_max_le (r := r) (Nat.max_le.mpr ⟨h, hr x List.mem_cons_self⟩) fun y hy => hr y (List.mem_cons_of_mem _ hy)
theorem max_T (x : Nat) (r : List Nat) : oPickT (fun a b => ltD b a) (.d (dT (x :: r))) = .ret (.d (dN (r.foldl max x))) := by
  show T.must (pickOk ((x :: r).map dN) && immAll ((x :: r).map dN)) (T.ret (W.d (pick (fun a b => ltD b a) (dN x) (r.map dN)))) = _
  rw [immAll_map imm_dN, pick_max, show pickOk ((x :: r).map dN) = true by
    unfold pickOk
    rw [allB_map (p := flat 20) (flat_dN 20), allB_map (p := fun x => !isNon x) (fun _ => rfl), allB_map (p := fun y => allB ((x :: r).map dN) (PySem.W.alike y)) fun y => allB_map (fun _ => rfl) _]
    rfl]
  rfl
/-- no element is kept -/
theorem ne_nil {α : Type} [DecidableEq α] {f : α → D} (hf : ∀ x, flat 19 (f x) = true) (h : ∀ x y, PyData.eqv (f x) (f y) = decide (x = y)) {a : List α} (e : a = []) : oDD pAny fNe (.d (.list (a.map f))) (.d (.list [])) = .ret (.d (.bool false)) := by
  have := ne_LL hf h a []
  rw [List.map_nil] at this
  rw [this, e]; rfl
end G

set_option Elab.async false
set_option linter.all false
set_option maxRecDepth 100000
set_option maxHeartbeats 2000000
namespace G
open PySem PySem.Spec PyProof.Rows L2
/-! S10: the law's own statements. -/
variable {w : List (List Nat)} {l hs : List Nat} {h g : Nat}
theorem sum_T (ns : List Nat) : oSumX (.d (dT ns)) = .ret (.d (dN ns.sum)) := by
  show (T.ofO (intsOf (ns.map dN))).bind _ = _
  rw [intsOf_dN]
  show T.ret (W.d (.int (ns.map fun n : Nat => (n : Int)).sum)) = _
  have : (ns.map fun n : Nat => (n : Int)).sum = (ns.sum : Int) := by
    induction ns with
    | nil => rfl
    | cons x xs ih => rw [List.map_cons, List.sum_cons, List.sum_cons, ih]; omega
  rw [this]; rfl
theorem mul_2 {a : Nat} (ha : a ≤ 100000) : oMul (.d (dN 2)) (.d (dN a)) = .ret (.d (dN (2 * a))) := by
  show T.must (fitsB (2 : Int) && fitsB (a : Int)) _ = _
  rw [show fitsB (2 : Int) = true by unfold fitsB; exact decide_eq_true (Nat.lt_of_le_of_lt (show (2 : Int).natAbs ≤ 100000 by omega) (by decide)), show fitsB (a : Int) = true by
    unfold fitsB
    exact decide_eq_true (Nat.lt_of_le_of_lt (show (a : Int).natAbs ≤ 100000 by omega) (by decide))]
  show T.ret (W.d (.int ((2 : Int) * (a : Int)))) = _
  rw [show (2 : Int) * (a : Int) = ((2 * a : Nat) : Int) by omega]; rfl
def cN (w : List (List Nat)) (l hs : List Nat) : List Nat := (List.range l.length).map (movesN w l hs (List.range hs.length))
def gL (w : List (List Nat)) (l hs : List Nat) : List (List Nat) := (List.range hs.length).map (goneN w l hs)
theorem cN_at (hg : g < l.length) : (cN w l hs).getD g 0 = movesN w l hs (List.range hs.length) g := by
  unfold cN
  rw [map_getD _ (by rw [List.length_range]; exact hg), List.getD_eq_getElem?_getD, List.getElem?_range hg]; rfl
theorem cN_len : (cN w l hs).length = l.length := by unfold cN; rw [List.length_map, List.length_range]
theorem gL_len : (gL w l hs).length = hs.length := by unfold gL; rw [List.length_map, List.length_range]
def Ev (w : List (List Nat)) (l hs : List Nat) (a7 a8 a9 a10 a11 a12 a13 : Option Slot) : En := [none, some ⟨1, .row⟩, some ⟨0, .d (dW w)⟩, some ⟨0, .d (dT l)⟩, some ⟨0, .d (dT hs)⟩, some ⟨0, .d (dW (gL w l hs))⟩, some ⟨0, .d (dT (cN w l hs))⟩, a7, a8, a9, a10, a11, a12, a13, none, none, none]
theorem pl_all (ok : Web w) : Pl w (List.range w.length) := ⟨ok, by rw [List.length_range]; exact ok.pos, by rw [List.length_range]; exact ok.most, fun x hx => List.mem_range.mp hx⟩
def gBody : En → T Out := (mSeq (mSets [8, 9] (mCons (mCall (fun xs => T.must (Nat.beq xs.length 4) (ph_way_of xs)) (mCons (mVar 2) (mCons (mVar 3) (mCons (mVar 4) (mCons (mVar 7) mNil))))) (mCons (mCall (fun xs => T.must (Nat.beq xs.length 4) (ph_longest_stay xs)) (mCons (mVar 2) (mCons (mVar 3) (mCons (mVar 4) (mCons (mVar 7) mNil))))) mNil)))
  (mSeq (mIfS (tOrM (mT (m2 (oDD pAny fNe) (m2 oGet (mVar 6) (mVar 7)) (mArgs (o1 oLenX) (mCons (mLC (fun en => ((mVar 5) en).bind itemsOf) (fun x => .ret [(10, x)]) [10] (mT (m2 (oInX false) (mVar 7) (mVar 10))) (mImm (mVar 10))) mNil)))) (mT (m2 (oDD pAny fNe) (mArgs (o1 oLenX) (mCons (mVar 8) mNil)) (m2 oAdd (m2 oGet (mVar 6) (mVar 7)) (mC (.int (1))))))) (mSeq (mRet (mC (.bool false)))
  (fun en => .ret (.nx en))) (fun en => .ret (.nx en)))
  (mSeq (mIfS (mT (m2 (oDD pAny fNe) (mCall (fun xs => T.must (Nat.beq xs.length 4) (ph_seen_houses xs)) (mCons (mVar 2) (mCons (mVar 3) (mCons (mVar 4) (mCons (mVar 7) mNil))))) (mArgs (o1 oTuple) (mCons (m1 oSortSetX (mVar 8)) mNil)))) (mSeq (mRet (mC (.bool false)))
  (fun en => .ret (.nx en))) (fun en => .ret (.nx en)))
  (mSeq (mIfS (tOrM (mT (m2 (oDD pAny fNe) (m2 (oDD pAny PyData.eqv) (m2 oGet (mVar 6) (mVar 7)) (mC (.int (0)))) (m2 (oDD pAny PyData.eqv) (mVar 9) (mArgs (o1 oLenX) (mCons (mVar 4) mNil))))) (mT (m2 (oDD pLt fGt) (mVar 9) (m2 oSub (mArgs (o1 oLenX) (mCons (mVar 4) mNil)) (m2 oGet (mVar 6) (mVar 7)))))) (mSeq (mRet (mC (.bool false)))
  (fun en => .ret (.nx en))) (fun en => .ret (.nx en)))
  (mSeq (mIfS (mT (m2 (oDD pAny fNe) (mLC (fun en => ((mCut (mVar 8) (mPart (mC (.int (1)))) (fun _ => .ret none)) en).bind (itemsX true)) (fun x => .ret [(15, x)]) [15] (mT (m2 (oInX true) (mVar 15) (mVar 4))) (mImm (mVar 15))) (mLst mNil))) (mSeq (mRet (mC (.bool false)))
  (fun en => .ret (.nx en))) (fun en => .ret (.nx en)))
  (mSeq (mIfS (tOrM (mT (m2 (oDD pLt ltD) (m2 oGet (mVar 6) (mVar 7)) (m2 oSub (m1 oLenSetX (mVar 8)) (mC (.int (1)))))) (mT (m2 (oDD pAny fNe) (m2 oGet (mVar 8) (m1 oNeg (mC (.int (1))))) (m2 oGet (mCall (fun xs => T.must (Nat.beq xs.length 3) (ph_after xs)) (mCons (mVar 2) (mCons (mVar 3) (mCons (mVar 4) mNil)))) (mVar 7))))) (mSeq (mRet (mC (.bool false)))
  (fun en => .ret (.nx en))) (fun en => .ret (.nx en)))
  (fun en => .ret (.nx en))))))))
set_option maxHeartbeats 4000000 in
theorem guest_ok (p : Pl w l) (c : Ca w hs) (h12 : hs.length ≤ 12) {x : Nat} (hx : x < l.length) (a8 a9 : Option Slot) : ∃ en', gBody (Ev w l hs (some ⟨1, .d (dN x)⟩) a8 a9 none none none none) = .ret (.nx en') ∧ ∃ a7 a8 a9, en' = Ev w l hs a7 a8 a9 none none none none := by
  have wo := way_ok p c hx hs.length (Nat.le_refl _)
  have so := stay_ok (w := w) (l := l) (hs := hs) (g := x) hs.length (Nat.le_refl _)
  have w6 := p.web.most
  have hgl : x < (cN w l hs).length := by rw [cN_len]; exact hx
  have wl : (wayN w l hs x).length = 1 + movesN w l hs (List.range hs.length) x := wo.len
  have wn : wayN w l hs x ≠ [] := wo.ne
  have wa : (wayN w l hs x).getLastD 0 = (runN w l hs).getD x 0 := by rw [← stN_full]; exact wo.last
  have wt : ∀ y ∈ (wayN w l hs x).tail, y ∈ hs := wo.tail
  obtain ⟨r, wr⟩ : ∃ r, wayN w l hs x = l.getD x 0 :: r := way_head hs.length
  have sb := so.best
  have sn := so.none
  rw [List.take_length] at sb sn
  generalize hM : movesN w l hs (List.range hs.length) x = M at wl sb sn
  have hcM : (cN w l hs).getD x 0 = M := by rw [cN_at hx, hM]
  have hgg : oGet (.d (dT (cN w l hs))) (.d (dN x)) = .ret (.d (dN M)) := by rw [get_Tg hgl, hcM]
  have hS := ph_longest_stay_eq p c hx
  generalize (hs.foldl (stayStep w x) (0, 0, l)).1 = S at sb sn hS
  have sn := fun z => (sn z).1
  refine ⟨_, seq_nx (en1 := Ev w l hs (some ⟨1, .d (dN x)⟩) (some ⟨0, .d (dT (wayN w l hs x))⟩) (some ⟨0, .d (dN S)⟩) none none none none) ?_ (seq_nx (ifS_f (orF ?_ ?_) rfl) (seq_nx (ifS_f ?_ rfl) (seq_nx (ifS_f (orF ?_ ?_) rfl) (seq_nx (ifS_f ?_ rfl) (seq_nx (ifS_f (orF ?_ ?_) rfl) rfl))))), _, _, _, rfl⟩
  · simp [fnV, enOf, mSeq, mRet, mRetV, mAnd, mOr, mIf, mIfS, mT, tNotM, tAndM, tOrM, mCall, mArgs, mCons, mNil, mVar, mC, m1, m2, o1, o2, mDrop, mSet, mSets, mUnp, mTup, mLst, mImm, datas, setsO, bindO, bind_ret, bind_fail, must_t, ofO_some, isB, mChain, Nat.beq, List.replicate, il0, il1, il2, il3, il4, il5, il6, il7, il8, il9, il10, il11, il12, il60, setsE, visE, demE, visO, demO, gTupM, gsCons, gsNil, len_T, len_W, len_L, add_N, sub_N, in_T, le_NN, lt_NN, gt_NN, ge_NN, eq_NN, ne_NN, eq_TT, ne_TT, eq_WW, ne_WW, -List.getD_eq_getElem?_getD, oNot, neg_1, dOf_d, isTup_T, isTup_W, list_T, Ev, ph_way_of_eq p c hx, hS]
  · refine mT_b ((m2_eq (x := .d (dN M)) (y := .d (dN ((gL w l hs).filter fun s => decide (x ∈ s)).length)) ?_ ((args1 (mLC_eq (gL w l hs) (fun s => .d (dT s)) (fun s => decide (x ∈ s)) dT ?_ (by rw [gL_len]; omega) ?_ ?_)).trans ?_)).trans ?_)
    · simp [fnV, enOf, mSeq, mRet, mRetV, mAnd, mOr, mIf, mIfS, mT, tNotM, tAndM, tOrM, mCall, mArgs, mCons, mNil, mVar, mC, m1, m2, o1, o2, mDrop, mSet, mSets, mUnp, mTup, mLst, mImm, datas, setsO, bindO, bind_ret, bind_fail, must_t, ofO_some, isB, mChain, Nat.beq, List.replicate, il0, il1, il2, il3, il4, il5, il6, il7, il8, il9, il10, il11, il12, il60, setsE, visE, demE, visO, demO, gTupM, gsCons, gsNil, len_T, len_W, len_L, add_N, sub_N, in_T, le_NN, lt_NN, gt_NN, ge_NN, eq_NN, ne_NN, eq_TT, ne_TT, eq_WW, ne_WW, -List.getD_eq_getElem?_getD, oNot, neg_1, dOf_d, isTup_T, isTup_W, list_T, Ev, hgg]
    · simp [fnV, enOf, mSeq, mRet, mRetV, mAnd, mOr, mIf, mIfS, mT, tNotM, tAndM, tOrM, mCall, mArgs, mCons, mNil, mVar, mC, m1, m2, o1, o2, mDrop, mSet, mSets, mUnp, mTup, mLst, mImm, datas, setsO, bindO, bind_ret, bind_fail, must_t, ofO_some, isB, mChain, Nat.beq, List.replicate, il0, il1, il2, il3, il4, il5, il6, il7, il8, il9, il10, il11, il12, il60, setsE, visE, demE, visO, demO, gTupM, gsCons, gsNil, len_T, len_W, len_L, add_N, sub_N, in_T, le_NN, lt_NN, gt_NN, ge_NN, eq_NN, ne_NN, eq_TT, ne_TT, eq_WW, ne_WW, -List.getD_eq_getElem?_getD, oNot, neg_1, dOf_d, isTup_T, isTup_W, list_T, Ev, items_W]
    · intro s hs
      simp [fnV, enOf, mSeq, mRet, mRetV, mAnd, mOr, mIf, mIfS, mT, tNotM, tAndM, tOrM, mCall, mArgs, mCons, mNil, mVar, mC, m1, m2, o1, o2, mDrop, mSet, mSets, mUnp, mTup, mLst, mImm, datas, setsO, bindO, bind_ret, bind_fail, must_t, ofO_some, isB, mChain, Nat.beq, List.replicate, il0, il1, il2, il3, il4, il5, il6, il7, il8, il9, il10, il11, il12, il60, setsE, visE, demE, visO, demO, gTupM, gsCons, gsNil, len_T, len_W, len_L, add_N, sub_N, in_T, le_NN, lt_NN, gt_NN, ge_NN, eq_NN, ne_NN, eq_TT, ne_TT, eq_WW, ne_WW, -List.getD_eq_getElem?_getD, oNot, neg_1, dOf_d, isTup_T, isTup_W, list_T, Ev]
    · intro s hs _
      simp [fnV, enOf, mSeq, mRet, mRetV, mAnd, mOr, mIf, mIfS, mT, tNotM, tAndM, tOrM, mCall, mArgs, mCons, mNil, mVar, mC, m1, m2, o1, o2, mDrop, mSet, mSets, mUnp, mTup, mLst, mImm, datas, setsO, bindO, bind_ret, bind_fail, must_t, ofO_some, isB, mChain, Nat.beq, List.replicate, il0, il1, il2, il3, il4, il5, il6, il7, il8, il9, il10, il11, il12, il60, setsE, visE, demE, visO, demO, gTupM, gsCons, gsNil, len_T, len_W, len_L, add_N, sub_N, in_T, le_NN, lt_NN, gt_NN, ge_NN, eq_NN, ne_NN, eq_TT, ne_TT, eq_WW, ne_WW, -List.getD_eq_getElem?_getD, oNot, neg_1, dOf_d, isTup_T, isTup_W, list_T, Ev, imm_dT, W.imm]
    · rw [len_L, List.length_map]
    · rw [ne_NN, ← hM, moves_gone hx]
      unfold gL
      rw [decide_eq_true rfl]; rfl
  · refine mT_b ((m2_eq (x := .d (dN (wayN w l hs x).length)) (y := .d (dN (M + 1))) ?_ ?_).trans ?_)
    · simp [fnV, enOf, mSeq, mRet, mRetV, mAnd, mOr, mIf, mIfS, mT, tNotM, tAndM, tOrM, mCall, mArgs, mCons, mNil, mVar, mC, m1, m2, o1, o2, mDrop, mSet, mSets, mUnp, mTup, mLst, mImm, datas, setsO, bindO, bind_ret, bind_fail, must_t, ofO_some, isB, mChain, Nat.beq, List.replicate, il0, il1, il2, il3, il4, il5, il6, il7, il8, il9, il10, il11, il12, il60, setsE, visE, demE, visO, demO, gTupM, gsCons, gsNil, len_T, len_W, len_L, add_N, sub_N, in_T, le_NN, lt_NN, gt_NN, ge_NN, eq_NN, ne_NN, eq_TT, ne_TT, eq_WW, ne_WW, -List.getD_eq_getElem?_getD, oNot, neg_1, dOf_d, isTup_T, isTup_W, list_T, Ev]
    · simp [fnV, enOf, mSeq, mRet, mRetV, mAnd, mOr, mIf, mIfS, mT, tNotM, tAndM, tOrM, mCall, mArgs, mCons, mNil, mVar, mC, m1, m2, o1, o2, mDrop, mSet, mSets, mUnp, mTup, mLst, mImm, datas, setsO, bindO, bind_ret, bind_fail, must_t, ofO_some, isB, mChain, Nat.beq, List.replicate, il0, il1, il2, il3, il4, il5, il6, il7, il8, il9, il10, il11, il12, il60, setsE, visE, demE, visO, demO, gTupM, gsCons, gsNil, len_T, len_W, len_L, add_N, sub_N, in_T, le_NN, lt_NN, gt_NN, ge_NN, eq_NN, ne_NN, eq_TT, ne_TT, eq_WW, ne_WW, -List.getD_eq_getElem?_getD, oNot, neg_1, dOf_d, isTup_T, isTup_W, list_T, Ev, hgg]
    · rw [ne_NN, decide_eq_true (by omega)]; rfl
  · refine mT_b ((m2_eq (x := .d (dT (sortN (wayN w l hs x)))) (y := .d (dT (sortN (wayN w l hs x)))) ?_ ((args1 ((m1_eq (x := .d (dT (wayN w l hs x))) rfl).trans (sortSet_N (.inl rfl) (by omega)))).trans (tup_N _))).trans ?_)
    · simp [fnV, enOf, mSeq, mRet, mRetV, mAnd, mOr, mIf, mIfS, mT, tNotM, tAndM, tOrM, mCall, mArgs, mCons, mNil, mVar, mC, m1, m2, o1, o2, mDrop, mSet, mSets, mUnp, mTup, mLst, mImm, datas, setsO, bindO, bind_ret, bind_fail, must_t, ofO_some, isB, mChain, Nat.beq, List.replicate, il0, il1, il2, il3, il4, il5, il6, il7, il8, il9, il10, il11, il12, il60, setsE, visE, demE, visO, demO, gTupM, gsCons, gsNil, len_T, len_W, len_L, add_N, sub_N, in_T, le_NN, lt_NN, gt_NN, ge_NN, eq_NN, ne_NN, eq_TT, ne_TT, eq_WW, ne_WW, -List.getD_eq_getElem?_getD, oNot, neg_1, dOf_d, isTup_T, isTup_W, list_T, Ev, ph_seen_houses_eq p c hx, seen_way p c hx]
    · rw [ne_TT, decide_eq_true rfl]; rfl
  · refine mT_b ((m2_eq (x := .d (.bool (decide (M = 0)))) (y := .d (.bool (decide (S = hs.length)))) ?_ ?_).trans ?_)
    · simp [fnV, enOf, mSeq, mRet, mRetV, mAnd, mOr, mIf, mIfS, mT, tNotM, tAndM, tOrM, mCall, mArgs, mCons, mNil, mVar, mC, m1, m2, o1, o2, mDrop, mSet, mSets, mUnp, mTup, mLst, mImm, datas, setsO, bindO, bind_ret, bind_fail, must_t, ofO_some, isB, mChain, Nat.beq, List.replicate, il0, il1, il2, il3, il4, il5, il6, il7, il8, il9, il10, il11, il12, il60, setsE, visE, demE, visO, demO, gTupM, gsCons, gsNil, len_T, len_W, len_L, add_N, sub_N, in_T, le_NN, lt_NN, gt_NN, ge_NN, eq_NN, ne_NN, eq_TT, ne_TT, eq_WW, ne_WW, -List.getD_eq_getElem?_getD, oNot, neg_1, dOf_d, isTup_T, isTup_W, list_T, Ev, hgg]
    · simp [fnV, enOf, mSeq, mRet, mRetV, mAnd, mOr, mIf, mIfS, mT, tNotM, tAndM, tOrM, mCall, mArgs, mCons, mNil, mVar, mC, m1, m2, o1, o2, mDrop, mSet, mSets, mUnp, mTup, mLst, mImm, datas, setsO, bindO, bind_ret, bind_fail, must_t, ofO_some, isB, mChain, Nat.beq, List.replicate, il0, il1, il2, il3, il4, il5, il6, il7, il8, il9, il10, il11, il12, il60, setsE, visE, demE, visO, demO, gTupM, gsCons, gsNil, len_T, len_W, len_L, add_N, sub_N, in_T, le_NN, lt_NN, gt_NN, ge_NN, eq_NN, ne_NN, eq_TT, ne_TT, eq_WW, ne_WW, -List.getD_eq_getElem?_getD, oNot, neg_1, dOf_d, isTup_T, isTup_W, list_T, Ev]
    · rw [ne_BB, show decide (M = 0) = decide (S = hs.length) from decide_eq_decide.mpr ⟨sn, fun z => by omega⟩]
      cases decide (S = hs.length) <;> rfl
  · simp [fnV, enOf, mSeq, mRet, mRetV, mAnd, mOr, mIf, mIfS, mT, tNotM, tAndM, tOrM, mCall, mArgs, mCons, mNil, mVar, mC, m1, m2, o1, o2, mDrop, mSet, mSets, mUnp, mTup, mLst, mImm, datas, setsO, bindO, bind_ret, bind_fail, must_t, ofO_some, isB, mChain, Nat.beq, List.replicate, il0, il1, il2, il3, il4, il5, il6, il7, il8, il9, il10, il11, il12, il60, setsE, visE, demE, visO, demO, gTupM, gsCons, gsNil, len_T, len_W, len_L, add_N, sub_N, in_T, le_NN, lt_NN, gt_NN, ge_NN, eq_NN, ne_NN, eq_TT, ne_TT, eq_WW, ne_WW, -List.getD_eq_getElem?_getD, oNot, neg_1, dOf_d, isTup_T, isTup_W, list_T, Ev, hgg, sub_N (show M ≤ hs.length by omega)]
    omega
  · refine mT_b ((m2_eq (x := .d (.list (((wayN w l hs x).tail.filter fun y => !decide (y ∈ hs)).map dN))) (y := .d (.list [])) (mLC_eq (wayN w l hs x).tail (fun n => .d (dN n)) (fun y => !decide (y ∈ hs)) dN ?_ (by rw [List.length_tail]; omega) ?_ ?_) ?_).trans ?_)
    · show (oCut (.d (dT (wayN w l hs x))) (some 1) none).bind (itemsX true) = _
      rw [wr, cut_1]
      show T.ret ((r.map dN).map W.d) = _
      rw [List.map_map]; rfl
    · intro y hy
      simp [fnV, enOf, mSeq, mRet, mRetV, mAnd, mOr, mIf, mIfS, mT, tNotM, tAndM, tOrM, mCall, mArgs, mCons, mNil, mVar, mC, m1, m2, o1, o2, mDrop, mSet, mSets, mUnp, mTup, mLst, mImm, datas, setsO, bindO, bind_ret, bind_fail, must_t, ofO_some, isB, mChain, Nat.beq, List.replicate, il0, il1, il2, il3, il4, il5, il6, il7, il8, il9, il10, il11, il12, il60, setsE, visE, demE, visO, demO, gTupM, gsCons, gsNil, len_T, len_W, len_L, add_N, sub_N, in_T, le_NN, lt_NN, gt_NN, ge_NN, eq_NN, ne_NN, eq_TT, ne_TT, eq_WW, ne_WW, -List.getD_eq_getElem?_getD, oNot, neg_1, dOf_d, isTup_T, isTup_W, list_T, Ev]
    · intro y hy _
      simp [fnV, enOf, mSeq, mRet, mRetV, mAnd, mOr, mIf, mIfS, mT, tNotM, tAndM, tOrM, mCall, mArgs, mCons, mNil, mVar, mC, m1, m2, o1, o2, mDrop, mSet, mSets, mUnp, mTup, mLst, mImm, datas, setsO, bindO, bind_ret, bind_fail, must_t, ofO_some, isB, mChain, Nat.beq, List.replicate, il0, il1, il2, il3, il4, il5, il6, il7, il8, il9, il10, il11, il12, il60, setsE, visE, demE, visO, demO, gTupM, gsCons, gsNil, len_T, len_W, len_L, add_N, sub_N, in_T, le_NN, lt_NN, gt_NN, ge_NN, eq_NN, ne_NN, eq_TT, ne_TT, eq_WW, ne_WW, -List.getD_eq_getElem?_getD, oNot, neg_1, dOf_d, isTup_T, isTup_W, list_T, Ev, imm_dN, W.imm]
    · simp [fnV, enOf, mSeq, mRet, mRetV, mAnd, mOr, mIf, mIfS, mT, tNotM, tAndM, tOrM, mCall, mArgs, mCons, mNil, mVar, mC, m1, m2, o1, o2, mDrop, mSet, mSets, mUnp, mTup, mLst, mImm, datas, setsO, bindO, bind_ret, bind_fail, must_t, ofO_some, isB, mChain, Nat.beq, List.replicate, il0, il1, il2, il3, il4, il5, il6, il7, il8, il9, il10, il11, il12, il60, setsE, visE, demE, visO, demO, gTupM, gsCons, gsNil, len_T, len_W, len_L, add_N, sub_N, in_T, le_NN, lt_NN, gt_NN, ge_NN, eq_NN, ne_NN, eq_TT, ne_TT, eq_WW, ne_WW, -List.getD_eq_getElem?_getD, oNot, neg_1, dOf_d, isTup_T, isTup_W, list_T, must_le (show 0 ≤ lim by decide)]
    · refine ne_nil (flat_dN 19) eqv_dN ?_
      rw [List.filter_eq_nil_iff]
      intro y hy
      rw [decide_eq_true (wt y hy)]; decide
  · have s1 : 1 ≤ (sortN (wayN w l hs x)).length := List.length_pos_iff.mpr fun z => by
      have : l.getD x 0 ∈ sortN (wayN w l hs x) := sortN_mem.mpr (by rw [wr]; exact List.mem_cons_self)
      rw [z] at this; cases this
    have s2 := sortN_len (wayN w l hs x)
    refine mT_b ((m2_eq (x := .d (dN M)) (y := .d (dN ((sortN (wayN w l hs x)).length - 1))) ?_ ?_).trans ?_)
    · simp [fnV, enOf, mSeq, mRet, mRetV, mAnd, mOr, mIf, mIfS, mT, tNotM, tAndM, tOrM, mCall, mArgs, mCons, mNil, mVar, mC, m1, m2, o1, o2, mDrop, mSet, mSets, mUnp, mTup, mLst, mImm, datas, setsO, bindO, bind_ret, bind_fail, must_t, ofO_some, isB, mChain, Nat.beq, List.replicate, il0, il1, il2, il3, il4, il5, il6, il7, il8, il9, il10, il11, il12, il60, setsE, visE, demE, visO, demO, gTupM, gsCons, gsNil, len_T, len_W, len_L, add_N, sub_N, in_T, le_NN, lt_NN, gt_NN, ge_NN, eq_NN, ne_NN, eq_TT, ne_TT, eq_WW, ne_WW, -List.getD_eq_getElem?_getD, oNot, neg_1, dOf_d, isTup_T, isTup_W, list_T, Ev, hgg]
    · refine (m2_eq ((m1_eq (x := .d (dT (wayN w l hs x))) rfl).trans (lenSet_T (by omega))) (y := .d (dN 1)) rfl).trans (sub_N s1)
    · rw [lt_NN, decide_eq_false (by omega)]
  · refine mT_b ((m2_eq (x := .d (dN ((runN w l hs).getD x 0))) (y := .d (dN ((runN w l hs).getD x 0))) ?_ ?_).trans ?_)
    · refine (m2_eq (x := .d (dT (wayN w l hs x))) (y := .d (.int (-1))) rfl rfl).trans ((get_lastT wn).trans ?_)
      rw [wa]
    · simp [fnV, enOf, mSeq, mRet, mRetV, mAnd, mOr, mIf, mIfS, mT, tNotM, tAndM, tOrM, mCall, mArgs, mCons, mNil, mVar, mC, m1, m2, o1, o2, mDrop, mSet, mSets, mUnp, mTup, mLst, mImm, datas, setsO, bindO, bind_ret, bind_fail, must_t, ofO_some, isB, mChain, Nat.beq, List.replicate, il0, il1, il2, il3, il4, il5, il6, il7, il8, il9, il10, il11, il12, il60, setsE, visE, demE, visO, demO, gTupM, gsCons, gsNil, len_T, len_W, len_L, add_N, sub_N, in_T, le_NN, lt_NN, gt_NN, ge_NN, eq_NN, ne_NN, eq_TT, ne_TT, eq_WW, ne_WW, -List.getD_eq_getElem?_getD, oNot, neg_1, dOf_d, isTup_T, isTup_W, list_T, Ev, ph_after_eq p c, get_Tg (show x < (runN w l hs).length by rw [runN_len]; exact hx)]
    · rw [ne_NN, decide_eq_true rfl]; rfl
theorem itemsX_T (a : List Nat) : itemsX true (.d (dT a)) = .ret (a.map fun n => W.d (dN n)) := by
  show T.ret ((a.map dN).map W.d) = _
  rw [List.map_map]; rfl
theorem tup0 (en : En) : mTup mNil en = .ret (.d (dT [])) := rfl
theorem andM {a b : En → T Bool} {en : En} {x y : Bool} (h1 : a en = .ret x) (h2 : b en = .ret y) : tAndM a b en = .ret (x && y) := by
  unfold tAndM; rw [h1]
  cases x with
  | false => rfl
  | true => exact h2
theorem eq_nil {α : Type} [DecidableEq α] {f : α → D} (hf : ∀ x, flat 19 (f x) = true) (h : ∀ x y, PyData.eqv (f x) (f y) = decide (x = y)) (a : List α) : oDD pAny PyData.eqv (.d (.list (a.map f))) (.d (.list [])) = .ret (.d (.bool (decide (a = [])))) := eq_LL hf h a []
theorem gone_get {k : Nat} {ma mb : En → T W} {en : En} (hk : k < hs.length) (h1 : ma en = .ret (.d (dW (gL w l hs)))) (h2 : mb en = .ret (.d (dN k))) : m2 oGet ma mb en = .ret (.d (dT (goneN w l hs k))) := by
  refine (m2_eq h1 h2).trans (get_W ?_)
  unfold gL
  rw [List.getElem?_map, List.getElem?_range hk]; rfl
def lwT : List (En → T Out) := [(mIfS (tOrM (mT (m2 (oDD pAny fNe) (mLC (fun en => ((mVar 12) en).bind itemsOf) (fun x => .ret [(11, x)]) [11] (mT (m2 (oDD pAny PyData.eqv) (m2 oGet (mVar 5) (mVar 11)) (mTup mNil))) (mImm (mVar 11))) (mLst mNil))) (mT (m2 (oDD pLt ltD) (mArgs (o1 oLenX) (mCons (mVar 12) mNil)) (mArgs (o1 (oPickT fun a b => ltD b a)) (mCons (mVar 6) mNil))))) (mSeq (mRet (mC (.bool false)))
  (fun en => .ret (.nx en))) (fun en => .ret (.nx en))),
  (mSet 13 (mArgs (o1 oSumX) (mCons (mLC (fun en => ((mCons (mArgs (o1 oLenX) (mCons (mVar 2) mNil)) mNil) en).bind rng1) (fun x => .ret [(16, x)]) [16] (fun _ => .ret true) (mArgs (o1 oLenX) (mCons (m2 oGet (mCall (fun xs => T.must (Nat.beq xs.length 3) (ph_drawn xs)) (mCons (mVar 2) (mCons (mVar 3) (mCons (mTup (mCons (mVar 16) mNil)) mNil)))) (mC (.int (0)))) mNil))) mNil))),
  (mIfS (mT (m2 (oDD pAny fNe) (mCall (fun xs => T.must (Nat.beq xs.length 2) (ph_mean_drawn xs)) (mCons (mVar 2) (mCons (mVar 3) mNil))) (mCall (fun xs => T.must (Nat.beq xs.length 2) (ph__law_lowest xs)) (mCons (mVar 13) (mCons (mArgs (o1 oLenX) (mCons (mVar 2) mNil)) mNil))))) (mSeq (mRet (mC (.bool false)))
  (fun en => .ret (.nx en))) (fun en => .ret (.nx en))),
  (mIfS (mT (m2 (oDD pAny fNe) (mCall (fun xs => T.must (Nat.beq xs.length 2) (ph_drawing_chance xs)) (mCons (mVar 2) (mCons (mVar 3) mNil))) (mCall (fun xs => T.must (Nat.beq xs.length 2) (ph__law_lowest xs)) (mCons (mArgs (o1 oLenX) (mCons (mCall (fun xs => T.must (Nat.beq xs.length 2) (ph_movers xs)) (mCons (mVar 2) (mCons (mVar 3) mNil))) mNil)) (mCons (mArgs (o1 oLenX) (mCons (mVar 2) mNil)) mNil))))) (mSeq (mRet (mC (.bool false)))
  (fun en => .ret (.nx en))) (fun en => .ret (.nx en))),
  (mIfS (mT (m2 (oDD pAny fNe) (mLC (fun en => ((mCall (fun xs => T.must (Nat.beq xs.length 2) (ph_movers xs)) (mCons (mVar 2) (mCons (mVar 3) mNil))) en).bind (itemsX true)) (fun x => .ret [(16, x)]) [16] (mT (m2 (oDD pAny PyData.eqv) (mCall (fun xs => T.must (Nat.beq xs.length 3) (ph_call xs)) (mCons (mVar 2) (mCons (mVar 3) (mCons (mVar 16) mNil)))) (mVar 3))) (mImm (mVar 16))) (mLst mNil))) (mSeq (mRet (mC (.bool false)))
  (fun en => .ret (.nx en))) (fun en => .ret (.nx en))),
  (mIfS (mT (m2 (oDD pAny fNe) (m2 (oDD pAny PyData.eqv) (mCall (fun xs => T.must (Nat.beq xs.length 2) (ph_movers xs)) (mCons (mVar 2) (mCons (mVar 3) mNil))) (mTup mNil)) (m2 (oDD pAny PyData.eqv) (mLC (fun en => ((mCall (fun xs => T.must (Nat.beq xs.length 2) (ph_in_use xs)) (mCons (mVar 2) (mCons (mVar 3) mNil))) en).bind (itemsX true)) (fun x => .ret [(15, x)]) [15] (mT (m2 (oDD pAny fNe) (mCall (fun xs => T.must (Nat.beq xs.length 2) (ph_neighbours xs)) (mCons (mVar 2) (mCons (mVar 15) mNil))) (mTup mNil))) (mImm (mVar 15))) (mLst mNil)))) (mSeq (mRet (mC (.bool false)))
  (fun en => .ret (.nx en))) (fun en => .ret (.nx en))),
  (mRet (m2 (oDD pAny PyData.eqv) (mLC (fun en => ((mCall (fun xs => T.must (Nat.beq xs.length 3) (ph_seen_by_all xs)) (mCons (mVar 2) (mCons (mVar 3) (mCons (mVar 4) mNil)))) en).bind (itemsX true)) (fun x => .ret [(16, x)]) [16] (tAndM (mT (m2 (oInX true) (mVar 16) (mVar 4))) (mT (m2 (oDD pAny fNe) (mLC (fun en => ((mVar 3) en).bind itemsOf) (fun x => .ret [(15, x)]) [15] (mT (m2 (oDD pAny fNe) (mVar 15) (mVar 16))) (mImm (mVar 15))) (mLst mNil)))) (mImm (mVar 16))) (mLst mNil)))]
theorem tail_ok (p : Pl w l) (c : Ca w hs) (h12 : hs.length ≤ 12) (a7 a8 a9 a10 a11 : Option Slot) : nest lwT mNx (Ev w l hs a7 a8 a9 a10 a11 (some ⟨0, .d (.list ((restN w l hs).map dN))⟩) none) = .ret (.rt (.d (.bool true))) := by
  have ok := p.web
  have w6 := ok.most
  have w1 := ok.pos
  unfold lwT
  simp only [nest]
  refine seq_nx (ifS_f (orF ?_ ?_) rfl) (seq_nx (set_eq (x := .d (dN (l.map fun t => (w.getD t []).length).sum)) ?_) (seq_nx (ifS_f ?_ rfl) (seq_nx (ifS_f ?_ rfl) (seq_nx (ifS_f ?_ rfl) (seq_nx (ifS_f ?_ rfl) (seq_rt (ret_eq ?_)))))))
  · refine mT_b ((m2_eq (x := .d (.list (((restN w l hs).filter fun k => decide (goneN w l hs k = [])).map dN))) (y := .d (.list [])) (mLC_eq (restN w l hs) (fun n => .d (dN n)) (fun k => decide (goneN w l hs k = [])) dN ?_ ?_ ?_ ?_) ?_).trans ?_)
    · simp [fnV, enOf, mSeq, mRet, mRetV, mAnd, mOr, mIf, mIfS, mT, tNotM, tAndM, tOrM, mCall, mArgs, mCons, mNil, mVar, mC, m1, m2, o1, o2, mDrop, mSet, mSets, mUnp, mTup, mLst, mImm, datas, setsO, bindO, bind_ret, bind_fail, must_t, ofO_some, isB, mChain, Nat.beq, List.replicate, il0, il1, il2, il3, il4, il5, il6, il7, il8, il9, il10, il11, il12, il60, setsE, visE, demE, visO, demO, gTupM, gsCons, gsNil, len_T, len_W, len_L, add_N, sub_N, in_T, le_NN, lt_NN, gt_NN, ge_NN, eq_NN, ne_NN, eq_TT, ne_TT, eq_WW, ne_WW, -List.getD_eq_getElem?_getD, oNot, neg_1, dOf_d, isTup_T, isTup_W, list_T, Ev, itemsOf]
    · have := List.length_filter_le (fun k => !decide (k ∈ stillN w l hs)) (List.range hs.length)
      rw [List.length_range] at this
      unfold restN; omega
    · intro k hk
      have hk : k < hs.length := by
        unfold restN at hk
        exact List.mem_range.mp (List.mem_filter.mp hk).1
      refine mT_b ((m2_eq (x := .d (dT (goneN w l hs k))) (y := .d (dT [])) (gone_get hk rfl rfl) (tup0 _)).trans (eq_TT _ _))
    · intro k hk _
      simp [fnV, enOf, mSeq, mRet, mRetV, mAnd, mOr, mIf, mIfS, mT, tNotM, tAndM, tOrM, mCall, mArgs, mCons, mNil, mVar, mC, m1, m2, o1, o2, mDrop, mSet, mSets, mUnp, mTup, mLst, mImm, datas, setsO, bindO, bind_ret, bind_fail, must_t, ofO_some, isB, mChain, Nat.beq, List.replicate, il0, il1, il2, il3, il4, il5, il6, il7, il8, il9, il10, il11, il12, il60, setsE, visE, demE, visO, demO, gTupM, gsCons, gsNil, len_T, len_W, len_L, add_N, sub_N, in_T, le_NN, lt_NN, gt_NN, ge_NN, eq_NN, ne_NN, eq_TT, ne_TT, eq_WW, ne_WW, -List.getD_eq_getElem?_getD, oNot, neg_1, dOf_d, isTup_T, isTup_W, list_T, Ev, imm_dN, W.imm]
    · simp [fnV, enOf, mSeq, mRet, mRetV, mAnd, mOr, mIf, mIfS, mT, tNotM, tAndM, tOrM, mCall, mArgs, mCons, mNil, mVar, mC, m1, m2, o1, o2, mDrop, mSet, mSets, mUnp, mTup, mLst, mImm, datas, setsO, bindO, bind_ret, bind_fail, must_t, ofO_some, isB, mChain, Nat.beq, List.replicate, il0, il1, il2, il3, il4, il5, il6, il7, il8, il9, il10, il11, il12, il60, setsE, visE, demE, visO, demO, gTupM, gsCons, gsNil, len_T, len_W, len_L, add_N, sub_N, in_T, le_NN, lt_NN, gt_NN, ge_NN, eq_NN, ne_NN, eq_TT, ne_TT, eq_WW, ne_WW, -List.getD_eq_getElem?_getD, oNot, neg_1, dOf_d, isTup_T, isTup_W, list_T, must_le (show 0 ≤ lim by decide)]
    · refine ne_nil (flat_dN 19) eqv_dN ?_
      rw [List.filter_eq_nil_iff]
      intro k hk
      rw [decide_eq_false (rest_gone hk)]; decide
  · obtain ⟨x, r, hc⟩ : ∃ x r, cN w l hs = x :: r := by
      cases e : cN w l hs with
      | nil => have := cN_len (w := w) (l := l) (hs := hs); rw [e] at this; have := p.one; simp at *; omega
      | cons x r => exact ⟨x, r, rfl⟩
    have hb : ∀ y ∈ cN w l hs, y ≤ (restN w l hs).length := fun y hy => by
      unfold cN at hy
      obtain ⟨g, _, rfl⟩ := List.mem_map.mp hy
      exact rest_moves
    have hm : r.foldl max x ≤ (restN w l hs).length := foldl_max_le (hb x (by rw [hc]; exact List.mem_cons_self)) fun y hy => hb y (by rw [hc]; exact List.mem_cons_of_mem _ hy)
    refine mT_b ((m2_eq (x := .d (dN (restN w l hs).length)) (y := .d (dN (r.foldl max x))) ?_ ?_).trans ?_)
    · simp [fnV, enOf, mSeq, mRet, mRetV, mAnd, mOr, mIf, mIfS, mT, tNotM, tAndM, tOrM, mCall, mArgs, mCons, mNil, mVar, mC, m1, m2, o1, o2, mDrop, mSet, mSets, mUnp, mTup, mLst, mImm, datas, setsO, bindO, bind_ret, bind_fail, must_t, ofO_some, isB, mChain, Nat.beq, List.replicate, il0, il1, il2, il3, il4, il5, il6, il7, il8, il9, il10, il11, il12, il60, setsE, visE, demE, visO, demO, gTupM, gsCons, gsNil, len_T, len_W, len_L, add_N, sub_N, in_T, le_NN, lt_NN, gt_NN, ge_NN, eq_NN, ne_NN, eq_TT, ne_TT, eq_WW, ne_WW, -List.getD_eq_getElem?_getD, oNot, neg_1, dOf_d, isTup_T, isTup_W, list_T, Ev]
    · refine (args1 (x := .d (dT (cN w l hs))) rfl).trans ?_
      rw [hc, max_T]
    · rw [lt_NN, decide_eq_false (by omega)]
  · refine (args1 (mLC_all (List.range w.length) (fun n => .d (dN n)) (fun h => dN (goneN w l [h] 0).length) ?_ (by rw [List.length_range]; omega) ?_)).trans ?_
    · simp [fnV, enOf, mSeq, mRet, mRetV, mAnd, mOr, mIf, mIfS, mT, tNotM, tAndM, tOrM, mCall, mArgs, mCons, mNil, mVar, mC, m1, m2, o1, o2, mDrop, mSet, mSets, mUnp, mTup, mLst, mImm, datas, setsO, bindO, bind_ret, bind_fail, must_t, ofO_some, isB, mChain, Nat.beq, List.replicate, il0, il1, il2, il3, il4, il5, il6, il7, il8, il9, il10, il11, il12, il60, setsE, visE, demE, visO, demO, gTupM, gsCons, gsNil, len_T, len_W, len_L, add_N, sub_N, in_T, le_NN, lt_NN, gt_NN, ge_NN, eq_NN, ne_NN, eq_TT, ne_TT, eq_WW, ne_WW, -List.getD_eq_getElem?_getD, oNot, neg_1, dOf_d, isTup_T, isTup_W, list_T, Ev, rng_N (show w.length ≤ 100000 by omega)]
    · intro h hh
      rw [List.mem_range] at hh
      have c1 : Ca w [h] := ⟨by simp, fun x hx => by rw [List.mem_singleton.mp hx]; exact hh⟩
      have e0 : dT [h] = .tuple [dN h] := rfl
      have e2 : (List.range [h].length).map (goneN w l [h]) = [goneN w l [h] 0] := rfl
      have e1 := ph_drawn_eq p c1
      rw [e0, e2] at e1
      refine (args1 (x := .d (dT (goneN w l [h] 0))) ?_).trans (len_T _)
      refine (m2_eq (x := .d (dW [goneN w l [h] 0])) (y := .d (dN 0)) ?_ (show mC (.int 0) _ = .ret (.d (dN 0)) from rfl)).trans (get_W (l := [goneN w l [h] 0]) (i := 0) (x := goneN w l [h] 0) rfl)
      simp [fnV, enOf, mSeq, mRet, mRetV, mAnd, mOr, mIf, mIfS, mT, tNotM, tAndM, tOrM, mCall, mArgs, mCons, mNil, mVar, mC, m1, m2, o1, o2, mDrop, mSet, mSets, mUnp, mTup, mLst, mImm, datas, setsO, bindO, bind_ret, bind_fail, must_t, ofO_some, isB, mChain, Nat.beq, List.replicate, il0, il1, il2, il3, il4, il5, il6, il7, il8, il9, il10, il11, il12, il60, setsE, visE, demE, visO, demO, gTupM, gsCons, gsNil, len_T, len_W, len_L, add_N, sub_N, in_T, le_NN, lt_NN, gt_NN, ge_NN, eq_NN, ne_NN, eq_TT, ne_TT, eq_WW, ne_WW, -List.getD_eq_getElem?_getD, oNot, neg_1, dOf_d, isTup_T, isTup_W, list_T, Ev, must_le (show 1 ≤ lim by decide), e1]
    · have := sum_N ((List.range w.length).map fun h => (goneN w l [h] 0).length)
      rw [List.map_map, total_eq p] at this
      exact this
  · refine mT_b ((m2_eq (x := .d (dT (lowN (l.map fun t => (w.getD t []).length).sum w.length))) (y := .d (dT (lowN (l.map fun t => (w.getD t []).length).sum w.length))) ?_ ?_).trans ?_)
    · simp [fnV, enOf, mSeq, mRet, mRetV, mAnd, mOr, mIf, mIfS, mT, tNotM, tAndM, tOrM, mCall, mArgs, mCons, mNil, mVar, mC, m1, m2, o1, o2, mDrop, mSet, mSets, mUnp, mTup, mLst, mImm, datas, setsO, bindO, bind_ret, bind_fail, must_t, ofO_some, isB, mChain, Nat.beq, List.replicate, il0, il1, il2, il3, il4, il5, il6, il7, il8, il9, il10, il11, il12, il60, setsE, visE, demE, visO, demO, gTupM, gsCons, gsNil, len_T, len_W, len_L, add_N, sub_N, in_T, le_NN, lt_NN, gt_NN, ge_NN, eq_NN, ne_NN, eq_TT, ne_TT, eq_WW, ne_WW, -List.getD_eq_getElem?_getD, oNot, neg_1, dOf_d, isTup_T, isTup_W, list_T, Ev, ph_mean_drawn_eq p]
    · simp [fnV, enOf, mSeq, mRet, mRetV, mAnd, mOr, mIf, mIfS, mT, tNotM, tAndM, tOrM, mCall, mArgs, mCons, mNil, mVar, mC, m1, m2, o1, o2, mDrop, mSet, mSets, mUnp, mTup, mLst, mImm, datas, setsO, bindO, bind_ret, bind_fail, must_t, ofO_some, isB, mChain, Nat.beq, List.replicate, il0, il1, il2, il3, il4, il5, il6, il7, il8, il9, il10, il11, il12, il60, setsE, visE, demE, visO, demO, gTupM, gsCons, gsNil, len_T, len_W, len_L, add_N, sub_N, in_T, le_NN, lt_NN, gt_NN, ge_NN, eq_NN, ne_NN, eq_TT, ne_TT, eq_WW, ne_WW, -List.getD_eq_getElem?_getD, oNot, neg_1, dOf_d, isTup_T, isTup_W, list_T, Ev, ph__law_lowest_eq (show 0 < w.length by omega) (show w.length < 100000 by omega)]
    · rw [ne_TT, decide_eq_true rfl]; rfl
  · refine mT_b ((m2_eq (x := .d (dT (lowN (moversN w l).length w.length))) (y := .d (dT (lowN (moversN w l).length w.length))) ?_ ?_).trans ?_)
    · simp [fnV, enOf, mSeq, mRet, mRetV, mAnd, mOr, mIf, mIfS, mT, tNotM, tAndM, tOrM, mCall, mArgs, mCons, mNil, mVar, mC, m1, m2, o1, o2, mDrop, mSet, mSets, mUnp, mTup, mLst, mImm, datas, setsO, bindO, bind_ret, bind_fail, must_t, ofO_some, isB, mChain, Nat.beq, List.replicate, il0, il1, il2, il3, il4, il5, il6, il7, il8, il9, il10, il11, il12, il60, setsE, visE, demE, visO, demO, gTupM, gsCons, gsNil, len_T, len_W, len_L, add_N, sub_N, in_T, le_NN, lt_NN, gt_NN, ge_NN, eq_NN, ne_NN, eq_TT, ne_TT, eq_WW, ne_WW, -List.getD_eq_getElem?_getD, oNot, neg_1, dOf_d, isTup_T, isTup_W, list_T, Ev, ph_drawing_chance_eq p]
    · simp [fnV, enOf, mSeq, mRet, mRetV, mAnd, mOr, mIf, mIfS, mT, tNotM, tAndM, tOrM, mCall, mArgs, mCons, mNil, mVar, mC, m1, m2, o1, o2, mDrop, mSet, mSets, mUnp, mTup, mLst, mImm, datas, setsO, bindO, bind_ret, bind_fail, must_t, ofO_some, isB, mChain, Nat.beq, List.replicate, il0, il1, il2, il3, il4, il5, il6, il7, il8, il9, il10, il11, il12, il60, setsE, visE, demE, visO, demO, gTupM, gsCons, gsNil, len_T, len_W, len_L, add_N, sub_N, in_T, le_NN, lt_NN, gt_NN, ge_NN, eq_NN, ne_NN, eq_TT, ne_TT, eq_WW, ne_WW, -List.getD_eq_getElem?_getD, oNot, neg_1, dOf_d, isTup_T, isTup_W, list_T, Ev, ph_movers_eq p, ph__law_lowest_eq (show 0 < w.length by omega) (show w.length < 100000 by omega)]
    · rw [ne_TT, decide_eq_true rfl]; rfl
  · refine mT_b ((m2_eq (x := .d (.list (((moversN w l).filter fun h => decide (callN w l h = l)).map dN))) (y := .d (.list [])) (mLC_eq (moversN w l) (fun n => .d (dN n)) (fun h => decide (callN w l h = l)) dN ?_ ?_ ?_ ?_) ?_).trans ?_)
    · simp [fnV, enOf, mSeq, mRet, mRetV, mAnd, mOr, mIf, mIfS, mT, tNotM, tAndM, tOrM, mCall, mArgs, mCons, mNil, mVar, mC, m1, m2, o1, o2, mDrop, mSet, mSets, mUnp, mTup, mLst, mImm, datas, setsO, bindO, bind_ret, bind_fail, must_t, ofO_some, isB, mChain, Nat.beq, List.replicate, il0, il1, il2, il3, il4, il5, il6, il7, il8, il9, il10, il11, il12, il60, setsE, visE, demE, visO, demO, gTupM, gsCons, gsNil, len_T, len_W, len_L, add_N, sub_N, in_T, le_NN, lt_NN, gt_NN, ge_NN, eq_NN, ne_NN, eq_TT, ne_TT, eq_WW, ne_WW, -List.getD_eq_getElem?_getD, oNot, neg_1, dOf_d, isTup_T, isTup_W, list_T, Ev, ph_movers_eq p]
      exact itemsX_T _
    · have := List.length_filter_le (fun h => l.any fun t => decide (t ∈ w.getD h [])) (List.range w.length)
      rw [List.length_range] at this
      unfold moversN; omega
    · intro h hh
      simp [fnV, enOf, mSeq, mRet, mRetV, mAnd, mOr, mIf, mIfS, mT, tNotM, tAndM, tOrM, mCall, mArgs, mCons, mNil, mVar, mC, m1, m2, o1, o2, mDrop, mSet, mSets, mUnp, mTup, mLst, mImm, datas, setsO, bindO, bind_ret, bind_fail, must_t, ofO_some, isB, mChain, Nat.beq, List.replicate, il0, il1, il2, il3, il4, il5, il6, il7, il8, il9, il10, il11, il12, il60, setsE, visE, demE, visO, demO, gTupM, gsCons, gsNil, len_T, len_W, len_L, add_N, sub_N, in_T, le_NN, lt_NN, gt_NN, ge_NN, eq_NN, ne_NN, eq_TT, ne_TT, eq_WW, ne_WW, -List.getD_eq_getElem?_getD, oNot, neg_1, dOf_d, isTup_T, isTup_W, list_T, Ev, ph_call_eq p ((movers_mem p).mp hh).1]
    · intro h hh _
      simp [fnV, enOf, mSeq, mRet, mRetV, mAnd, mOr, mIf, mIfS, mT, tNotM, tAndM, tOrM, mCall, mArgs, mCons, mNil, mVar, mC, m1, m2, o1, o2, mDrop, mSet, mSets, mUnp, mTup, mLst, mImm, datas, setsO, bindO, bind_ret, bind_fail, must_t, ofO_some, isB, mChain, Nat.beq, List.replicate, il0, il1, il2, il3, il4, il5, il6, il7, il8, il9, il10, il11, il12, il60, setsE, visE, demE, visO, demO, gTupM, gsCons, gsNil, len_T, len_W, len_L, add_N, sub_N, in_T, le_NN, lt_NN, gt_NN, ge_NN, eq_NN, ne_NN, eq_TT, ne_TT, eq_WW, ne_WW, -List.getD_eq_getElem?_getD, oNot, neg_1, dOf_d, isTup_T, isTup_W, list_T, Ev, imm_dN, W.imm]
    · simp [fnV, enOf, mSeq, mRet, mRetV, mAnd, mOr, mIf, mIfS, mT, tNotM, tAndM, tOrM, mCall, mArgs, mCons, mNil, mVar, mC, m1, m2, o1, o2, mDrop, mSet, mSets, mUnp, mTup, mLst, mImm, datas, setsO, bindO, bind_ret, bind_fail, must_t, ofO_some, isB, mChain, Nat.beq, List.replicate, il0, il1, il2, il3, il4, il5, il6, il7, il8, il9, il10, il11, il12, il60, setsE, visE, demE, visO, demO, gTupM, gsCons, gsNil, len_T, len_W, len_L, add_N, sub_N, in_T, le_NN, lt_NN, gt_NN, ge_NN, eq_NN, ne_NN, eq_TT, ne_TT, eq_WW, ne_WW, -List.getD_eq_getElem?_getD, oNot, neg_1, dOf_d, isTup_T, isTup_W, list_T, must_le (show 0 ≤ lim by decide)]
    · refine ne_nil (flat_dN 19) eqv_dN ?_
      rw [List.filter_eq_nil_iff]
      intro h hh
      rw [decide_eq_false (movers_call p hh)]; decide
  · refine mT_b ((m2_eq (x := .d (.bool (decide (moversN w l = [])))) (y := .d (.bool (decide ((sortN l).filter (fun t => !decide (w.getD t [] = [])) = [])))) ?_ ((m2_eq (x := .d (.list (((sortN l).filter fun t => !decide (w.getD t [] = [])).map dN))) (y := .d (.list [])) (mLC_eq (sortN l) (fun n => .d (dN n)) (fun t => !decide (w.getD t [] = [])) dN ?_ ?_ ?_ ?_) ?_).trans ?_)).trans ?_)
    · refine (m2_eq (x := .d (dT (moversN w l))) (y := .d (dT [])) ?_ (tup0 _)).trans (eq_TT _ _)
      simp [fnV, enOf, mSeq, mRet, mRetV, mAnd, mOr, mIf, mIfS, mT, tNotM, tAndM, tOrM, mCall, mArgs, mCons, mNil, mVar, mC, m1, m2, o1, o2, mDrop, mSet, mSets, mUnp, mTup, mLst, mImm, datas, setsO, bindO, bind_ret, bind_fail, must_t, ofO_some, isB, mChain, Nat.beq, List.replicate, il0, il1, il2, il3, il4, il5, il6, il7, il8, il9, il10, il11, il12, il60, setsE, visE, demE, visO, demO, gTupM, gsCons, gsNil, len_T, len_W, len_L, add_N, sub_N, in_T, le_NN, lt_NN, gt_NN, ge_NN, eq_NN, ne_NN, eq_TT, ne_TT, eq_WW, ne_WW, -List.getD_eq_getElem?_getD, oNot, neg_1, dOf_d, isTup_T, isTup_W, list_T, Ev, ph_movers_eq p]
    · simp [fnV, enOf, mSeq, mRet, mRetV, mAnd, mOr, mIf, mIfS, mT, tNotM, tAndM, tOrM, mCall, mArgs, mCons, mNil, mVar, mC, m1, m2, o1, o2, mDrop, mSet, mSets, mUnp, mTup, mLst, mImm, datas, setsO, bindO, bind_ret, bind_fail, must_t, ofO_some, isB, mChain, Nat.beq, List.replicate, il0, il1, il2, il3, il4, il5, il6, il7, il8, il9, il10, il11, il12, il60, setsE, visE, demE, visO, demO, gTupM, gsCons, gsNil, len_T, len_W, len_L, add_N, sub_N, in_T, le_NN, lt_NN, gt_NN, ge_NN, eq_NN, ne_NN, eq_TT, ne_TT, eq_WW, ne_WW, -List.getD_eq_getElem?_getD, oNot, neg_1, dOf_d, isTup_T, isTup_W, list_T, Ev, ph_in_use_eq p]
      exact itemsX_T _
    · have := sortN_len l
      have := p.six
      omega
    · intro t ht
      have ht : t < w.length := p.row t (sortN_mem.mp ht)
      refine mT_b ((m2_eq (x := .d (dT (w.getD t []))) (y := .d (dT [])) ?_ (tup0 _)).trans (ne_TT _ _))
      simp [fnV, enOf, mSeq, mRet, mRetV, mAnd, mOr, mIf, mIfS, mT, tNotM, tAndM, tOrM, mCall, mArgs, mCons, mNil, mVar, mC, m1, m2, o1, o2, mDrop, mSet, mSets, mUnp, mTup, mLst, mImm, datas, setsO, bindO, bind_ret, bind_fail, must_t, ofO_some, isB, mChain, Nat.beq, List.replicate, il0, il1, il2, il3, il4, il5, il6, il7, il8, il9, il10, il11, il12, il60, setsE, visE, demE, visO, demO, gTupM, gsCons, gsNil, len_T, len_W, len_L, add_N, sub_N, in_T, le_NN, lt_NN, gt_NN, ge_NN, eq_NN, ne_NN, eq_TT, ne_TT, eq_WW, ne_WW, -List.getD_eq_getElem?_getD, oNot, neg_1, dOf_d, isTup_T, isTup_W, list_T, Ev, ph_neighbours_eq ok ht]
    · intro t ht _
      simp [fnV, enOf, mSeq, mRet, mRetV, mAnd, mOr, mIf, mIfS, mT, tNotM, tAndM, tOrM, mCall, mArgs, mCons, mNil, mVar, mC, m1, m2, o1, o2, mDrop, mSet, mSets, mUnp, mTup, mLst, mImm, datas, setsO, bindO, bind_ret, bind_fail, must_t, ofO_some, isB, mChain, Nat.beq, List.replicate, il0, il1, il2, il3, il4, il5, il6, il7, il8, il9, il10, il11, il12, il60, setsE, visE, demE, visO, demO, gTupM, gsCons, gsNil, len_T, len_W, len_L, add_N, sub_N, in_T, le_NN, lt_NN, gt_NN, ge_NN, eq_NN, ne_NN, eq_TT, ne_TT, eq_WW, ne_WW, -List.getD_eq_getElem?_getD, oNot, neg_1, dOf_d, isTup_T, isTup_W, list_T, Ev, imm_dN, W.imm]
    · simp [fnV, enOf, mSeq, mRet, mRetV, mAnd, mOr, mIf, mIfS, mT, tNotM, tAndM, tOrM, mCall, mArgs, mCons, mNil, mVar, mC, m1, m2, o1, o2, mDrop, mSet, mSets, mUnp, mTup, mLst, mImm, datas, setsO, bindO, bind_ret, bind_fail, must_t, ofO_some, isB, mChain, Nat.beq, List.replicate, il0, il1, il2, il3, il4, il5, il6, il7, il8, il9, il10, il11, il12, il60, setsE, visE, demE, visO, demO, gTupM, gsCons, gsNil, len_T, len_W, len_L, add_N, sub_N, in_T, le_NN, lt_NN, gt_NN, ge_NN, eq_NN, ne_NN, eq_TT, ne_TT, eq_WW, ne_WW, -List.getD_eq_getElem?_getD, oNot, neg_1, dOf_d, isTup_T, isTup_W, list_T, must_le (show 0 ≤ lim by decide)]
    · exact eq_nil (flat_dN 19) eqv_dN _
    · rw [ne_BB, show decide (moversN w l = []) = decide ((sortN l).filter (fun t => !decide (w.getD t [] = [])) = []) from decide_eq_decide.mpr (movers_none p)]
      cases decide ((sortN l).filter (fun t => !decide (w.getD t [] = [])) = []) <;> rfl
  · refine (m2_eq (x := .d (.list (((seenN w l hs).filter fun h => !decide (h ∈ hs) && !decide (l.filter (fun t => !decide (t = h)) = [])).map dN))) (y := .d (.list [])) (mLC_eq (seenN w l hs) (fun n => .d (dN n)) (fun h => !decide (h ∈ hs) && !decide (l.filter (fun t => !decide (t = h)) = [])) dN ?_ ?_ ?_ ?_) ?_).trans ?_
    · simp [fnV, enOf, mSeq, mRet, mRetV, mAnd, mOr, mIf, mIfS, mT, tNotM, tAndM, tOrM, mCall, mArgs, mCons, mNil, mVar, mC, m1, m2, o1, o2, mDrop, mSet, mSets, mUnp, mTup, mLst, mImm, datas, setsO, bindO, bind_ret, bind_fail, must_t, ofO_some, isB, mChain, Nat.beq, List.replicate, il0, il1, il2, il3, il4, il5, il6, il7, il8, il9, il10, il11, il12, il60, setsE, visE, demE, visO, demO, gTupM, gsCons, gsNil, len_T, len_W, len_L, add_N, sub_N, in_T, le_NN, lt_NN, gt_NN, ge_NN, eq_NN, ne_NN, eq_TT, ne_TT, eq_WW, ne_WW, -List.getD_eq_getElem?_getD, oNot, neg_1, dOf_d, isTup_T, isTup_W, list_T, Ev, ph_seen_by_all_eq p c]
      exact itemsX_T _
    · have := List.length_filter_le (fun h => (List.range l.length).all fun g => (storyP w l hs).any fun r => decide (r.getD g 0 = h)) (List.range w.length)
      rw [List.length_range] at this
      unfold seenN; omega
    · intro h hh
      refine andM (mT_b (b := !decide (h ∈ hs)) ?_) (mT_b (b := !decide (l.filter (fun t => !decide (t = h)) = [])) ((m2_eq (x := .d (.list ((l.filter fun t => !decide (t = h)).map dN))) (y := .d (.list [])) (mLC_eq l (fun n => .d (dN n)) (fun t => !decide (t = h)) dN ?_ ?_ ?_ ?_) ?_).trans ?_))
      · simp [fnV, enOf, mSeq, mRet, mRetV, mAnd, mOr, mIf, mIfS, mT, tNotM, tAndM, tOrM, mCall, mArgs, mCons, mNil, mVar, mC, m1, m2, o1, o2, mDrop, mSet, mSets, mUnp, mTup, mLst, mImm, datas, setsO, bindO, bind_ret, bind_fail, must_t, ofO_some, isB, mChain, Nat.beq, List.replicate, il0, il1, il2, il3, il4, il5, il6, il7, il8, il9, il10, il11, il12, il60, setsE, visE, demE, visO, demO, gTupM, gsCons, gsNil, len_T, len_W, len_L, add_N, sub_N, in_T, le_NN, lt_NN, gt_NN, ge_NN, eq_NN, ne_NN, eq_TT, ne_TT, eq_WW, ne_WW, -List.getD_eq_getElem?_getD, oNot, neg_1, dOf_d, isTup_T, isTup_W, list_T, Ev]
      · simp [fnV, enOf, mSeq, mRet, mRetV, mAnd, mOr, mIf, mIfS, mT, tNotM, tAndM, tOrM, mCall, mArgs, mCons, mNil, mVar, mC, m1, m2, o1, o2, mDrop, mSet, mSets, mUnp, mTup, mLst, mImm, datas, setsO, bindO, bind_ret, bind_fail, must_t, ofO_some, isB, mChain, Nat.beq, List.replicate, il0, il1, il2, il3, il4, il5, il6, il7, il8, il9, il10, il11, il12, il60, setsE, visE, demE, visO, demO, gTupM, gsCons, gsNil, len_T, len_W, len_L, add_N, sub_N, in_T, le_NN, lt_NN, gt_NN, ge_NN, eq_NN, ne_NN, eq_TT, ne_TT, eq_WW, ne_WW, -List.getD_eq_getElem?_getD, oNot, neg_1, dOf_d, isTup_T, isTup_W, list_T, Ev, items_T]
      · have := p.six; omega
      · intro t ht
        simp [fnV, enOf, mSeq, mRet, mRetV, mAnd, mOr, mIf, mIfS, mT, tNotM, tAndM, tOrM, mCall, mArgs, mCons, mNil, mVar, mC, m1, m2, o1, o2, mDrop, mSet, mSets, mUnp, mTup, mLst, mImm, datas, setsO, bindO, bind_ret, bind_fail, must_t, ofO_some, isB, mChain, Nat.beq, List.replicate, il0, il1, il2, il3, il4, il5, il6, il7, il8, il9, il10, il11, il12, il60, setsE, visE, demE, visO, demO, gTupM, gsCons, gsNil, len_T, len_W, len_L, add_N, sub_N, in_T, le_NN, lt_NN, gt_NN, ge_NN, eq_NN, ne_NN, eq_TT, ne_TT, eq_WW, ne_WW, -List.getD_eq_getElem?_getD, oNot, neg_1, dOf_d, isTup_T, isTup_W, list_T, Ev]
      · intro t ht _
        simp [fnV, enOf, mSeq, mRet, mRetV, mAnd, mOr, mIf, mIfS, mT, tNotM, tAndM, tOrM, mCall, mArgs, mCons, mNil, mVar, mC, m1, m2, o1, o2, mDrop, mSet, mSets, mUnp, mTup, mLst, mImm, datas, setsO, bindO, bind_ret, bind_fail, must_t, ofO_some, isB, mChain, Nat.beq, List.replicate, il0, il1, il2, il3, il4, il5, il6, il7, il8, il9, il10, il11, il12, il60, setsE, visE, demE, visO, demO, gTupM, gsCons, gsNil, len_T, len_W, len_L, add_N, sub_N, in_T, le_NN, lt_NN, gt_NN, ge_NN, eq_NN, ne_NN, eq_TT, ne_TT, eq_WW, ne_WW, -List.getD_eq_getElem?_getD, oNot, neg_1, dOf_d, isTup_T, isTup_W, list_T, Ev, imm_dN, W.imm]
      · simp [fnV, enOf, mSeq, mRet, mRetV, mAnd, mOr, mIf, mIfS, mT, tNotM, tAndM, tOrM, mCall, mArgs, mCons, mNil, mVar, mC, m1, m2, o1, o2, mDrop, mSet, mSets, mUnp, mTup, mLst, mImm, datas, setsO, bindO, bind_ret, bind_fail, must_t, ofO_some, isB, mChain, Nat.beq, List.replicate, il0, il1, il2, il3, il4, il5, il6, il7, il8, il9, il10, il11, il12, il60, setsE, visE, demE, visO, demO, gTupM, gsCons, gsNil, len_T, len_W, len_L, add_N, sub_N, in_T, le_NN, lt_NN, gt_NN, ge_NN, eq_NN, ne_NN, eq_TT, ne_TT, eq_WW, ne_WW, -List.getD_eq_getElem?_getD, oNot, neg_1, dOf_d, isTup_T, isTup_W, list_T, must_le (show 0 ≤ lim by decide)]
      · have := ne_LL (flat_dN 19) eqv_dN (l.filter fun t => !decide (t = h)) []
        exact this
    · intro h hh _
      simp [fnV, enOf, mSeq, mRet, mRetV, mAnd, mOr, mIf, mIfS, mT, tNotM, tAndM, tOrM, mCall, mArgs, mCons, mNil, mVar, mC, m1, m2, o1, o2, mDrop, mSet, mSets, mUnp, mTup, mLst, mImm, datas, setsO, bindO, bind_ret, bind_fail, must_t, ofO_some, isB, mChain, Nat.beq, List.replicate, il0, il1, il2, il3, il4, il5, il6, il7, il8, il9, il10, il11, il12, il60, setsE, visE, demE, visO, demO, gTupM, gsCons, gsNil, len_T, len_W, len_L, add_N, sub_N, in_T, le_NN, lt_NN, gt_NN, ge_NN, eq_NN, ne_NN, eq_TT, ne_TT, eq_WW, ne_WW, -List.getD_eq_getElem?_getD, oNot, neg_1, dOf_d, isTup_T, isTup_W, list_T, Ev, imm_dN, W.imm]
    · simp [fnV, enOf, mSeq, mRet, mRetV, mAnd, mOr, mIf, mIfS, mT, tNotM, tAndM, tOrM, mCall, mArgs, mCons, mNil, mVar, mC, m1, m2, o1, o2, mDrop, mSet, mSets, mUnp, mTup, mLst, mImm, datas, setsO, bindO, bind_ret, bind_fail, must_t, ofO_some, isB, mChain, Nat.beq, List.replicate, il0, il1, il2, il3, il4, il5, il6, il7, il8, il9, il10, il11, il12, il60, setsE, visE, demE, visO, demO, gTupM, gsCons, gsNil, len_T, len_W, len_L, add_N, sub_N, in_T, le_NN, lt_NN, gt_NN, ge_NN, eq_NN, ne_NN, eq_TT, ne_TT, eq_WW, ne_WW, -List.getD_eq_getElem?_getD, oNot, neg_1, dOf_d, isTup_T, isTup_W, list_T, must_le (show 0 ≤ lim by decide)]
    · refine (eq_nil (flat_dN 19) eqv_dN _).trans ?_
      rw [decide_eq_true]
      rw [List.filter_eq_nil_iff]
      intro h hh
      by_cases e : h ∈ hs
      · rw [decide_eq_true e]; simp
      · rw [seen_calls p c hh e, decide_eq_true rfl]; simp
theorem law_w : Wp (nest lw0 mNx (enLaw 17 1)) (fun o => o = .rt (.d (.bool true))) := by
  unfold lw0
  simp only [nest]
  refine seq_wp (set_wp ?_)
  refine Wp.eq (u := ph__law_web [.row, .d (dN 6)]) rfl ((ph__law_web_wp (by omega) (Nat.le_refl _)).mono ?_)
  rintro _ ⟨w, rfl, ok, hw6⟩
  have w6 := ok.most
  have w1 := ok.pos
  refine ⟨_, rfl, seq_wp ?_⟩
  refine Wp.bind (Wp.bind (Wp.bind ?_))
  refine Wp.eq (u := ph__law_put [.row, .d (dW w), .d (dN 5)]) rfl ((ph__law_put_wp w1 (by omega) (by omega) (by omega)).mono ?_)
  rintro _ ⟨l, rfl, l1, l5, lr⟩
  refine Wp.bind (Wp.bind ?_)
  refine Wp.eq (u := ph__law_row [.row, .d (dW w), .d (dN 12)]) rfl ((ph__law_row_wp w1 (by omega) (by omega)).mono ?_)
  rintro _ ⟨hs, rfl, h12, hr⟩
  have p : Pl w l := ⟨ok, l1, by omega, lr⟩
  have c : Ca w hs := ⟨by omega, hr⟩
  refine Wp.ret (Wp.ret (Wp.ret ?_))
  refine Wp.eq (u := .ret (.nx [none, some ⟨1, .row⟩, some ⟨0, .d (dW w)⟩, some ⟨0, .d (dT l)⟩, some ⟨0, .d (dT hs)⟩, none, none, none, none, none, none, none, none, none, none, none, none])) ?_ (Wp.ret ⟨_, rfl, ?_⟩)
  · rfl
  refine Wp.eq (u := .ret (.rt (.d (.bool true)))) ?_ (Wp.ret rfl)
  refine seq_nx (en1 := Ev w l hs none none none none none none none) ?_ (seq_nx (ifS_f ?_ rfl) (seq_nx (ifS_f ?_ rfl) (seq_nx (ifS_f ?_ rfl) ?_)))
  · simp [fnV, enOf, mSeq, mRet, mRetV, mAnd, mOr, mIf, mIfS, mT, tNotM, tAndM, tOrM, mCall, mArgs, mCons, mNil, mVar, mC, m1, m2, o1, o2, mDrop, mSet, mSets, mUnp, mTup, mLst, mImm, datas, setsO, bindO, bind_ret, bind_fail, must_t, ofO_some, isB, mChain, Nat.beq, List.replicate, il0, il1, il2, il3, il4, il5, il6, il7, il8, il9, il10, il11, il12, il60, setsE, visE, demE, visO, demO, gTupM, gsCons, gsNil, len_T, len_W, len_L, add_N, sub_N, in_T, le_NN, lt_NN, gt_NN, ge_NN, eq_NN, ne_NN, eq_TT, ne_TT, eq_WW, ne_WW, -List.getD_eq_getElem?_getD, oNot, neg_1, dOf_d, isTup_T, isTup_W, list_T, ph_drawn_eq p c, ph_moves_eq p c, must_le (show 2 ≤ lim by decide)]
    rfl
  · refine mT_b ((m2_eq (x := .d (dN (cN w l hs).sum)) (y := .d (dN ((gL w l hs).map List.length).sum)) ((args1 rfl).trans (sum_T _)) ((args1 (mLC_all (gL w l hs) (fun s => .d (dT s)) (fun s => dN s.length) ?_ (by rw [gL_len]; omega) ?_)).trans ?_)).trans ?_)
    · simp [fnV, enOf, mSeq, mRet, mRetV, mAnd, mOr, mIf, mIfS, mT, tNotM, tAndM, tOrM, mCall, mArgs, mCons, mNil, mVar, mC, m1, m2, o1, o2, mDrop, mSet, mSets, mUnp, mTup, mLst, mImm, datas, setsO, bindO, bind_ret, bind_fail, must_t, ofO_some, isB, mChain, Nat.beq, List.replicate, il0, il1, il2, il3, il4, il5, il6, il7, il8, il9, il10, il11, il12, il60, setsE, visE, demE, visO, demO, gTupM, gsCons, gsNil, len_T, len_W, len_L, add_N, sub_N, in_T, le_NN, lt_NN, gt_NN, ge_NN, eq_NN, ne_NN, eq_TT, ne_TT, eq_WW, ne_WW, -List.getD_eq_getElem?_getD, oNot, neg_1, dOf_d, isTup_T, isTup_W, list_T, Ev, items_W]
    · intro s hs
      simp [fnV, enOf, mSeq, mRet, mRetV, mAnd, mOr, mIf, mIfS, mT, tNotM, tAndM, tOrM, mCall, mArgs, mCons, mNil, mVar, mC, m1, m2, o1, o2, mDrop, mSet, mSets, mUnp, mTup, mLst, mImm, datas, setsO, bindO, bind_ret, bind_fail, must_t, ofO_some, isB, mChain, Nat.beq, List.replicate, il0, il1, il2, il3, il4, il5, il6, il7, il8, il9, il10, il11, il12, il60, setsE, visE, demE, visO, demO, gTupM, gsCons, gsNil, len_T, len_W, len_L, add_N, sub_N, in_T, le_NN, lt_NN, gt_NN, ge_NN, eq_NN, ne_NN, eq_TT, ne_TT, eq_WW, ne_WW, -List.getD_eq_getElem?_getD, oNot, neg_1, dOf_d, isTup_T, isTup_W, list_T, Ev]
    · have := sum_N ((gL w l hs).map List.length)
      rw [List.map_map] at this
      exact this
    · rw [ne_NN, show (cN w l hs).sum = ((gL w l hs).map List.length).sum from moves_sum, decide_eq_true rfl]; rfl
  · have hrl : (roadsN w).length ≤ 100000 := by
      rw [roadsN_len]
      have : ((List.range w.length).map fun h => ((w.getD h []).filter fun j => decide (h < j)).length).sum ≤ 5 * (List.range w.length).length := sum_le fun i hi => Nat.le_trans (List.length_filter_le _ _) (near_len ok (List.mem_range.mp hi))
      rw [List.length_range] at this
      omega
    refine mT_b ((m2_eq (x := .d (dT (lowN ((List.range w.length).map fun h => (w.getD h []).length).sum w.length))) (y := .d (dT (lowN (2 * (roadsN w).length) w.length))) ?_ ?_).trans ?_)
    · simp [fnV, enOf, mSeq, mRet, mRetV, mAnd, mOr, mIf, mIfS, mT, tNotM, tAndM, tOrM, mCall, mArgs, mCons, mNil, mVar, mC, m1, m2, o1, o2, mDrop, mSet, mSets, mUnp, mTup, mLst, mImm, datas, setsO, bindO, bind_ret, bind_fail, must_t, ofO_some, isB, mChain, Nat.beq, List.replicate, il0, il1, il2, il3, il4, il5, il6, il7, il8, il9, il10, il11, il12, il60, setsE, visE, demE, visO, demO, gTupM, gsCons, gsNil, len_T, len_W, len_L, add_N, sub_N, in_T, le_NN, lt_NN, gt_NN, ge_NN, eq_NN, ne_NN, eq_TT, ne_TT, eq_WW, ne_WW, -List.getD_eq_getElem?_getD, oNot, neg_1, dOf_d, isTup_T, isTup_W, list_T, Ev, ph_everywhere_eq ok, ph_mean_drawn_eq (pl_all ok)]
    · simp [fnV, enOf, mSeq, mRet, mRetV, mAnd, mOr, mIf, mIfS, mT, tNotM, tAndM, tOrM, mCall, mArgs, mCons, mNil, mVar, mC, m1, m2, o1, o2, mDrop, mSet, mSets, mUnp, mTup, mLst, mImm, datas, setsO, bindO, bind_ret, bind_fail, must_t, ofO_some, isB, mChain, Nat.beq, List.replicate, il0, il1, il2, il3, il4, il5, il6, il7, il8, il9, il10, il11, il12, il60, setsE, visE, demE, visO, demO, gTupM, gsCons, gsNil, len_T, len_W, len_L, add_N, sub_N, in_T, le_NN, lt_NN, gt_NN, ge_NN, eq_NN, ne_NN, eq_TT, ne_TT, eq_WW, ne_WW, -List.getD_eq_getElem?_getD, oNot, neg_1, dOf_d, isTup_T, isTup_W, list_T, Ev, ph_roads_eq ok, mul_2 hrl, ph__law_lowest_eq (show 0 < w.length by omega) (show w.length < 100000 by omega)]
    · rw [ne_TT, handshake ok, ← roadsN_len, decide_eq_true rfl]; rfl
  · refine mT_b ((m2_eq (x := .d (dT (lowN (moversN w (List.range w.length)).length w.length))) (y := .d (dT (lowN (w.filter fun near => !decide (near = [])).length w.length))) ?_ ?_).trans ?_)
    · simp [fnV, enOf, mSeq, mRet, mRetV, mAnd, mOr, mIf, mIfS, mT, tNotM, tAndM, tOrM, mCall, mArgs, mCons, mNil, mVar, mC, m1, m2, o1, o2, mDrop, mSet, mSets, mUnp, mTup, mLst, mImm, datas, setsO, bindO, bind_ret, bind_fail, must_t, ofO_some, isB, mChain, Nat.beq, List.replicate, il0, il1, il2, il3, il4, il5, il6, il7, il8, il9, il10, il11, il12, il60, setsE, visE, demE, visO, demO, gTupM, gsCons, gsNil, len_T, len_W, len_L, add_N, sub_N, in_T, le_NN, lt_NN, gt_NN, ge_NN, eq_NN, ne_NN, eq_TT, ne_TT, eq_WW, ne_WW, -List.getD_eq_getElem?_getD, oNot, neg_1, dOf_d, isTup_T, isTup_W, list_T, Ev, ph_everywhere_eq ok, ph_drawing_chance_eq (pl_all ok)]
    · refine (call_eq (cons_eq (x := .d (dN (w.filter fun near => !decide (near = [])).length)) ((args1 (mLC_eq w (fun s => .d (dT s)) (fun near => !decide (near = [])) dT ?_ (by omega) ?_ ?_)).trans ?_) (cons_eq (x := .d (dN w.length)) ?_ rfl))).trans ?_
      · simp [fnV, enOf, mSeq, mRet, mRetV, mAnd, mOr, mIf, mIfS, mT, tNotM, tAndM, tOrM, mCall, mArgs, mCons, mNil, mVar, mC, m1, m2, o1, o2, mDrop, mSet, mSets, mUnp, mTup, mLst, mImm, datas, setsO, bindO, bind_ret, bind_fail, must_t, ofO_some, isB, mChain, Nat.beq, List.replicate, il0, il1, il2, il3, il4, il5, il6, il7, il8, il9, il10, il11, il12, il60, setsE, visE, demE, visO, demO, gTupM, gsCons, gsNil, len_T, len_W, len_L, add_N, sub_N, in_T, le_NN, lt_NN, gt_NN, ge_NN, eq_NN, ne_NN, eq_TT, ne_TT, eq_WW, ne_WW, -List.getD_eq_getElem?_getD, oNot, neg_1, dOf_d, isTup_T, isTup_W, list_T, Ev, items_W]
      · intro s hs
        refine mT_b ((m2_eq (x := .d (dT s)) (y := .d (dT [])) rfl ?_).trans (ne_TT _ _))
        simp [fnV, enOf, mSeq, mRet, mRetV, mAnd, mOr, mIf, mIfS, mT, tNotM, tAndM, tOrM, mCall, mArgs, mCons, mNil, mVar, mC, m1, m2, o1, o2, mDrop, mSet, mSets, mUnp, mTup, mLst, mImm, datas, setsO, bindO, bind_ret, bind_fail, must_t, ofO_some, isB, mChain, Nat.beq, List.replicate, il0, il1, il2, il3, il4, il5, il6, il7, il8, il9, il10, il11, il12, il60, setsE, visE, demE, visO, demO, gTupM, gsCons, gsNil, len_T, len_W, len_L, add_N, sub_N, in_T, le_NN, lt_NN, gt_NN, ge_NN, eq_NN, ne_NN, eq_TT, ne_TT, eq_WW, ne_WW, -List.getD_eq_getElem?_getD, oNot, neg_1, dOf_d, isTup_T, isTup_W, list_T, must_le (show 0 ≤ lim by decide)]
        rfl
      · intro s hs _
        simp [fnV, enOf, mSeq, mRet, mRetV, mAnd, mOr, mIf, mIfS, mT, tNotM, tAndM, tOrM, mCall, mArgs, mCons, mNil, mVar, mC, m1, m2, o1, o2, mDrop, mSet, mSets, mUnp, mTup, mLst, mImm, datas, setsO, bindO, bind_ret, bind_fail, must_t, ofO_some, isB, mChain, Nat.beq, List.replicate, il0, il1, il2, il3, il4, il5, il6, il7, il8, il9, il10, il11, il12, il60, setsE, visE, demE, visO, demO, gTupM, gsCons, gsNil, len_T, len_W, len_L, add_N, sub_N, in_T, le_NN, lt_NN, gt_NN, ge_NN, eq_NN, ne_NN, eq_TT, ne_TT, eq_WW, ne_WW, -List.getD_eq_getElem?_getD, oNot, neg_1, dOf_d, isTup_T, isTup_W, list_T, Ev, imm_dT, W.imm]
      · rw [len_L, List.length_map]
      · simp [fnV, enOf, mSeq, mRet, mRetV, mAnd, mOr, mIf, mIfS, mT, tNotM, tAndM, tOrM, mCall, mArgs, mCons, mNil, mVar, mC, m1, m2, o1, o2, mDrop, mSet, mSets, mUnp, mTup, mLst, mImm, datas, setsO, bindO, bind_ret, bind_fail, must_t, ofO_some, isB, mChain, Nat.beq, List.replicate, il0, il1, il2, il3, il4, il5, il6, il7, il8, il9, il10, il11, il12, il60, setsE, visE, demE, visO, demO, gTupM, gsCons, gsNil, len_T, len_W, len_L, add_N, sub_N, in_T, le_NN, lt_NN, gt_NN, ge_NN, eq_NN, ne_NN, eq_TT, ne_TT, eq_WW, ne_WW, -List.getD_eq_getElem?_getD, oNot, neg_1, dOf_d, isTup_T, isTup_W, list_T, Ev]
      · simp [fnV, enOf, mSeq, mRet, mRetV, mAnd, mOr, mIf, mIfS, mT, tNotM, tAndM, tOrM, mCall, mArgs, mCons, mNil, mVar, mC, m1, m2, o1, o2, mDrop, mSet, mSets, mUnp, mTup, mLst, mImm, datas, setsO, bindO, bind_ret, bind_fail, must_t, ofO_some, isB, mChain, Nat.beq, List.replicate, il0, il1, il2, il3, il4, il5, il6, il7, il8, il9, il10, il11, il12, il60, setsE, visE, demE, visO, demO, gTupM, gsCons, gsNil, len_T, len_W, len_L, add_N, sub_N, in_T, le_NN, lt_NN, gt_NN, ge_NN, eq_NN, ne_NN, eq_TT, ne_TT, eq_WW, ne_WW, -List.getD_eq_getElem?_getD, oNot, neg_1, dOf_d, isTup_T, isTup_W, list_T, ph__law_lowest_eq (show 0 < w.length by omega) (show w.length < 100000 by omega)]
    · rw [ne_TT, movers_all ok, decide_eq_true rfl]; rfl
  · refine (mFor0_inv (List.range l.length) (fun n => .d (dN n)) (fun n => [(7, .d (dN n))]) (fun p en => ∃ a7 a8 a9, en = Ev w l hs a7 a8 a9 none none none none) ?_ ⟨_, _, _, rfl⟩ ?_).elim fun en1 ⟨e1, a7, a8, a9, e2⟩ => seq_nx e1 ?_
    · simp [fnV, enOf, mSeq, mRet, mRetV, mAnd, mOr, mIf, mIfS, mT, tNotM, tAndM, tOrM, mCall, mArgs, mCons, mNil, mVar, mC, m1, m2, o1, o2, mDrop, mSet, mSets, mUnp, mTup, mLst, mImm, datas, setsO, bindO, bind_ret, bind_fail, must_t, ofO_some, isB, mChain, Nat.beq, List.replicate, il0, il1, il2, il3, il4, il5, il6, il7, il8, il9, il10, il11, il12, il60, setsE, visE, demE, visO, demO, gTupM, gsCons, gsNil, len_T, len_W, len_L, add_N, sub_N, in_T, le_NN, lt_NN, gt_NN, ge_NN, eq_NN, ne_NN, eq_TT, ne_TT, eq_WW, ne_WW, -List.getD_eq_getElem?_getD, oNot, neg_1, dOf_d, isTup_T, isTup_W, list_T, Ev, rng_N (show l.length ≤ 100000 by omega)]
    · rintro q s x e en ⟨a7, a8, a9, rfl⟩
      have hx := range_lt e
      exact ⟨rfl, guest_ok p c h12 hx a8 a9⟩
    · subst e2
      refine seq_nx (en1 := Ev w l hs a7 a8 a9 (some ⟨0, .d (.list ((storyP w l hs).map dT))⟩) none none none) ?_ ?_
      · simp [fnV, enOf, mSeq, mRet, mRetV, mAnd, mOr, mIf, mIfS, mT, tNotM, tAndM, tOrM, mCall, mArgs, mCons, mNil, mVar, mC, m1, m2, o1, o2, mDrop, mSet, mSets, mUnp, mTup, mLst, mImm, datas, setsO, bindO, bind_ret, bind_fail, must_t, ofO_some, isB, mChain, Nat.beq, List.replicate, il0, il1, il2, il3, il4, il5, il6, il7, il8, il9, il10, il11, il12, il60, setsE, visE, demE, visO, demO, gTupM, gsCons, gsNil, len_T, len_W, len_L, add_N, sub_N, in_T, le_NN, lt_NN, gt_NN, ge_NN, eq_NN, ne_NN, eq_TT, ne_TT, eq_WW, ne_WW, -List.getD_eq_getElem?_getD, oNot, neg_1, dOf_d, isTup_T, isTup_W, list_T, Ev, ph_story_eq p c]
      refine (mFor0_inv (List.range hs.length) (fun n => .d (dN n)) (fun n => [(11, .d (dN n))]) (fun p en => ∃ a11, en = Ev w l hs a7 a8 a9 (some ⟨0, .d (.list ((storyP w l hs).map dT))⟩) a11 none none) ?_ ⟨_, rfl⟩ ?_).elim fun en1 ⟨e1, a11, e2⟩ => seq_nx e1 ?_
      · simp [fnV, enOf, mSeq, mRet, mRetV, mAnd, mOr, mIf, mIfS, mT, tNotM, tAndM, tOrM, mCall, mArgs, mCons, mNil, mVar, mC, m1, m2, o1, o2, mDrop, mSet, mSets, mUnp, mTup, mLst, mImm, datas, setsO, bindO, bind_ret, bind_fail, must_t, ofO_some, isB, mChain, Nat.beq, List.replicate, il0, il1, il2, il3, il4, il5, il6, il7, il8, il9, il10, il11, il12, il60, setsE, visE, demE, visO, demO, gTupM, gsCons, gsNil, len_T, len_W, len_L, add_N, sub_N, in_T, le_NN, lt_NN, gt_NN, ge_NN, eq_NN, ne_NN, eq_TT, ne_TT, eq_WW, ne_WW, -List.getD_eq_getElem?_getD, oNot, neg_1, dOf_d, isTup_T, isTup_W, list_T, Ev, rng_N (show hs.length ≤ 100000 by omega)]
      · rintro q s k e en ⟨a11, rfl⟩
        have hk := range_lt e
        refine ⟨rfl, _, seq_nx (ifS_f (mT_b ((m2_eq (x := .d (dT (goneN w l hs k))) (y := .d (dT (goneN w l hs k))) ?_ ((args1 (mLC_eq (List.range l.length) (fun n => .d (dN n)) (fun g => decide ((stN w l hs k).getD g 0 ∈ w.getD (hs.getD k 0) [])) dN ?_ (by rw [List.length_range]; omega) ?_ ?_)).trans ?_)).trans ?_)) rfl) rfl, _, rfl⟩
        · exact gone_get hk rfl rfl
        · simp [fnV, enOf, mSeq, mRet, mRetV, mAnd, mOr, mIf, mIfS, mT, tNotM, tAndM, tOrM, mCall, mArgs, mCons, mNil, mVar, mC, m1, m2, o1, o2, mDrop, mSet, mSets, mUnp, mTup, mLst, mImm, datas, setsO, bindO, bind_ret, bind_fail, must_t, ofO_some, isB, mChain, Nat.beq, List.replicate, il0, il1, il2, il3, il4, il5, il6, il7, il8, il9, il10, il11, il12, il60, setsE, visE, demE, visO, demO, gTupM, gsCons, gsNil, len_T, len_W, len_L, add_N, sub_N, in_T, le_NN, lt_NN, gt_NN, ge_NN, eq_NN, ne_NN, eq_TT, ne_TT, eq_WW, ne_WW, -List.getD_eq_getElem?_getD, oNot, neg_1, dOf_d, isTup_T, isTup_W, list_T, Ev, rng_N (show l.length ≤ 100000 by omega)]
        · intro g hg
          rw [List.mem_range] at hg
          simp [fnV, enOf, mSeq, mRet, mRetV, mAnd, mOr, mIf, mIfS, mT, tNotM, tAndM, tOrM, mCall, mArgs, mCons, mNil, mVar, mC, m1, m2, o1, o2, mDrop, mSet, mSets, mUnp, mTup, mLst, mImm, datas, setsO, bindO, bind_ret, bind_fail, must_t, ofO_some, isB, mChain, Nat.beq, List.replicate, il0, il1, il2, il3, il4, il5, il6, il7, il8, il9, il10, il11, il12, il60, setsE, visE, demE, visO, demO, gTupM, gsCons, gsNil, len_T, len_W, len_L, add_N, sub_N, in_T, le_NN, lt_NN, gt_NN, ge_NN, eq_NN, ne_NN, eq_TT, ne_TT, eq_WW, ne_WW, -List.getD_eq_getElem?_getD, oNot, neg_1, dOf_d, isTup_T, isTup_W, list_T, Ev, get_st (show k ≤ hs.length by omega), get_g k hg, get_Tg hk, ph_neighbours_eq ok (ca_at c hk)]
        · intro g hg _
          simp [fnV, enOf, mSeq, mRet, mRetV, mAnd, mOr, mIf, mIfS, mT, tNotM, tAndM, tOrM, mCall, mArgs, mCons, mNil, mVar, mC, m1, m2, o1, o2, mDrop, mSet, mSets, mUnp, mTup, mLst, mImm, datas, setsO, bindO, bind_ret, bind_fail, must_t, ofO_some, isB, mChain, Nat.beq, List.replicate, il0, il1, il2, il3, il4, il5, il6, il7, il8, il9, il10, il11, il12, il60, setsE, visE, demE, visO, demO, gTupM, gsCons, gsNil, len_T, len_W, len_L, add_N, sub_N, in_T, le_NN, lt_NN, gt_NN, ge_NN, eq_NN, ne_NN, eq_TT, ne_TT, eq_WW, ne_WW, -List.getD_eq_getElem?_getD, oNot, neg_1, dOf_d, isTup_T, isTup_W, list_T, Ev, imm_dN, W.imm]
        · rw [gone_eq p c hk]; exact tup_N _
        · rw [ne_TT, decide_eq_true rfl]; rfl
      · subst e2
        refine seq_nx (set_eq (x := .d (.list ((restN w l hs).map dN))) ?_) (tail_ok p c h12 _ _ _ _ _)
        refine mLC_eq (List.range hs.length) (fun n => .d (dN n)) (fun k => !decide (k ∈ stillN w l hs)) dN ?_ (by rw [List.length_range]; omega) ?_ ?_
        · simp [fnV, enOf, mSeq, mRet, mRetV, mAnd, mOr, mIf, mIfS, mT, tNotM, tAndM, tOrM, mCall, mArgs, mCons, mNil, mVar, mC, m1, m2, o1, o2, mDrop, mSet, mSets, mUnp, mTup, mLst, mImm, datas, setsO, bindO, bind_ret, bind_fail, must_t, ofO_some, isB, mChain, Nat.beq, List.replicate, il0, il1, il2, il3, il4, il5, il6, il7, il8, il9, il10, il11, il12, il60, setsE, visE, demE, visO, demO, gTupM, gsCons, gsNil, len_T, len_W, len_L, add_N, sub_N, in_T, le_NN, lt_NN, gt_NN, ge_NN, eq_NN, ne_NN, eq_TT, ne_TT, eq_WW, ne_WW, -List.getD_eq_getElem?_getD, oNot, neg_1, dOf_d, isTup_T, isTup_W, list_T, Ev, rng_N (show hs.length ≤ 100000 by omega)]
        · intro k hk
          simp [fnV, enOf, mSeq, mRet, mRetV, mAnd, mOr, mIf, mIfS, mT, tNotM, tAndM, tOrM, mCall, mArgs, mCons, mNil, mVar, mC, m1, m2, o1, o2, mDrop, mSet, mSets, mUnp, mTup, mLst, mImm, datas, setsO, bindO, bind_ret, bind_fail, must_t, ofO_some, isB, mChain, Nat.beq, List.replicate, il0, il1, il2, il3, il4, il5, il6, il7, il8, il9, il10, il11, il12, il60, setsE, visE, demE, visO, demO, gTupM, gsCons, gsNil, len_T, len_W, len_L, add_N, sub_N, in_T, le_NN, lt_NN, gt_NN, ge_NN, eq_NN, ne_NN, eq_TT, ne_TT, eq_WW, ne_WW, -List.getD_eq_getElem?_getD, oNot, neg_1, dOf_d, isTup_T, isTup_W, list_T, Ev, ph_still_calls_eq p c]
        · intro k hk _
          simp [fnV, enOf, mSeq, mRet, mRetV, mAnd, mOr, mIf, mIfS, mT, tNotM, tAndM, tOrM, mCall, mArgs, mCons, mNil, mVar, mC, m1, m2, o1, o2, mDrop, mSet, mSets, mUnp, mTup, mLst, mImm, datas, setsO, bindO, bind_ret, bind_fail, must_t, ofO_some, isB, mChain, Nat.beq, List.replicate, il0, il1, il2, il3, il4, il5, il6, il7, il8, il9, il10, il11, il12, il60, setsE, visE, demE, visO, demO, gTupM, gsCons, gsNil, len_T, len_W, len_L, add_N, sub_N, in_T, le_NN, lt_NN, gt_NN, ge_NN, eq_NN, ne_NN, eq_TT, ne_TT, eq_WW, ne_WW, -List.getD_eq_getElem?_getD, oNot, neg_1, dOf_d, isTup_T, isTup_W, list_T, Ev, imm_dN, W.imm]
end G

set_option Elab.async false
set_option linter.all false
set_option maxRecDepth 100000
namespace G
open PySem PySem.Spec PyProof.Rows L2
set_option maxHeartbeats 0
theorem plain_law : (pl0 (enLaw NL.length 1)).wp fun o => o = .rt (.d (.bool true)) := law_w.out

end G

set_option Elab.async false
set_option linter.all false
set_option maxRecDepth 100000
namespace G
open PySem PySem.Spec PyProof.Rows L2
set_option maxHeartbeats 0
def fa : List He.Fa := faOf bodyP blt cons
def fn : List He.DefD := bodyP.filterMap deOf
abbrev rowR : PySem.W.OpenRow := PySem.W.OpenLaw.row PySem.Challenge.rw_gatherers_k76_whole_drawn_guests
abbrev hk : PySem.W.Hook := He.hookD 4 fa fn
def ob (s : PySem.W.SharedT) : He.AlD := He.obsDG 4 fa fn (HandSHeadRun.getT s)
theorem ob_eq (s : PySem.W.SharedT) : ob s = hk.obs s.abs := He.obsDG_eq (HandSHeadRun.getT_eq s)
def nms : List Str := (["is_integer", "is_in", "is_list", "need_web", "need_house", "roads_in", "roads", "neighbours", "need_places", "need_where", "need_guest", "everywhere", "used", "in_use", "need_calls", "call_in", "call", "movers_in", "movers", "story_in"] : List (Str)) ++ (["after", "story", "still_calls", "drawn", "way_of", "moves", "seen_houses", "seen_by_all", "longest_stay", "shared", "ratio", "drawing_chance", "mean_drawn", "_law_taken", "_law_gcd", "_law_lowest", "_law_by", "_law_web", "_law_row", "_law_put"] : List (Str)) ++ (["GatherError", "BadWeb", "BadPlaces", "BadHouse", "BadGuest", "BadCalls", "MOST_HOUSES", "MOST_GUESTS", "MOST_CALLS"] : List (Str))
theorem run (w : World) : HandSHeadRun.RunEq rowR (PySem.W.view rowR.prog [58]) hk ob 20000 nms w := by
  intro os
  kernel_rfl
theorem scT : FnScope ["row", "many", "found", "cell"] ["row", "many"] (defScope sTaken) := ⟨rfl, rfl, rfl, by decide +kernel, rfl, by decide +kernel, by decide +kernel⟩
theorem ps_taken {P : Program} {w : World} {K : PySem.W.Frag} {mg : Str → Option Value} {base : Heap} {f : Addr} {cdv : Value} {A : Around} {outer : List Env} {s : Shared} {H : Hp} {E : XK} (gI : mg "int" = none) (gL : mg "len" = none) :
    PSs (cxOf CX0 P w K mg base ["row", "many", "found", "cell"] "_law_taken" (defScope sTaken) f cdv A outer s H E).nox (defBody sTaken) (tTaken K) :=
  by
  refine pss_cons (ps_if (pt_cmpR op_gt (pe_ix ix_list (pv 0) pe_int (fun _ _ => rfl)) pe_int (nomark _)) (pss_cons ?s1 (pss_cons ?s2 (pss_one (ps_ret (pv 2))))) pss_nil) (pss_cons ?s3 (pss_cons (ps_if ?s4 (pss_cons ?s5 (pss_one ?s6)) pss_nil) (pss_cons ?s7 (pss_cons ?s8 (pss_cons ?s9 (pss_one ?s10))))))
  case s1 => exact ps_set scT.nd rfl (Or.inl rfl) (pe_op op_mod (pe_callTy call_int1 rfl gI boot_int (pa_cons (pe_ix ix_list (pv 0) pe_int (fun _ _ => rfl)) pa_nil)) (pv 1))
  case s2 => exact ps_asg (pe_op op_fdivW (pe_ix ix_list (pv 0) pe_int (fun _ _ => rfl)) (pv 1)) (pg_sub (pv 0) pe_int set_list)
  case s3 => exact ps_asg (pe_op op_add (pe_ix ix_list (pv 0) pe_int (fun _ _ => rfl)) pe_int) (pg_sub (pv 0) pe_int set_list)
  case s4 => exact pt_cmpR op_gt (pe_ix ix_list (pv 0) pe_int (fun _ _ => rfl)) (pe_callB call_len_seq rfl gL boot_len (pa_cons (pe_ix ix_list (pv 0) pe_int (fun _ _ => rfl)) pa_nil)) (nomark _)
  case s5 => exact ps_asg (pe_op op_mod (pe_callTy call_int1 rfl gI boot_int (pa_cons (pe_op op_add (pe_op op_mulW (pe_ix ix_list (pv 0) pe_int (fun _ _ => rfl)) pe_int) pe_int) pa_nil)) pe_int) (pg_sub (pv 0) pe_int set_list)
  case s6 => exact ps_ret (pe_op op_mod (pe_callTy call_int1 rfl gI boot_int (pa_cons (pe_op op_fdivW (pe_ix ix_list (pv 0) pe_int (fun _ _ => rfl)) pe_int) pa_nil)) (pv 1))
  case s7 => exact ps_set scT.nd rfl (Or.inl rfl) (pe_ix ix_list (pe_ix ix_list (pv 0) pe_int (fun _ _ => rfl)) (pe_op op_sub (pe_ix ix_list (pv 0) pe_int (fun _ _ => rfl)) pe_int) (fun _ _ => rfl))
  case s8 => exact ps_asg (pe_op op_mod (pe_callTy call_int1 rfl gI boot_int (pa_cons (pe_op op_add (pe_op op_add (pe_op op_mulW (pe_ix ix_list (pv 0) pe_int (fun _ _ => rfl)) pe_int) (pv 3)) pe_int) pa_nil)) pe_int) (pg_sub (pv 0) pe_int set_list)
  case s9 => exact ps_if (pt_cmpR op_ge (pv 3) (pe_op op_pow pe_int pe_int) (nomark _)) (pss_one (ps_asg (pe_op op_fdivW (pv 3) (pv 1)) (pg_sub (pv 0) pe_int set_list))) pss_nil
  case s10 => exact ps_ret (pe_op op_mod (pe_callTy call_int1 rfl gI boot_int (pa_cons (pv 3) pa_nil)) (pv 1))
theorem facts {P : Program} {w : World} {K : PySem.W.Frag} {h : Heap} {mg : Str → Option Value} {f : Addr} (X : K.In h) (Gs : h.Ns mainGlobals mg) (hfa : mg ("law" : Str) = some (.ref f)) (c : He.SaysD fa fn K) :
    ∃ fd : FuncData, (∀ (s : Shared) (v : Value), BindsTo s fd ⟨[v], []⟩ [("script", v)]) ∧ ∀ base : Heap, K.In base → base.Ns mainGlobals mg → FnOk P w K mg base CX0 (lvL + 1) f fd ["script"] (spLaw K) := by
  obtain ⟨fdT, FT⟩ := c.def_ 33 (d := ⟨("_law_taken", none), "_law_taken", "_law_taken", defArgs sTaken, defBody sTaken, defScope sTaken, [], []⟩) rfl
  obtain ⟨fd, F⟩ := c.def_ 40 (d := ⟨("law", none), "law", "law", defArgs sLaw, defBody sLaw, defScope sLaw, [], []⟩) rfl
  have e := hfa.symm.trans (He.glo_ok X Gs (c.fact 40 (f := .glo "law") rfl))
  cases e
  have b := FunD.bindsA (ps := ["script"]) F fun _ _ _ _ _ _ us hl => match us, hl with | [_], _ => rfl
  refine ⟨fd, fun s v => b s [v] rfl, fun base kb nb => ?_⟩
  have fr := frees_of X Gs c
  have co := cons_of X Gs c rfl w
  have st := stands_of (Y := ⟨P, w, K, mg, base⟩) X Gs c rfl rfl
  have bT : Binds K fdT ["row", "many"] [] := FT.bindsN fun _ _ _ _ _ _ us hl => match us, hl with | [_, _], _ => rfl
  have tk : FnIs ⟨P, w, K, mg, base⟩ ⟨"_law_taken", ["row", "many"], 1, phTaken⟩ := fn_taken (Y := ⟨P, w, K, mg, base⟩) 0 FT (He.glo_ok X Gs (c.fact 33 (f := .glo "_law_taken") rfl)) scT bT
    fun cdv A outer s H E => ps_taken (fr "int" (by decide)) (fr "len" (by decide))
  have dm : ∀ n, n < dord.length → dAt n ∈ dfs := fun n hn => by
    unfold dAt
    rw [List.getElem?_eq_getElem hn]
    obtain ⟨x, _, e⟩ := List.mem_filterMap.mp (List.getElem_mem hn)
    exact List.mem_of_find?_eq_some e
  have dl : dord.length = 39 := by kernel_rfl
  have t0 : ∀ e ∈ tb0, FnIs ⟨P, w, K, mg, base⟩ e := fun e he => by rw [List.mem_singleton.mp he]; exact tk
  have t1 := tb_step bd0 (st _ (dm 0 (by rw [dl]; decide))) t0 co fr
  have t2 := tb_step bd1 (st _ (dm 1 (by rw [dl]; decide))) t1 co fr
  have t3 := tb_step bd2 (st _ (dm 2 (by rw [dl]; decide))) t2 co fr
  have t4 := tb_step bd3 (st _ (dm 3 (by rw [dl]; decide))) t3 co fr
  have t5 := tb_step bd4 (st _ (dm 4 (by rw [dl]; decide))) t4 co fr
  have t6 := tb_step bd5 (st _ (dm 5 (by rw [dl]; decide))) t5 co fr
  have t7 := tb_step bd6 (st _ (dm 6 (by rw [dl]; decide))) t6 co fr
  have t8 := tb_step bd7 (st _ (dm 7 (by rw [dl]; decide))) t7 co fr
  have t9 := tb_step bd8 (st _ (dm 8 (by rw [dl]; decide))) t8 co fr
  have t10 := tb_step bd9 (st _ (dm 9 (by rw [dl]; decide))) t9 co fr
  have t11 := tb_step bd10 (st _ (dm 10 (by rw [dl]; decide))) t10 co fr
  have t12 := tb_step bd11 (st _ (dm 11 (by rw [dl]; decide))) t11 co fr
  have t13 := tb_step bd12 (st _ (dm 12 (by rw [dl]; decide))) t12 co fr
  have t14 := tb_step bd13 (st _ (dm 13 (by rw [dl]; decide))) t13 co fr
  have t15 := tb_step bd14 (st _ (dm 14 (by rw [dl]; decide))) t14 co fr
  have t16 := tb_step bd15 (st _ (dm 15 (by rw [dl]; decide))) t15 co fr
  have t17 := tb_step bd16 (st _ (dm 16 (by rw [dl]; decide))) t16 co fr
  have t18 := tb_step bd17 (st _ (dm 17 (by rw [dl]; decide))) t17 co fr
  have t19 := tb_step bd18 (st _ (dm 18 (by rw [dl]; decide))) t18 co fr
  have t20 := tb_step bd19 (st _ (dm 19 (by rw [dl]; decide))) t19 co fr
  have t21 := tb_step bd20 (st _ (dm 20 (by rw [dl]; decide))) t20 co fr
  have t22 := tb_step bd21 (st _ (dm 21 (by rw [dl]; decide))) t21 co fr
  have t23 := tb_step bd22 (st _ (dm 22 (by rw [dl]; decide))) t22 co fr
  have t24 := tb_step bd23 (st _ (dm 23 (by rw [dl]; decide))) t23 co fr
  have t25 := tb_step bd24 (st _ (dm 24 (by rw [dl]; decide))) t24 co fr
  have t26 := tb_step bd25 (st _ (dm 25 (by rw [dl]; decide))) t25 co fr
  have t27 := tb_step bd26 (st _ (dm 26 (by rw [dl]; decide))) t26 co fr
  have t28 := tb_step bd27 (st _ (dm 27 (by rw [dl]; decide))) t27 co fr
  have t29 := tb_step bd28 (st _ (dm 28 (by rw [dl]; decide))) t28 co fr
  have t30 := tb_step bd29 (st _ (dm 29 (by rw [dl]; decide))) t29 co fr
  have t31 := tb_step bd30 (st _ (dm 30 (by rw [dl]; decide))) t30 co fr
  have t32 := tb_step bd31 (st _ (dm 31 (by rw [dl]; decide))) t31 co fr
  have t33 := tb_step bd32 (st _ (dm 32 (by rw [dl]; decide))) t32 co fr
  have t34 := tb_step bd33 (st _ (dm 33 (by rw [dl]; decide))) t33 co fr
  have t35 := tb_step bd34 (st _ (dm 34 (by rw [dl]; decide))) t34 co fr
  have t36 := tb_step bd35 (st _ (dm 35 (by rw [dl]; decide))) t35 co fr
  have t37 := tb_step bd36 (st _ (dm 36 (by rw [dl]; decide))) t36 co fr
  have t38 := tb_step bd37 (st _ (dm 37 (by rw [dl]; decide))) t37 co fr
  have t39 := tb_step bd38 (st _ (dm 38 (by rw [dl]; decide))) t38 co fr
  exact fn_law (Y := ⟨P, w, K, mg, base⟩) (c := scE) (i := 1) (x0 := 10076) rfl F (scope_of (by decide +kernel)) ⟨t39, co, fr⟩ xE_ok rfl rfl (by decide) (by decide +kernel) (by decide +kernel) (by decide) plain_law
end G
open PySem PySem.W PySem.Calls PyProof.Rows
theorem PySem.Challenge.cw_gatherers_k76_whole_drawn_guests_holds : PySem.Challenge.rw_gatherers_k76_whole_drawn_guests.Holds := by
  w_on; o_law
  refine HandSHeadRun.head_any (r := OpenLaw.row PySem.Challenge.rw_gatherers_k76_whole_drawn_guests) (q := view (OpenLaw.row PySem.Challenge.rw_gatherers_k76_whole_drawn_guests).prog [58]) (H := G.hk) (ob := G.ob) (M := 20000) (loose := G.nms) (d := HandSHeadRun.topDef (OpenLaw.row PySem.Challenge.rw_gatherers_k76_whole_drawn_guests).prog 58) (kwd := []) G.ob_eq
    (by kernel_rfl) (fun s => by kernel_rfl) G.run (by kernel_rfl) (by kernel_rfl) (by kernel_rfl) (by rfl) (by first | assumption | decide +kernel) (by decide +kernel) ⟨rfl, rfl, rfl, rfl, rfl, by decide +kernel⟩ ?hw ?hc
  case hw => w_witness2
  case hc =>
    refine L2.walk_ofE (l := PySem.Challenge.rw_gatherers_k76_whole_drawn_guests) (n := 63) (k := G.lvL + 1) (x := "script") (CX := L2.CX0) rfl (by decide) (by kernel_rfl) ⟨rfl, by decide, by decide⟩ ?F (fun _ _ _ _ z => z)
    intro w mg fa h Y Gs hmg0
    obtain ⟨K, KX, c⟩ := Y
    have hmg : mg ("law" : PySem.Str) = some (.ref fa) := by
      have e : (HandSHeadRun.topDef (OpenLaw.row PySem.Challenge.rw_gatherers_k76_whole_drawn_guests).prog 58).name = ("law" : PySem.Str) := by kernel_rfl
      rw [← e]
      exact hmg0
    obtain ⟨fd, hb, hF⟩ := G.facts (P := (PySem.Challenge.rw_gatherers_k76_whole_drawn_guests).prog) (w := w) KX Gs hmg c
    exact ⟨K, fd, G.spLaw K, KX, hb, fun H a ns hl _ hS => ⟨a, ns, rfl, hl, hS, fun _ => rfl⟩, hF⟩

