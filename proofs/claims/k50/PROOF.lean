import PyProof.Rows.All
import Wide.All
import OpenK.AllK
import Wide.FinOn
import PySem.Challenge.RW_ringdown_k50_whole_papers_of_changes
import KE.KExcIs
import KE.GoesEnum
import KE.GoesMore
import HandS.ForMost
import HandS.ForExc
import HandS.Style
import HandS.TupAny
import HandS.TupMul
import HandS.IsInst
import HandS.Wide
import HandS.Walk
import HandS.Flt
import HandS.ExcInit
import HandS.ExcField
import HandS.ExcValue
import HandS.TryMany
import HandS.SortKw
import HandS.ClsMeth
import KE.DataMinMax
import HandS.Defaults
import HandS.TryOnly
import HandS.ExcIs
set_option Elab.async false
set_option linter.all false
set_option maxRecDepth 100000
set_option maxHeartbeats 0
section
open PySem PySem.W PyProof.Rows
open_top k50head for PySem.Challenge.rw_ringdown_k50_whole_papers_of_changes
end
set_option Elab.async false
set_option linter.all false
set_option maxRecDepth 100000
set_option maxHeartbeats 4000000
/-! Data readings: what an expression evaluates to, as data. -/
namespace K5
open PySem L2

abbrev D := PyData

theorem Same.rd {H H' : Hp} {a : Addr} {u : HO} (e : Same H H') (h : Rd H a u) : Rd H' a u := by
  rcases h with h | ⟨o, h⟩
  · exact .inl (e _ _ h)
  · exact .inr ⟨o, e _ _ h⟩
theorem sq_l {K : PySem.W.Frag} {H H' : Hp} {a : Addr} {xs : List V} (e : Same H H') (h : SqL K H a xs) : SqL K H' a xs := by
  rcases h with h | h
  · exact .inl (Same.rd e h)
  · exact .inr h
theorem sq_t {K : PySem.W.Frag} {H H' : Hp} {a : Addr} {xs : List V} (e : Same H H') (h : SqT K H a xs) : SqT K H' a xs := by
  rcases h with h | h
  · exact .inl (Same.rd e h)
  · exact .inr h
mutual
theorem dp_same {K : PySem.W.Frag} {H H' : Hp} (e : Same H H') : ∀ {d : D} {v : V}, Dp K H v d → Dp K H' v d
  | _, _, .non => .non
  | _, _, .bl b => .bl b
  | _, _, .int i => .int i
  | _, _, .str x => .str x
  | _, _, .lst h r => .lst (sq_l e h) (dps_same e r)
  | _, _, .tup h r => .tup (sq_t e h) (dps_same e r)
theorem dps_same {K : PySem.W.Frag} {H H' : Hp} (e : Same H H') : ∀ {ds : List D} {vs : List V}, DpAll K H vs ds → DpAll K H' vs ds
  | _, _, .nil => .nil
  | _, _, .cons h r => .cons (dp_same e h) (dps_same e r)
end

theorem Same.new {H : Hp} {p : Addr} {o : HO} (h : H p = none) : Same H (upd H p o) := fun b u e => by
  rw [upd_ne (ne_of_none e h)]
  exact e
theorem Same.upd {H H1 : Hp} {p : Addr} {o : HO} (s : Same H H1) (h : H1 p = none) : Same H (L2.upd H1 p o) := s.trans (Same.new h)
theorem Same.mut {H H' : Hp} {p : Addr} {o : HO} (e : Same H H') (h : H p = none) : Same H (L2.upd H' p o) := fun a u ha => by
  rw [upd_ne (ne_of_none ha h)]
  exact e a u ha

theorem dp_none {K : PySem.W.Frag} {H : Hp} {v : V} (h : Dp K H v .none) : v = .non := by cases h; rfl
theorem dp_bool {K : PySem.W.Frag} {H : Hp} {v : V} {b : Bool} (h : Dp K H v (.bool b)) : v = .bl b := by cases h; rfl
theorem dp_int {K : PySem.W.Frag} {H : Hp} {v : V} {i : Int} (h : Dp K H v (.int i)) : v = .int i := by cases h; rfl
theorem dp_str {K : PySem.W.Frag} {H : Hp} {v : V} {x : Str} (h : Dp K H v (.str x)) : v = .str x := by cases h; rfl
theorem dp_lst {K : PySem.W.Frag} {H : Hp} {v : V} {ds : List D} (h : Dp K H v (.list ds)) : ∃ a xs, v = .ref a ∧ SqL K H a xs ∧ DpAll K H xs ds := by cases h with | lst h r => exact ⟨_, _, rfl, h, r⟩
theorem dp_tup {K : PySem.W.Frag} {H : Hp} {v : V} {ds : List D} (h : Dp K H v (.tuple ds)) : ∃ a xs, v = .ref a ∧ SqT K H a xs ∧ DpAll K H xs ds := by cases h with | tup h r => exact ⟨_, _, rfl, h, r⟩
theorem dps_len {K : PySem.W.Frag} {H : Hp} : ∀ {vs : List V} {ds : List D}, DpAll K H vs ds → vs.length = ds.length
  | _, _, .nil => rfl
  | _, _, .cons _ r => congrArg (· + 1) (dps_len r)
theorem dps_get {K : PySem.W.Frag} {H : Hp} : ∀ {vs : List V} {ds : List D} {i : Nat} {d : D}, DpAll K H vs ds → ds[i]? = some d → ∃ v, vs[i]? = some v ∧ Dp K H v d
  | _, _, _, _, .nil, e => by simp at e
  | _, _, 0, _, .cons h _, e => by simp at e; subst e; exact ⟨_, rfl, h⟩
  | _, _, i + 1, d, .cons _ r, e => by
    obtain ⟨v, h1, h2⟩ := dps_get (i := i) (d := d) r (by simpa using e)
    exact ⟨v, by simpa using h1, h2⟩
theorem dps_getv {K : PySem.W.Frag} {H : Hp} : ∀ {vs : List V} {ds : List D} {i : Nat} {v : V}, DpAll K H vs ds → vs[i]? = some v → ∃ d, ds[i]? = some d ∧ Dp K H v d
  | _, _, _, _, .nil, e => by simp at e
  | _, _, 0, _, .cons h _, e => by simp at e; subst e; exact ⟨_, rfl, h⟩
  | _, _, i + 1, v, .cons _ r, e => by
    obtain ⟨d, h1, h2⟩ := dps_getv (i := i) (v := v) r (by simpa using e)
    exact ⟨d, by simpa using h1, h2⟩
theorem dps_app {K : PySem.W.Frag} {H : Hp} : ∀ {vs ws : List V} {ds es : List D}, DpAll K H vs ds → DpAll K H ws es → DpAll K H (vs ++ ws) (ds ++ es)
  | _, _, _, _, .nil, s => s
  | _, _, _, _, .cons h r, s => .cons h (dps_app r s)
theorem dps_take {K : PySem.W.Frag} {H : Hp} : ∀ {vs : List V} {ds : List D} (n : Nat), DpAll K H vs ds → DpAll K H (vs.take n) (ds.take n)
  | _, _, 0, _ => .nil
  | _, _, _ + 1, .nil => .nil
  | _, _, n + 1, .cons h r => .cons h (dps_take n r)
theorem dps_drop {K : PySem.W.Frag} {H : Hp} : ∀ {vs : List V} {ds : List D} (n : Nat), DpAll K H vs ds → DpAll K H (vs.drop n) (ds.drop n)
  | _, _, 0, r => r
  | _, _, _ + 1, .nil => .nil
  | _, _, n + 1, .cons _ r => dps_drop n r
theorem dps_rev {K : PySem.W.Frag} {H : Hp} : ∀ {vs : List V} {ds : List D}, DpAll K H vs ds → DpAll K H vs.reverse ds.reverse
  | _, _, .nil => .nil
  | _, _, .cons h r => by
    rw [List.reverse_cons, List.reverse_cons]
    exact dps_app (dps_rev r) (.cons h .nil)
theorem dps_set {K : PySem.W.Frag} {H : Hp} {v : V} {d : D} (h : Dp K H v d) : ∀ {vs : List V} {ds : List D} (n : Nat), DpAll K H vs ds → DpAll K H (vs.set n v) (ds.set n d)
  | _, _, _, .nil => .nil
  | _, _, 0, .cons _ r => .cons h r
  | _, _, n + 1, .cons q r => .cons q (dps_set h n r)
theorem dps_mem {K : PySem.W.Frag} {H : Hp} : ∀ {vs : List V} {ds : List D} {v : V}, DpAll K H vs ds → v ∈ vs → ∃ d ∈ ds, Dp K H v d
  | _, _, _, .nil, m => absurd m List.not_mem_nil
  | _, _, _, .cons h r, m => by
    rcases List.mem_cons.mp m with e | m
    · subst e; exact ⟨_, List.mem_cons_self, h⟩
    · obtain ⟨d, h1, h2⟩ := dps_mem r m
      exact ⟨d, List.mem_cons_of_mem _ h1, h2⟩

/-! ### what keeps data -/
/-- lists and tuples that were to be read stay so -/
structure Pr (K : PySem.W.Frag) (H H' : Hp) : Prop where
  l : ∀ a xs, SqL K H a xs → SqL K H' a xs
  t : ∀ a xs, SqT K H a xs → SqT K H' a xs
theorem Pr.of {K : PySem.W.Frag} {H H' : Hp} (e : Same H H') : Pr K H H' := ⟨fun _ _ => sq_l e, fun _ _ => sq_t e⟩
theorem Pr.refl {K : PySem.W.Frag} (H : Hp) : Pr K H H := ⟨fun _ _ h => h, fun _ _ h => h⟩
theorem Pr.trans {K : PySem.W.Frag} {H H1 H2 : Hp} (a : Pr K H H1) (b : Pr K H1 H2) : Pr K H H2 := ⟨fun p xs h => b.l p xs (a.l p xs h), fun p xs h => b.t p xs (a.t p xs h)⟩
theorem Pr.s {K : PySem.W.Frag} {H H1 H2 : Hp} (a : Pr K H H1) (b : Same H1 H2) : Pr K H H2 := a.trans (.of b)
mutual
theorem Pr.dp {K : PySem.W.Frag} {H H' : Hp} (e : Pr K H H') : ∀ {d : D} {v : V}, Dp K H v d → Dp K H' v d
  | _, _, .non => .non
  | _, _, .bl b => .bl b
  | _, _, .int i => .int i
  | _, _, .str x => .str x
  | _, _, .lst h r => .lst (e.l _ _ h) (Pr.dps e r)
  | _, _, .tup h r => .tup (e.t _ _ h) (Pr.dps e r)
theorem Pr.dps {K : PySem.W.Frag} {H H' : Hp} (e : Pr K H H') : ∀ {ds : List D} {vs : List V}, DpAll K H vs ds → DpAll K H' vs ds
  | _, _, .nil => .nil
  | _, _, .cons h r => .cons (Pr.dp e h) (Pr.dps e r)
end
/-- all but the thing at a stays; a is a dict, so data stays -/
def But (a : Addr) (H H' : Hp) : Prop := ∀ b o, b ≠ a → H b = some o → H' b = some o
theorem But.of {a : Addr} {H H' : Hp} (e : Same H H') : But a H H' := fun b o _ h => e b o h
theorem But.refl {a : Addr} (H : Hp) : But a H H := fun _ _ _ h => h
theorem But.trans {a : Addr} {H H1 H2 : Hp} (x : But a H H1) (y : But a H1 H2) : But a H H2 := fun b o n h => y b o n (x b o n h)
theorem But.pr {K : PySem.W.Frag} {a : Addr} {H H' : Hp} {kvs : List (Key × V)} (e : But a H H') (h : H a = some (.dK kvs)) : Pr K H H' := by
  refine ⟨fun p xs q => ?_, fun p xs q => ?_⟩
  · rcases q with (q | ⟨o, q⟩) | q
    · exact .inl (.inl (e _ _ (fun z => by rw [z, h] at q; cases q) q))
    · exact .inl (.inr ⟨o, e _ _ (fun z => by rw [z, h] at q; cases q) q⟩)
    · exact .inr q
  · rcases q with (q | ⟨o, q⟩) | q
    · exact .inl (.inl (e _ _ (fun z => by rw [z, h] at q; cases q) q))
    · exact .inl (.inr ⟨o, e _ _ (fun z => by rw [z, h] at q; cases q) q⟩)
    · exact .inr q

/-! ### kinds of data -/
def tyD : D → String
  | .none => "NoneType" | .bool _ => "bool" | .int _ => "int" | .str _ => "str" | .list _ => "list" | .tuple _ => "tuple" | .dict _ => "dict"
theorem dp_ty {K : PySem.W.Frag} {H : Hp} {v : V} {d : D} (h : Dp K H v d) : TyX K H v (.type (tyD d)) := by
  cases h with
  | non => exact .base .non
  | bl b => exact .base (.bl b)
  | int i => exact .base (.int i)
  | str x => exact .base (.str x)
  | lst h r =>
    rcases h with (h | ⟨o, h⟩) | ⟨o, its, n, h1, h2, _⟩
    · exact .base (.lst h)
    · exact .base (.frz h)
    · exact .kList h1 h2
  | tup h r =>
    rcases h with (h | ⟨o, h⟩) | ⟨o, its, n, h1, h2, _⟩
    · exact .base (.tup h)
    · exact .fTuple h
    · exact .kTuple h1 h2

/-! ### what a reading comes to -/
section
variable {K : PySem.W.Frag}
/-- the expression comes to the data d; what was tracked stays -/
def Ev (K : PySem.W.Frag) (te : TE) (s : St) (H : Hp) (d : D) : Prop := ∀ H1, Pr K H H1 → ∀ Q : VK, (∀ v H2, Same H1 H2 → Dp K H2 v d → Q v H2) → te s H1 Q
def Tv (K : PySem.W.Frag) (tt : TT) (s : St) (H : Hp) (b : Bool) : Prop := ∀ H1, Pr K H H1 → ∀ Q : Bool → Hp → Prop, (∀ H2, Same H1 H2 → Q b H2) → tt s H1 Q
def Av (K : PySem.W.Frag) (ta : TA) (s : St) (H : Hp) (ds : List D) : Prop := ∀ H1, Pr K H H1 → ∀ Q : List V → Hp → Prop, (∀ vs H2, Same H1 H2 → DpAll K H2 vs ds → Q vs H2) → ta s H1 Q
def Ov (K : PySem.W.Frag) (to : TO) (s : St) (H : Hp) (o : Option Int) : Prop := ∀ H1, Pr K H H1 → ∀ Q : Option Int → Hp → Prop, (∀ H2, Same H1 H2 → Q o H2) → to s H1 Q
/-- slot i holds the data d -/
def Sl (K : PySem.W.Frag) (s : St) (H : Hp) (i : Nat) (d : D) : Prop := ∃ v, s[i]? = some (some v) ∧ Dp K H v d

variable {s : St} {H H' : Hp} {ta tb te tc : TE} {t u : TT} {d e : D} {r : R2}
theorem Ev.up (k : Pr K H H') (h : Ev K te s H d) : Ev K te s H' d := fun H1 a Q q => h H1 (k.trans a) Q q
theorem Tv.up {b : Bool} (k : Pr K H H') (h : Tv K t s H b) : Tv K t s H' b := fun H1 a Q q => h H1 (k.trans a) Q q
theorem Av.up {ta : TA} {ds : List D} (k : Pr K H H') (h : Av K ta s H ds) : Av K ta s H' ds := fun H1 a Q q => h H1 (k.trans a) Q q
theorem ev_var {i : Nat} (h : Sl K s H i d) : Ev K (tVar i) s H d := fun H1 a _ q => by
  obtain ⟨v, h1, h2⟩ := h
  exact ⟨v, h1, q v H1 (Same.refl _) (a.dp h2)⟩
theorem ev_c {v : V} (h : Dp K H v d) : Ev K (tC v) s H d := fun H1 a _ q => q v H1 (Same.refl _) (a.dp h)
theorem ev_int {i : Int} : Ev K (tC (.int i)) s H (.int i) := ev_c (.int i)
theorem ev_str {x : Str} : Ev K (tC (.str x)) s H (.str x) := ev_c (.str x)
theorem ev_bl {b : Bool} : Ev K (tC (.bl b)) s H (.bool b) := ev_c (.bl b)
theorem ev_non : Ev K (tC .non) s H .none := ev_c .non
/-- a two-place operation by data -/
def RD (K : PySem.W.Frag) (r : R2) (H : Hp) (a b c : D) : Prop := ∀ H1 x y, Pr K H H1 → Dp K H1 x a → Dp K H1 y b → ∀ Q : VK, (∀ v H2, Same H1 H2 → Dp K H2 v c → Q v H2) → r x y H1 Q
theorem ev_op {a b c : D} (ha : Ev K ta s H a) (hb : Ev K tb s H b) (hr : RD K r H a b c) : Ev K (tOp r ta tb) s H c := fun H1 k Q q =>
  ha H1 k _ fun x H2 k2 dx => hb H2 (k.s k2) _ fun y H3 k3 dy => hr H3 x y ((k.s k2).s k3) (dp_same k3 dx) dy Q fun v H4 k4 dv => q v H4 ((k2.trans k3).trans k4) dv
theorem rd_I0 {g : Int → Int → V} {i j : Int} (h : ∀ H1, Dp K H1 (g i j) d) : RD K (rI0 g) H (.int i) (.int j) d := fun H1 x y _ dx dy Q q => ⟨i, j, dp_int dx, dp_int dy, q _ H1 (Same.refl _) (h H1)⟩
theorem rd_I {C : Int → Int → Prop} {g : Int → Int → V} {i j : Int} (hc : C i j) (h : ∀ H1, Dp K H1 (g i j) d) : RD K (rI C g) H (.int i) (.int j) d := fun H1 x y _ dx dy Q q => ⟨i, j, dp_int dx, dp_int dy, hc, q _ H1 (Same.refl _) (h H1)⟩
theorem rd_eqD {a b : D} (ha : SeqAt.shaped a = true) (hb : SeqAt.shaped b = true) : RD K (rEqD K) H a b (.bool (PyData.eqv a b)) := fun H1 x y _ dx dy Q q => ⟨a, b, dx, dy, ha, hb, q _ H1 (Same.refl _) (.bl _)⟩
theorem rd_neD {a b : D} (ha : SeqAt.shaped a = true) (hb : SeqAt.shaped b = true) : RD K (rNeD K) H a b (.bool (!PyData.eqv a b)) := fun H1 x y _ dx dy Q q => ⟨a, b, dx, dy, ha, hb, q _ H1 (Same.refl _) (.bl _)⟩
theorem rd_orL {r' : R2} {a b c : D} (h : RD K r H a b c) : RD K (fun x y H Q => r x y H Q ∨ r' x y H Q) H a b c := fun H1 x y k dx dy Q q => .inl (h H1 x y k dx dy Q q)
theorem rd_orR {r' : R2} {a b c : D} (h : RD K r' H a b c) : RD K (fun x y H Q => r x y H Q ∨ r' x y H Q) H a b c := fun H1 x y k dx dy Q q => .inr (h H1 x y k dx dy Q q)
theorem atI_dps {H : Hp} {vs : List V} {ds : List D} {i : Int} (r : DpAll K H vs ds) (h : atI ds i = some d) : ∃ v, atI vs i = some v ∧ Dp K H v d := by
  unfold atI at h ⊢
  rw [dps_len r]
  cases e : ixN ds.length i with
  | none => rw [e] at h; cases h
  | some j =>
    rw [e] at h
    exact dps_get r h
theorem rd_ixT {ds : List D} {i : Int} (h : atI ds i = some d) : RD K (rIx K) H (.tuple ds) (.int i) d := fun H1 x y _ dx dy Q q => by
  obtain ⟨a, xs, rfl, hs, r⟩ := dp_tup dx
  obtain ⟨v, h1, h2⟩ := atI_dps r h
  exact .inr (.inl ⟨a, xs, i, v, rfl, dp_int dy, hs, h1, q v H1 (Same.refl _) h2⟩)
theorem rd_ixL {ds : List D} {i : Int} (h : atI ds i = some d) : RD K (rIx K) H (.list ds) (.int i) d := fun H1 x y _ dx dy Q q => by
  obtain ⟨a, xs, rfl, hs, r⟩ := dp_lst dx
  obtain ⟨v, h1, h2⟩ := atI_dps r h
  exact .inl ⟨a, xs, i, v, rfl, dp_int dy, hs, h1, q v H1 (Same.refl _) h2⟩
theorem rd_ixS {z : Str} {i : Int} {c : Nat} (hz : z.length ≤ sizeLine) (h : atI z.cps.toList i = some c) : RD K (rIx K) H (.str z) (.int i) (.str ⟨#[c]⟩) := fun H1 x y _ dx dy Q q =>
  .inr (.inr ⟨z, i, c, dp_str dx, dp_int dy, hz, h, q _ H1 (Same.refl _) (.str _)⟩)
theorem ev_is {d' : D} (h : Ev K te s H d) (k : d = d') : Ev K te s H d' := k ▸ h
theorem tv_is {a b : Bool} (h : Tv K t s H a) (k : a = b) : Tv K t s H b := k ▸ h

/-! tests -/
theorem tv_B {b : Bool} (h : Ev K te s H (.bool b)) : Tv K (tB te) s H b := fun H1 k _ q => h H1 k _ fun v H2 k2 dv => ⟨b, dp_bool dv, q H2 k2⟩
theorem tv_T {b : Bool} (h : Ev K te s H (.bool b)) : Tv K (tTest te) s H b := fun H1 k _ q => h H1 k _ fun v H2 k2 dv => ⟨b, dp_bool dv, q H2 k2⟩
theorem tv_and {a b : Bool} (h1 : Tv K t s H a) (h2 : a = true → Tv K u s H b) : Tv K (tAnd t u) s H (a && b) := fun H1 k Q q => h1 H1 k _ fun H2 k2 => by
  cases a with
  | true =>
    show u s H2 Q
    exact h2 rfl H2 (k.s k2) Q fun H3 k3 => q H3 (k2.trans k3)
  | false =>
    show Q false H2
    exact q H2 k2
theorem tv_or {a b : Bool} (h1 : Tv K t s H a) (h2 : a = false → Tv K u s H b) : Tv K (tOr t u) s H (a || b) := fun H1 k Q q => h1 H1 k _ fun H2 k2 => by
  cases a with
  | true =>
    show Q true H2
    exact q H2 k2
  | false =>
    show u s H2 Q
    exact h2 rfl H2 (k.s k2) Q fun H3 k3 => q H3 (k2.trans k3)
theorem tv_not {a : Bool} (h1 : Tv K t s H a) : Tv K (tNot t) s H (!a) := fun H1 k _ q => h1 H1 k _ fun H2 k2 => q H2 k2
theorem ev_andV {a : Bool} {b : Bool} (h1 : Ev K ta s H (.bool a)) (h2 : a = true → Ev K tb s H (.bool b)) : Ev K (tAndV ta tb) s H (.bool (a && b)) := fun H1 k Q q => h1 H1 k _ fun v H2 k2 dv => ⟨a, dp_bool dv, by
  cases a with
  | true =>
    show tb s H2 Q
    exact h2 rfl H2 (k.s k2) Q fun w H3 k3 dw => q w H3 (k2.trans k3) dw
  | false =>
    show Q (.bl false) H2
    exact q _ H2 k2 (.bl _)⟩
theorem ev_orV {a : Bool} {b : Bool} (h1 : Ev K ta s H (.bool a)) (h2 : a = false → Ev K tb s H (.bool b)) : Ev K (tOrV ta tb) s H (.bool (a || b)) := fun H1 k Q q => h1 H1 k _ fun v H2 k2 dv => ⟨a, dp_bool dv, by
  cases a with
  | true =>
    show Q (.bl true) H2
    exact q _ H2 k2 (.bl _)
  | false =>
    show tb s H2 Q
    exact h2 rfl H2 (k.s k2) Q fun w H3 k3 dw => q w H3 (k2.trans k3) dw⟩
theorem ev_notV {a : Bool} (h1 : Ev K ta s H (.bool a)) : Ev K (tNotV ta) s H (.bool (!a)) := fun H1 k _ q => h1 H1 k _ fun v H2 k2 dv => ⟨a, dp_bool dv, q _ H2 k2 (.bl _)⟩
theorem ev_if {b : Bool} (h : Tv K t s H b) (h1 : b = true → Ev K ta s H d) (h2 : b = false → Ev K tb s H d) : Ev K (tIf t ta tb) s H d := fun H1 k Q q => h H1 k _ fun H2 k2 => by
  cases b with
  | true =>
    show ta s H2 Q
    exact h1 rfl H2 (k.s k2) Q fun v H3 k3 => q v H3 (k2.trans k3)
  | false =>
    show tb s H2 Q
    exact h2 rfl H2 (k.s k2) Q fun v H3 k3 => q v H3 (k2.trans k3)
/-- a op b op' c -/
theorem ev_chain {r' : R2} {a b c : D} {k1 k2 : Bool} (ha : Ev K ta s H a) (hb : Ev K tb s H b) (hr : RD K r H a b (.bool k1)) (hc : k1 = true → Ev K tc s H c) (hr' : k1 = true → RD K r' H b c (.bool k2)) : Ev K (tChain r r' ta tb tc) s H (.bool (k1 && k2)) := fun H1 k Q q =>
  ha H1 k _ fun x H2 j2 dx => hb H2 (k.s j2) _ fun y H3 j3 dy => hr H3 x y ((k.s j2).s j3) (dp_same j3 dx) dy _ fun z H4 j4 dz => ⟨k1, dp_bool dz, by
    cases k1 with
    | true =>
      show tc s H4 _
      exact hc rfl H4 (((k.s j2).s j3).s j4) _ fun w H5 j5 dw => hr' rfl H5 y w ((((k.s j2).s j3).s j4).s j5) (dp_same (j4.trans j5) dy) dw Q fun v H6 j6 dv => q v H6 ((((j2.trans j3).trans j4).trans j5).trans j6) dv
    | false =>
      show Q (.bl false) H4
      exact q _ H4 ((j2.trans j3).trans j4) (.bl _)⟩

/-! arguments, displays -/
theorem av_nil : Av K tNil s H [] := fun H1 _ _ q => q [] H1 (Same.refl _) .nil
theorem av_cons {tr : TA} {ds : List D} (h : Ev K ta s H d) (hr : Av K tr s H ds) : Av K (tCons ta tr) s H (d :: ds) := fun H1 k _ q =>
  h H1 k _ fun v H2 k2 dv => hr H2 (k.s k2) _ fun vs H3 k3 dvs => q _ H3 (k2.trans k3) (.cons (dp_same k3 dv) dvs)
theorem ev_tup {ta : TA} {ds : List D} (h : Av K ta s H ds) (hl : ds.length ≤ 100000) : Ev K (tTup ta) s H (.tuple ds) := fun H1 k _ q =>
  h H1 k _ fun vs H2 k2 dvs => ⟨by rw [dps_len dvs]; exact Nat.le_trans hl (by decide), fun p hp => q _ _ (k2.trans (Same.new hp)) (.tup (SqT.of upd_same) (dps_same (Same.new hp) dvs))⟩
theorem ev_lst {ta : TA} {ds : List D} (h : Av K ta s H ds) (hl : ds.length ≤ 100000) : Ev K (tLst ta) s H (.list ds) := fun H1 k _ q =>
  h H1 k _ fun vs H2 k2 dvs => ⟨by rw [dps_len dvs]; exact Nat.le_trans hl (by decide), fun p hp => q _ _ (k2.trans (Same.new hp)) (.lst (SqL.of upd_same) (dps_same (Same.new hp) dvs))⟩
/-- a built-in's call by data -/
def RC (K : PySem.W.Frag) (r : List V → Hp → VK → Prop) (H : Hp) (ds : List D) (c : D) : Prop := ∀ H1 xs, Pr K H H1 → DpAll K H1 xs ds → ∀ Q : VK, (∀ v H2, Same H1 H2 → Dp K H2 v c → Q v H2) → r xs H1 Q
theorem ev_cb {r : List V → Hp → VK → Prop} {ta : TA} {ds : List D} (h : Av K ta s H ds) (hr : RC K r H ds d) : Ev K (tCB r ta) s H d := fun H1 k Q q =>
  h H1 k _ fun vs H2 k2 dvs => hr H2 vs (k.s k2) dvs Q fun v H3 k3 dv => q v H3 (k2.trans k3) dv
def lenD : D → Nat
  | .str z => z.length | .list ds => ds.length | .tuple ds => ds.length | _ => 0
def sizedD : D → Prop
  | .str z => z.length ≤ sizeLine | .list _ => True | .tuple _ => True | _ => False
theorem rc_len (h : sizedD d) : RC K (fun xs H Q => ∃ x n, xs = [x] ∧ LenV K x H n ∧ Q (.int n) H) H [d] (.int (lenD d)) := fun H1 xs _ dx Q q => by
  cases dx with
  | cons hx hr =>
    cases hr
    cases d with
    | str z => exact ⟨_, _, rfl, by rw [dp_str hx]; exact ⟨h, rfl⟩, q _ H1 (Same.refl _) (.int _)⟩
    | list ds =>
      obtain ⟨a, ys, rfl, hs, hr⟩ := dp_lst hx
      exact ⟨_, _, rfl, .inl ⟨ys, hs, rfl⟩, by rw [dps_len hr]; exact q _ H1 (Same.refl _) (.int _)⟩
    | tuple ds =>
      obtain ⟨a, ys, rfl, hs, hr⟩ := dp_tup hx
      exact ⟨_, _, rfl, .inr ⟨ys, hs, rfl⟩, by rw [dps_len hr]; exact q _ H1 (Same.refl _) (.int _)⟩
    | _ => exact False.elim h
/-- a def's promise by data -/
def SpD (K : PySem.W.Frag) (sp : Sp) (H : Hp) (ds : List D) (c : D) : Prop := ∀ H1 vs, Pr K H H1 → DpAll K H1 vs ds → ∀ (Q : VK) (E : XK), (∀ v H2, Same H1 H2 → Dp K H2 v c → Q v H2) → sp vs H1 Q E
theorem ev_call {sp : Sp} {E : XK} {ta : TA} {ds : List D} (h : Av K ta s H ds) (hs : SpD K sp H ds d) : Ev K (tCall sp [] E ta) s H d := fun H1 k Q q =>
  h H1 k _ fun vs H2 k2 dvs => by
    rw [List.append_nil]
    exact hs H2 vs (k.s k2) dvs Q E fun v H3 k3 dv => q v H3 (k2.trans k3) dv
/-- isinstance(x, T) -/
theorem ev_isi {te : TE} {n : String} {b : Bool} (h : Ev K te s H d) (hb : kitB (tyD d) n = some b) : Ev K (tCB (rIsi K) (tCons te (tCons (tC (.ty n)) tNil))) s H (.bool b) := fun H1 k Q q =>
  h H1 k _ fun v H2 k2 dv => ⟨v, .ty n, .type (tyD d), .type n, b, rfl, .ty n, dp_ty dv, kit_ty hb, q _ H2 k2 (.bl _)⟩

/-! statements -/
variable {De : Ends} {tu tw : TS}
theorem s_asg {i : Nat} (h : Ev K te s H d) (k : ∀ v H1, Same H H1 → Dp K H1 v d → De.nx (s.set i (some v)) H1) : tAsg te (gName i) De s H := h H (Pr.refl H) _ fun v H1 e dv => k v H1 e dv
theorem s_ret (h : Ev K te s H d) (k : ∀ v H1, Same H H1 → Dp K H1 v d → De.rt v H1) : tRet te De s H := h H (Pr.refl H) _ k
theorem s_if {b : Bool} (h : Tv K t s H b) (h1 : b = true → ∀ H1, Same H H1 → tu De s H1) (h2 : b = false → ∀ H1, Same H H1 → tw De s H1) : tIfS t tu tw De s H := h H (Pr.refl H) _ fun H1 e => by
  cases b with
  | true =>
    show tu De s H1
    exact h1 rfl H1 e
  | false =>
    show tw De s H1
    exact h2 rfl H1 e
end
end K5
set_option Elab.async false
set_option linter.all false
set_option maxRecDepth 100000
set_option maxHeartbeats 4000000
/-! Rules for operators and walks, whatever the kinds. -/
namespace K5
open PySem L2 PySem.Spec PyProof.Rows
section
variable {X : Cx}

/-! ### a + b -/
theorem op_add_bi : OpR X (binaryOp .Add) (fun x y H Q => ∃ (b : Bool) (j : Int), x = .bl b ∧ y = .int j ∧ Q (.int ((if b = true then (1 : Int) else 0) + j)) H) := by
  intro pins s st H x y v u Q I rx ry h
  obtain ⟨b, j, rfl, rfl, q⟩ := h
  cases rx
  obtain ⟨t, rfl⟩ := ry
  exact PySem.IntBool.add_bool_int ⟨.int _, H, I.tok _, ⟨_, rfl⟩, q⟩
def rCatL (K : PySem.W.Frag) : R2 := fun x y H Q => ∃ l b xs zs, x = .ref l ∧ y = .ref b ∧ SqL K H l xs ∧ SqL K H b zs ∧ xs.length + zs.length ≤ sizeLine ∧ ∀ p, H p = none → Q (.ref p) (upd H p (.lst (xs ++ zs)))
theorem op_catL : OpR X (binaryOp .Add) (rCatL X.K) := by
  intro pins s st H x y v u Q I rx ry h
  obtain ⟨l, b, xs, zs, rfl, rfl, h1, h2, hz, q⟩ := h
  cases rx
  cases ry
  obtain ⟨its, r, ⟨⟨c, dd, dt, sl⟩, n, e, ec, ed, et⟩, _⟩ := I.list h1
  obtain ⟨its2, r2, ⟨⟨c2, dd2, dt2, sl2⟩, n2, e2, ec2, ed2, et2⟩, _⟩ := I.list h2
  simp only at ec ed et ec2 ed2 et2
  subst ec ed et ec2 ed2 et2
  have hl := r.length
  have hl2 := r2.length
  refine concat_meets ⟨_, e, rfl⟩ ⟨_, e2, rfl⟩ noFill_list_add seq_list_add PySem.F.slot_list_add PySem.F.entry_list_add (PySem.F.args_list_add_2 _ _)
    (PyProof.Rows.list_addW l b its.toArray its2.toArray n n2 none none sl sl2 (by rw [List.size_toArray, List.size_toArray]; omega)) ⟨e, e2, ?_⟩
  have ea : its.toArray ++ its2.toArray = (its ++ its2).toArray := by simp
  rw [ea]
  exact ⟨.ref _, _, I.lnew (t' := s.toks) (r.append r2) (by rw [List.length_append]; omega), rfl, q _ I.fresh⟩
def rAddI : R2 := rI0 fun i j => .int (i + j)
def rAddB : R2 := fun x y H Q => ∃ (b : Bool) (j : Int), x = .bl b ∧ y = .int j ∧ Q (.int ((if b = true then (1 : Int) else 0) + j)) H
def rAddT : R2 := fun x y H Q => ∃ i j, x = .str i ∧ y = .str j ∧ i.length + j.length ≤ sizeLine ∧ Q (.str (i ++ j)) H
def rOr (r r' : R2) : R2 := fun x y H Q => r x y H Q ∨ r' x y H Q
def rAddU (K : PySem.W.Frag) : R2 := rOr rAddI (rOr rAddB (rOr rAddT (rOr (rCatL K) (rCatA K))))
theorem opAddU : OpR X (binaryOp .Add) (rAddU X.K) := OpR.or op_add (OpR.or op_add_bi (OpR.or op_add_str (OpR.or op_catL op_catA)))

/-! ### a * b -/
theorem tuple_mul1 (l : Addr) (items : Array Value) (n : Nat) (dd : Option Addr) (sl : Array (Option Value)) (u : Tok) :
    Meets (Builtin.«tuple.__mul__» ⟨[.ref l, .int 1 u], []⟩) (fun _ R s => s.heap.get? l = some { cls := .type "tuple", dict := dd, data := .seq items n, slots := sl } ∧ R (.ok (.ret (Value.ref l))) s) :=
  .of_wp fun prog w A R s h => by
    obtain ⟨hp, g, d, tk, os⟩ := s
    obtain ⟨hl, h⟩ := h
    have f1 := AutoSeq1.idx_int
    have c1 : (items.isEmpty || (1 : Int) == 1) = true := by simp
    wp_walk using wpAny_loadPart' hl
    repeat (first
      | (refine wpAny_ite_true (decide_eq_true c1) ?_; wp_walk using wpAny_loadPart' hl)
      | (rw [c1, if_pos rfl]; wp_walk using wpAny_loadPart' hl))
    exact ⟨_, rfl, h⟩
def rRep1 (K : PySem.W.Frag) : R2 := fun x y H Q => ∃ l xs, x = .ref l ∧ y = .int 1 ∧ SqT K H l xs ∧ Q (.ref l) H
theorem op_rep1 : OpR X (binaryOp .Mult) (rRep1 X.K) := by
  intro pins s st H x y v u Q I rx ry h
  obtain ⟨l, xs, rfl, rfl, hT, q⟩ := h
  cases rx
  obtain ⟨t, rfl⟩ := ry
  obtain ⟨its, r, ⟨⟨cls, dd, data, sl⟩, ho, hc, n, hd⟩, hs⟩ := I.tuple hT
  simp only at hc hd
  subst hc hd
  exact wpAny_binaryOp_repeat_ref (T := "tuple") (U := "int") (by decide) ⟨_, ho, rfl⟩ (fun s' => typeIs_int s' 1 t) noFill_tuple_mul F.fills_int_mul F.slot_int_rmul repeat_tuple F.slot_int_index.lookup
    (call_meets F.slot_int_rmul (typeIs_int s 1 t) F.entry_int_rmul (F.args_int_rmul_2 _ _) (int_rmul_tuple 1 t l its.toArray n dd sl)
      ⟨ho, rfl, ⟨_, ho, rfl⟩, call_meets F.slot_tuple_mul ⟨_, ho, rfl⟩ F.entry_tuple_mul (F.args_tuple_mul_2 _ _) (tuple_mul1 l its.toArray n dd sl t) ⟨ho, ⟨.ref l, H, I, rfl, q⟩⟩⟩)
def rMulI : R2 := rI CMul fun i j => .int (i * j)
def rMulU (K : PySem.W.Frag) : R2 := rOr rMulI (rOr (rRep1 K) (rRepT K))
theorem opMulU : OpR X (binaryOp .Mult) (rMulU X.K) := OpR.or op_mul (OpR.or op_rep1 op_repT)

/-! ### x in y -/
def rInS : R2 := fun x y H Q => ∃ (c : Nat) (z : Str), x = .str ⟨#[c]⟩ ∧ y = .str z ∧ Q (.bl (decide (c ∈ z.cps.toList))) H
def rInU (K : PySem.W.Frag) : R2 := rOr rInS (rIn K false)
theorem opInU : OpR X (compareOp .In) (rInU X.K) := OpR.or op_in_sign op_in_seq

/-! ### a[lo:hi] -/
def rSlU (K : PySem.W.Frag) : V → Option Int → Option Int → Hp → VK → Prop := fun x lo hi H Q => rSlL K x lo hi H Q ∨ (rSlA K x lo hi H Q ∨ rSlS x lo hi H Q)
theorem slU : SlR X (rSlU X.K) := SlR.or sl_list (SlR.or sl_tupA sl_str)

/-! ### what is walked: a list, a tuple, a text -/
def iAny (K : PySem.W.Frag) (te : TE) : TI := fun st H R => te st H fun x H1 =>
  (∃ a, x = .ref a ∧ (∃ xs, SqL K H1 a xs) ∧ R (Itl K a) H1) ∨ (∃ a, x = .ref a ∧ (∃ xs, SqT K H1 a xs) ∧ R (Itt K a) H1) ∨ ∃ z, x = .str z ∧ R (Its z) H1
theorem pi_any {tg e : Expr} {te : TE} (he : PE X e te) : PI X tg e (iAny X.K te) := by
  refine ⟨fun pins s st H R I h => ?_⟩
  refine thn (he.run pins s st H _ I h) fun v s1 hh => ?_
  obtain ⟨x, H1, I1, r1, q⟩ := hh
  rcases q with ⟨a, rfl, ⟨xs, hq⟩, q⟩ | ⟨a, rfl, ⟨xs, hq⟩, q⟩ | ⟨z, rfl, q⟩
  · cases r1
    obtain ⟨its, rv, p, _⟩ := I1.list hq
    exact wpAny_pyIter_list p.isList (pi_one (tk := s1.toks) I1 _ (turn_list a _) ⟨_, Heap.get?_push_size _ rfl, rfl, rfl⟩ q)
  · cases r1
    obtain ⟨its, rv, p, _⟩ := I1.tuple hq
    exact wpAny_pyIter_tuple (show s1.heap.IsTuple a its.toArray from p) (pi_one (tk := s1.toks) I1 _ (turn_tuple a _) ⟨_, Heap.get?_push_size _ rfl, rfl, rfl⟩ q)
  · obtain ⟨t, rfl⟩ := r1
    cases ha : z.cps.all (· < 128)
    · exact wpAny_pyIter_wide ha (pi_one (tk := s1.toks) I1 _ (turn_str _ z t "str_iterator" (.inr rfl)) ⟨_, Heap.get?_push_size _ rfl, rfl, rfl⟩ q)
    · exact wpAny_pyIter_ascii ha (pi_one (tk := s1.toks) I1 _ (turn_str _ z t "str_ascii_iterator" (.inl rfl)) ⟨_, Heap.get?_push_size _ rfl, rfl, rfl⟩ q)
end
end K5
set_option Elab.async false
set_option linter.all false
set_option maxRecDepth 100000
set_option maxHeartbeats 4000000
/-! enumerate over a tuple. -/
namespace K5
open PySem L2 PySem.Spec PyProof.Rows

theorem meets_enum1 {v : Value} {o : Obj} {H : Heap → Prop} (B : Begins v o H) :
    Meets (Builtin.«enumerate.__new__» ⟨[.type "enumerate", v], []⟩) (fun _ R s => H s.heap ∧
      R (.ok (.ret (.ref (s.heap.push o).objs.size))) { s with heap := (s.heap.push o).push { cls := .type "enumerate", data := .fields #[.none, .bool false, .ref s.heap.objs.size, rawInt 0, .none, .none] } }) :=
  .of_wp fun prog w A R s h => by
    obtain ⟨hp, g, d, tk, os⟩ := s
    obtain ⟨h1, h⟩ := h
    have hsub := sub_enumerate
    have q1 : ∀ {A' : Around} {E : Value → Shared → Prop} {Q : Value → Shared → Prop}, Q (.ref hp.objs.size) ⟨hp.push o, g, d, tk, os⟩ → wpAny (model prog w) A' (pyIter v) Q E ⟨hp, g, d, tk, os⟩ :=
      fun q => B.iter prog w _ _ ⟨hp, g, d, tk, os⟩ _ h1 q
    wp_walk using q1
    refine wpAny_stack_any fun st => wpAny_pure ?_
    split
    · rename_i c _ _ _ _ _
      cases (c == Value.type "enumerate")
      · wp_walk using q1
        exact ⟨_, rfl, h⟩
      · wp_walk using q1
        exact ⟨_, rfl, h⟩
    · wp_walk using q1
      exact ⟨_, rfl, h⟩
theorem enum1_begins {prog : Program} {w : World} {A : Around} {E : Value → Shared → Prop} {s : Shared} {v : Value} {o : Obj} {H : Heap → Prop} {Q : Value → Shared → Prop} (B : Begins v o H) (h1 : H s.heap)
    (h : ∀ h', IsEnum h' (s.heap.objs.size + 1) s.heap.objs.size 0 .none → h'.get? s.heap.objs.size = some o →
      (∀ b o, s.heap.get? b = some o → h'.get? b = some o) → Q (.ref (s.heap.objs.size + 1)) { s with heap := h' }) :
    wpAny (model prog w) A (call (.type "enumerate") [v]) Q E s := by
  refine callType_new F.called_enumerate (by decide) (F.typeCall_enumerate_1 _) (F.newCall_enumerate_1 _) (fun obj => F.args_object_init_2 obj _) F.entry_enumerate_new (meets_enum1 B) ⟨h1, ?_⟩
  have hz : (s.heap.push o).objs.size = s.heap.objs.size + 1 := Heap.size_push ..
  show _ ∧ _
  rw [hz]
  have he : IsEnum ((s.heap.push o).push { cls := .type "enumerate", data := .fields #[.none, .bool false, .ref s.heap.objs.size, rawInt 0, .none, .none] }) (s.heap.objs.size + 1) s.heap.objs.size 0 .none := by
    have z := Heap.get?_push_size (s.heap.push o) (o := { cls := .type "enumerate", data := .fields #[.none, .bool false, .ref s.heap.objs.size, rawInt 0, .none, .none] }) rfl
    rw [hz] at z; exact z
  exact ⟨⟨_, he, rfl⟩, h _ he (Heap.get?_push_of_some _ (Heap.get?_push_size _ B.free)) fun b o x => Heap.get?_push_of_some _ (Heap.get?_push_of_some _ x)⟩

/-- the tuple at a, each item in a new pair with its place -/
def IteT (K : PySem.W.Frag) (a : Addr) : It :=
  ⟨fun i H => ∃ (xs : List V) (x : V), SqT K H a xs ∧ xs[i]? = some x, fun i H v H' => ∃ T x, v = .ref T ∧ H T = none ∧ H' = upd H T (.tup [.int (i : Nat), x]) ∧ ∀ xs, SqT K H a xs → xs[i]? = some x, fun i H => ∃ xs : List V, SqT K H a xs ∧ xs.length = i⟩
theorem turn_enumT {P : Program} {w : World} {K : PySem.W.Frag} {elts : List Expr} {kk : Nat} {tpos : Pos} (a e it : Addr) :
    Turn P w K (.Tuple elts kk tpos) (IteT K a) [e, it] e (fun i h => (∃ old, IsEnum h e it ((i : Nat) : Int) old) ∧ h.IsTupleIter it a i ∧ e ≠ it ∧ e ≠ a ∧ a ≠ it) where
  mem := by simp
  obj := fun i h st b hb => by
    obtain ⟨⟨old, he⟩, ⟨o, ho, hc, hd⟩, _⟩ := st
    have e' : b = e ∨ b = it := by simpa using hb
    rcases e' with z | z
    · rw [z]; exact ⟨_, he, fun v q => nomatch q⟩
    · rw [z]; exact ⟨o, ho, fun v q => by rw [hd] at q; cases q⟩
  keep := fun i h h' st k => by
    obtain ⟨⟨old, he⟩, hi, hne⟩ := st
    exact ⟨⟨old, k e (by simp) _ he⟩, hi.at fun o q => k it (by simp) o q, hne⟩
  item := by
    intro X hP hw hK hc i pins s st H E I hf tn hg
    subst hP hw hK
    obtain ⟨⟨old, he⟩, hit, hne, hea, hai⟩ := tn
    obtain ⟨xs, x, hq, hx⟩ := hg
    obtain ⟨its, rv, p, hz⟩ := I.tuple hq
    obtain ⟨u, hu, ru⟩ := rv.get hx
    have hel : e < s.heap.objs.size := Heap.lt_size he
    have hil : it < s.heap.objs.size := by obtain ⟨_, q, _⟩ := hit; exact Heap.lt_size q
    have DR := Draws.tuple (prog := X.prog) (w := X.w) (A := X.A.in1) (I.ok.hd hc) it a hai its.toArray
    have hlt : i < its.toArray.size := by
      obtain ⟨z, _⟩ := List.getElem?_eq_some_iff.mp hu
      simpa using z
    refine wpAny_pyNext_enum_itemD DR he ⟨hit, show s.heap.IsTuple a its.toArray from p⟩ hlt hne (by simp [hne, hea]) fun x' h' tk hx' ho hst' hT hsz hk => ?_
    have ex : x' = u := by
      have z : its.toArray[i]? = some x' := hx'
      have z2 : its[i]? = some x' := by simpa using z
      rw [hu] at z2
      exact (Option.some.inj z2).symm
    subst ex
    refine ⟨_, rfl, wpAny_letOwnedTupleGo_enum (s := { s with heap := h', toks := tk + 1 }) ho fun h'' he' sb => ?_⟩
    have hT2 : h''.get? s.heap.objs.size = some { cls := .type "tuple", data := .seq #[.int i tk, x'] } := (sb.2 _ (Nat.ne_of_gt hel)).trans hT
    have new : ObjOk X.prog X.w (upd H s.heap.objs.size (.tup [.int (i : Nat), x])) h'' s.heap.objs.size (.tup [.int (i : Nat), x]) :=
      ⟨by show 2 ≤ sizeLine; decide, [.int i tk, x'], .cons ⟨_, rfl⟩ (.cons ru .nil), ⟨_, hT2, rfl, _, rfl⟩⟩
    have I1 : Inv X pins st (upd H s.heap.objs.size (.tup [.int (i : Nat), x])) { s with heap := h'', toks := tk + 1 } :=
      I.turnedNew (ch := [e, it]) (fun b ob hb q => (sb.2 b (fun z => hb (by simp [z]))).trans (hk b ob (fun z => hb (by simp [z])) (fun z => hb (by simp [z])) q)) hf (Nat.le_refl _) new
    refine ⟨.ref s.heap.objs.size, _, I1, rfl, ⟨_, x, rfl, I.hok.fresh (Nat.le_refl _), rfl, fun ys hy => by rw [I.tuple_inj hy hq]; exact hx⟩, ⟨⟨x', ?_⟩, hst'.1.at fun o q => (sb.2 it (Ne.symm hne)).trans q, hne, hea, hai⟩, fun b hb => ?_⟩
    · have e1 : ((i + 1 : Nat) : Int) = (i : Int) + 1 := by omega
      rw [e1]; exact he'
    · have hb' : b < s.heap.objs.size := by
        have e' : b = e ∨ b = it := by simpa using hb
        rcases e' with z | z
        · rw [z]; exact hel
        · rw [z]; exact hil
      rw [upd_ne (Nat.ne_of_lt hb')]
      exact (hf b hb).1
  done := by
    intro X hP hw hK hc i pins s st H E I hf tn hg
    subst hP hw hK
    obtain ⟨⟨old, he⟩, hit, hne, hea, hai⟩ := tn
    obtain ⟨xs, hq, hx⟩ := hg
    obtain ⟨its, rv, p, hz⟩ := I.tuple hq
    obtain ⟨f0, f1, f2, f3, f4, f5⟩ := hf it (by simp)
    have hl := rv.length
    have DR := Draws.tuple (prog := X.prog) (w := X.w) (A := X.A.in1) (I.ok.hd hc) it a hai its.toArray
    have hi : i = its.toArray.size := by rw [List.size_toArray, ← hl, hx]
    subst hi
    exact wpAny_pyNext_enum_endD DR he ⟨hit, show s.heap.IsTuple a its.toArray from p⟩ fun h' eb => ⟨rfl, I.turned (t' := s.toks) (fun b o hb q => eb b o hb q) f0 f1 f3 f4 f5⟩
  self := fun A i s Q E st h => by
    obtain ⟨⟨_, he⟩, _⟩ := st
    exact wpAny_pyIter_enum he h
def iEnumU (K : PySem.W.Frag) (ta : TA) : TI := fun st H R => ta st H fun vs H1 =>
  (∃ a xs, vs = [.ref a] ∧ SqL K H1 a xs ∧ R (Ite K a) H1) ∨ (∃ a xs, vs = [.ref a] ∧ SqT K H1 a xs ∧ R (IteT K a) H1)
theorem pi_enumU {X : Cx} {e : Expr} {ta : TA} {p pos tpos : Pos} {elts : List Expr} {kk : Nat} (hg : Gl X "enumerate") (hm : X.mg "enumerate" = none) (ha : PA X [e] ta) (hs : starEach [e] X.env = [(false, eval e X.env)] := by rfl) :
    PI X (.Tuple elts kk tpos) (.Call (.Name "enumerate" p) [e] [] pos) (iEnumU X.K ta) := by
  refine ⟨fun pins s st H R I h => ?_⟩
  refine Call_ (ld_blt I hg hm boot_enumerate (PyProof.Rows.callWith_type1 (thn (ha.run pos pins s st H _ I h) fun us s1 hh => ?_) hs rfl))
  obtain ⟨vs, H1, I1, r1, q1⟩ := hh
  have cells : ∀ {b : Addr}, b ∈ [s1.heap.objs.size + 1, s1.heap.objs.size] → s1.heap.objs.size ≤ b := fun {b} hb => by
    have e' : b = s1.heap.objs.size + 1 ∨ b = s1.heap.objs.size := by simpa using hb
    rcases e' with z | z
    · rw [z]; exact Nat.le_add_right _ _
    · rw [z]; exact Nat.le_refl _
  rcases q1 with ⟨a, xs, rfl, hq, q⟩ | ⟨a, xs, rfl, hq, q⟩
  · obtain ⟨u, rfl, r⟩ := vals1 r1
    cases r
    obtain ⟨its, rv, p', hz⟩ := I1.list hq
    refine call_enumerate_list p'.isList fun h' he hit hsz hk => wpAny_pyIter_enum he ?_
    have I2 : Inv X pins st H1 { s1 with heap := h' } := I1.kept (t' := s1.toks) hk
    exact ⟨s1.heap.objs.size + 1, [s1.heap.objs.size + 1, s1.heap.objs.size], _, _, H1, rfl, I2, turn_enum a (s1.heap.objs.size + 1) s1.heap.objs.size, ⟨⟨.none, he⟩, hit, Nat.succ_ne_self _⟩,
      fun b hb => I1.fpOk (cells hb) (I1.hok.fresh (cells hb)), q⟩
  · obtain ⟨u, rfl, r⟩ := vals1 r1
    cases r
    obtain ⟨its, rv, p', hz⟩ := I1.tuple hq
    refine enum1_begins (begins_tuple a its.toArray) (show s1.heap.IsTuple a its.toArray from p') fun h' he hit hk => wpAny_pyIter_enum he ?_
    have I2 : Inv X pins st H1 { s1 with heap := h' } := I1.kept (t' := s1.toks) hk
    have hlt : a < s1.heap.objs.size := p'.lt
    exact ⟨s1.heap.objs.size + 1, [s1.heap.objs.size + 1, s1.heap.objs.size], _, _, H1, rfl, I2, turn_enumT a (s1.heap.objs.size + 1) s1.heap.objs.size,
      ⟨⟨.none, he⟩, ⟨_, hit, rfl, rfl⟩, Nat.succ_ne_self _, Nat.ne_of_gt (Nat.lt_succ_of_lt hlt), Nat.ne_of_lt hlt⟩, fun b hb => I1.fpOk (cells hb) (I1.hok.fresh (cells hb)), q⟩
theorem walk_enumT {K : PySem.W.Frag} {a : Addr} {xs : List V} : Walk (IteT K a) xs.length (fun H => SqT K H a xs) (YPair (fun i => some (.int (i : Nat))) (fun i => xs[i]?)) := by
  refine ⟨fun i _ hi q => ⟨xs, xs[i], q, by simp [hi]⟩, fun _ q => ⟨xs, q, rfl⟩, fun i H v H' _ q y => ?_⟩
  obtain ⟨T, x, h1, h2, h3, h4⟩ := y
  exact ⟨T, .int (i : Nat), x, h1, h2, h3, rfl, h4 xs q⟩
end K5
set_option Elab.async false
set_option linter.all false
set_option maxRecDepth 100000
set_option maxHeartbeats 4000000
/-! What the top has written; a def's promise by its name; promises over data. -/
namespace K5
open PySem L2 PySem.Spec PyProof.Rows

def topS (i : Nat) : Stmt := PySem.Challenge.pw_ringdown_k50_whole_papers_of_changes.main.body.getD i (.Pass ⟨0, 0, 0, 0⟩)

def alph : Str := "abcdefghijklmnopqrstuvwxyz"
structure Txt (w : World) (K : PySem.W.Frag) (mg : Str → Option Value) : Prop where
  n_len : mg "len" = none
  n_isinstance : mg "isinstance" = none
  n_tuple : mg "tuple" = none
  n_list : mg "list" = none
  n_all : mg "all" = none
  n_min : mg "min" = none
  n_sum : mg "sum" = none
  n_repr : mg "repr" = none
  n_range : mg "range" = none
  n_enumerate : mg "enumerate" = none
  n_int : mg "int" = none
  n_str : mg "str" = none
  n_bool : mg "bool" = none
  n_ValueError : mg "ValueError" = none
  n_LookupError : mg "LookupError" = none
  n_RuntimeError : mg "RuntimeError" = none
  g_LETTERS : ∃ u, mg "LETTERS" = some u ∧ RelV (.str alph) u
  g_MOST_LETTERS : ∃ u, mg "MOST_LETTERS" = some u ∧ RelV (.int 8) u
  g_MOST_WORDS : ∃ u, mg "MOST_WORDS" = some u ∧ RelV (.int 6) u
  g_MANY_PRICES : ∃ u, mg "MANY_PRICES" = some u ∧ RelV (.int 6) u
  g_MOST_PRICE : ∃ u, mg "MOST_PRICE" = some u ∧ RelV (.int 9) u
  g_MOST_STEPS : ∃ u, mg "MOST_STEPS" = some u ∧ RelV (.int 12) u
  g_PRICED : ∃ p, mg "PRICED" = some (.ref p) ∧ KDct K w p "left" (.int 2) ∧ KDct K w p "put" (.int 3) ∧ KDct K w p "other" (.int 4)

section
variable {X : Cx} {e : Expr} {es : List Expr} {t : TA} {x : Str} {p pos : Pos} {v : V}
/-- a name of the module, as a value -/
theorem pgl (hg : Gl X x) (h : ∃ u, X.mg x = some u ∧ RelV v u) (hd : (x == ("__debug__" : Str)) = false := by decide) : PE X (.Name x pos) (tC v) := by
  obtain ⟨u, h1, h2⟩ := h
  exact pe_glob hg h1 h2 hd

/-- the def called x keeps sp -/
structure KCal (P : Program) (w : World) (K : PySem.W.Frag) (mg : Str → Option Value) (base : Heap) (CX : CXT) (k : Nat) (x : Str) (ps : List Str) (sp : Sp) : Prop where
  ex : ∃ (f : Addr) (fd : FuncData), mg x = some (.ref f) ∧ PySem.W.keepIn K (.ref f) = true ∧ Binds K fd ps [] ∧ FnOk P w K mg base CX k f fd ps sp
/-- the def of the text x stands where its name says -/
structure DefAt (K : PySem.W.Frag) (mg : Str → Option Value) (x : Str) (st : Stmt) : Prop where
  ex : ∃ (f : Addr) (fd : FuncData), mg x = some (.ref f) ∧ Fun K x x st f fd
theorem DefAt.cal {P : Program} {w : World} {K : PySem.W.Frag} {mg : Str → Option Value} {base : Heap} {CX : CXT} {k : Nat} {st : Stmt} {ps : List Str} {sp : Sp} (d : DefAt K mg x st)
    (hb : ∀ (kV doc pm : Value) (an : Option Addr) (cdv ct : Value) (us : List Value), us.length = ps.length → bindArgs (PySem.W.fnOf x x (defArgs st) (defBody st) (defScope st) .none kV doc pm an cdv ct) ⟨us, []⟩ = pure (ps.zip us))
    (ok : ∀ f fd, Fun K x x st f fd → FnOk P w K mg base CX k f fd ps sp) : KCal P w K mg base CX k x ps sp := by
  obtain ⟨f, fd, h1, F⟩ := d.ex
  exact ⟨f, fd, h1, F.kp, F.binds hb, ok f fd F⟩
theorem pcE {CX : CXT} {k j : Nat} {ps : List Str} {sp : Sp} {E : XK} (G : KCal X.prog X.w X.K X.mg X.base CX k x ps sp) (hr : Room j X.A) (hk : k ≤ j) (hg : Gl X x) (hx : Passes CX X E) (ha : PA X (e :: es) t)
    (hdb : (x == ("__debug__" : Str)) = false := by decide) (he : starEach (e :: es) X.env = (false, eval e X.env) :: starEach es X.env := by rfl) (hpl : (backTo pos (starEach es X.env)).any (·.1) = false := by rfl) :
    PE X (.Call (.Name x p) (e :: es) [] pos) (tCall sp [] E t) := by
  obtain ⟨f, fd, h1, h2, h3, h4⟩ := G.ex
  exact pe_call h4 (hr.mono hk) hg h1 h2 h3 .nil hx ha hdb he hpl
theorem pc0 {k j : Nat} {ps : List Str} {sp : Sp} (G : KCal X.prog X.w X.K X.mg X.base CX0 k x ps sp) (hr : Room j X.A) (hk : k ≤ j) (hg : Gl X x) (ha : PA X (e :: es) t)
    (hdb : (x == ("__debug__" : Str)) = false := by decide) (he : starEach (e :: es) X.env = (false, eval e X.env) :: starEach es X.env := by rfl) (hpl : (backTo pos (starEach es X.env)).any (·.1) = false := by rfl) :
    PE X (.Call (.Name x p) (e :: es) [] pos) (tCall sp [] E0 t) := pcE G hr hk hg pass0 ha hdb he hpl
end

/-! promises over data -/
/-- n things, data ds that are so; the answer is the data f ds -/
def spD (K : PySem.W.Frag) (n : Nat) (ok : List D → Prop) (f : List D → D) : Sp := fun vs H Q _ => ∃ ds : List D, DpAll K H vs ds ∧ ds.length = n ∧ ok ds ∧ ∀ u H', Same H H' → Dp K H' u (f ds) → Q u H'
theorem spd_of {K : PySem.W.Frag} {n : Nat} {ok : List D → Prop} {f : List D → D} {H : Hp} {ds : List D} {c : D} (h : ok ds) (hn : ds.length = n := by rfl) (hc : f ds = c := by rfl) : SpD K (spD K n ok f) H ds c := fun H1 vs _ dv Q E q => by
  subst hc
  exact ⟨ds, dv, hn, h, q⟩
theorem spd_len {K : PySem.W.Frag} {n : Nat} {ok : List D → Prop} {f : List D → D} {vs : List V} {H : Hp} {Q : VK} {E : XK} (h : spD K n ok f vs H Q E) : vs.length = n := by
  obtain ⟨ds, h1, h2, _⟩ := h
  rw [dps_len h1, h2]
theorem dps1 {K : PySem.W.Frag} {H : Hp} {vs : List V} {ds : List D} (h : DpAll K H vs ds) (n : ds.length = 1) : ∃ v d, vs = [v] ∧ ds = [d] ∧ Dp K H v d := by
  cases h with
  | nil => cases n
  | cons h r => cases r with
    | nil => exact ⟨_, _, rfl, rfl, h⟩
    | cons _ _ => simp at n
theorem dps2 {K : PySem.W.Frag} {H : Hp} {vs : List V} {ds : List D} (h : DpAll K H vs ds) (n : ds.length = 2) : ∃ v d v2 d2, vs = [v, v2] ∧ ds = [d, d2] ∧ Dp K H v d ∧ Dp K H v2 d2 := by
  cases h with
  | nil => cases n
  | cons h r =>
    obtain ⟨v2, d2, rfl, rfl, h2⟩ := dps1 r (by simpa using n)
    exact ⟨_, _, _, _, rfl, rfl, h, h2⟩
theorem dps3 {K : PySem.W.Frag} {H : Hp} {vs : List V} {ds : List D} (h : DpAll K H vs ds) (n : ds.length = 3) : ∃ v d v2 d2 v3 d3, vs = [v, v2, v3] ∧ ds = [d, d2, d3] ∧ Dp K H v d ∧ Dp K H v2 d2 ∧ Dp K H v3 d3 := by
  cases h with
  | nil => cases n
  | cons h r =>
    obtain ⟨v2, d2, v3, d3, rfl, rfl, h2, h3⟩ := dps2 r (by simpa using n)
    exact ⟨_, _, _, _, _, _, rfl, rfl, h, h2, h3⟩
theorem dps4 {K : PySem.W.Frag} {H : Hp} {vs : List V} {ds : List D} (h : DpAll K H vs ds) (n : ds.length = 4) : ∃ v d v2 d2 v3 d3 v4 d4, vs = [v, v2, v3, v4] ∧ ds = [d, d2, d3, d4] ∧ Dp K H v d ∧ Dp K H v2 d2 ∧ Dp K H v3 d3 ∧ Dp K H v4 d4 := by
  cases h with
  | nil => cases n
  | cons h r =>
    obtain ⟨v2, d2, v3, d3, v4, d4, rfl, rfl, h2, h3, h4⟩ := dps3 r (by simpa using n)
    exact ⟨_, _, _, _, _, _, _, _, rfl, rfl, h, h2, h3, h4⟩

/-! ### is_whole, is_among -/
def isInt : D → Bool
  | .int _ => true | _ => false
def amongD (d : D) (lo hi : Int) : Bool := match d with
  | .int i => decide (lo ≤ i) && decide (i ≤ hi) | _ => false

abbrev s_is_whole : Stmt := topS 23
abbrev N_is_whole : List Str := ["thing"]
theorem sc_is_whole : FnScope N_is_whole ["thing"] (defScope s_is_whole) := ⟨rfl, rfl, rfl, by decide +kernel, rfl, by decide +kernel, by decide +kernel⟩
section
variable {P : Program} {w : World} {K : PySem.W.Frag} {mg : Str → Option Value} {base : Heap}
theorem kit_int (d : D) : kitB (tyD d) "int" = some (match d with | .int _ => true | .bool _ => true | _ => false) := by
  cases d with
  | none => show kitB "NoneType" "int" = some false; decide +kernel
  | bool b => show kitB "bool" "int" = some true; decide +kernel
  | int i => show kitB "int" "int" = some true; decide +kernel
  | str x => show kitB "str" "int" = some false; decide +kernel
  | list xs => show kitB "list" "int" = some false; decide +kernel
  | tuple xs => show kitB "tuple" "int" = some false; decide +kernel
  | dict xs => show kitB "dict" "int" = some false; decide +kernel
theorem kit_bool (d : D) : kitB (tyD d) "bool" = some (match d with | .bool _ => true | _ => false) := by
  cases d with
  | none => show kitB "NoneType" "bool" = some false; decide +kernel
  | bool b => show kitB "bool" "bool" = some true; decide +kernel
  | int i => show kitB "int" "bool" = some false; decide +kernel
  | str x => show kitB "str" "bool" = some false; decide +kernel
  | list xs => show kitB "list" "bool" = some false; decide +kernel
  | tuple xs => show kitB "tuple" "bool" = some false; decide +kernel
  | dict xs => show kitB "dict" "bool" = some false; decide +kernel
theorem kit_str (d : D) : kitB (tyD d) "str" = some (match d with | .str _ => true | _ => false) := by
  cases d with
  | none => show kitB "NoneType" "str" = some false; decide +kernel
  | bool b => show kitB "bool" "str" = some false; decide +kernel
  | int i => show kitB "int" "str" = some false; decide +kernel
  | str x => show kitB "str" "str" = some true; decide +kernel
  | list xs => show kitB "list" "str" = some false; decide +kernel
  | tuple xs => show kitB "tuple" "str" = some false; decide +kernel
  | dict xs => show kitB "dict" "str" = some false; decide +kernel
theorem kit_tuple (d : D) : kitB (tyD d) "tuple" = some (match d with | .tuple _ => true | _ => false) := by
  cases d with
  | none => show kitB "NoneType" "tuple" = some false; decide +kernel
  | bool b => show kitB "bool" "tuple" = some false; decide +kernel
  | int i => show kitB "int" "tuple" = some false; decide +kernel
  | str x => show kitB "str" "tuple" = some false; decide +kernel
  | list xs => show kitB "list" "tuple" = some false; decide +kernel
  | tuple xs => show kitB "tuple" "tuple" = some true; decide +kernel
  | dict xs => show kitB "dict" "tuple" = some false; decide +kernel
abbrev spIsWhole (K : PySem.W.Frag) : Sp := spD K 1 (fun _ => True) fun ds => .bool (isInt (ds.getD 0 .none))
theorem c_is_whole (T : Txt w K mg) (d : DefAt K mg "is_whole" s_is_whole) : KCal P w K mg base CX0 1 "is_whole" ["thing"] (spIsWhole K) := by
  refine d.cal (fun _ _ _ _ _ _ us hl => match us, hl with | [_], _ => rfl) fun f fd F => F.ok sc_is_whole (fun vs H Q E h => spd_len h) (fun cdv A outer s H vs Q E hr h => ?_)
  refine ⟨_, (pss_one (ps_ret (pe_and (pe_callB call_isi (by rfl) T.n_isinstance (by decide +kernel) (pa_cons (pv 0) (pa_cons (pe_bltn (v := .ty "int") rfl T.n_int (by decide +kernel) rfl) pa_nil))) (pe_one (pe_not (pe_callB call_isi (by rfl) T.n_isinstance (by decide +kernel) (pa_cons (pv 0) (pa_cons (pe_bltn (v := .ty "bool") rfl T.n_bool (by decide +kernel) rfl) pa_nil)))))))), ?_⟩
  obtain ⟨ds, h1, h2, _, k⟩ := h
  obtain ⟨v, d, rfl, rfl, hd⟩ := dps1 h1 h2
  have s0 : Sl K (start N_is_whole [v]) H 0 d := ⟨v, rfl, hd⟩
  refine s_ret (ev_andV (ev_isi (ev_var s0) (kit_int d)) fun _ => ev_notV (ev_isi (ev_var s0) (kit_bool d))) fun u H1 e1 du => k u H1 e1 ?_
  cases d <;> exact du
end
end K5
set_option Elab.async false
set_option linter.all false
set_option maxRecDepth 100000
set_option maxHeartbeats 4000000
/-! Operators, slices, walks and comprehensions over data. -/
namespace K5
open PySem L2 PySem.Spec PyProof.Rows
section
variable {K : PySem.W.Frag} {s : L2.St} {H H' : Hp} {ta tb te tc : TE} {t u : TT} {d e : D} {r : R2}
theorem Sl.up {i : Nat} (k : Pr K H H') (h : Sl K s H i d) : Sl K s H' i d := by
  obtain ⟨v, h1, h2⟩ := h
  exact ⟨v, h1, k.dp h2⟩
theorem Sl.same {i : Nat} (k : Same H H') (h : Sl K s H i d) : Sl K s H' i d := h.up (.of k)
theorem Sl.set_ne {i j : Nat} {x : Option V} (h : Sl K s H i d) (n : j ≠ i) : Sl K (s.set j x) H i d := by
  obtain ⟨v, h1, h2⟩ := h
  exact ⟨v, by rw [List.getElem?_set_ne n]; exact h1, h2⟩
theorem Sl.set_eq {i : Nat} {v : V} (h : Dp K H v d) (n : i < s.length) : Sl K (s.set i (some v)) H i d := ⟨v, by rw [List.getElem?_set_self n], h⟩
theorem dps_l {ds : List D} {H : Hp} {vs : List V} (r : DpAll K H vs ds) : vs.length = ds.length := dps_len r

/-! ### operators -/
theorem rd_addI {i j : Int} : RD K (rAddU K) H (.int i) (.int j) (.int (i + j)) := rd_orL (rd_I0 fun _ => .int _)
theorem rd_addB {b : Bool} {j : Int} : RD K (rAddU K) H (.bool b) (.int j) (.int ((if b = true then (1 : Int) else 0) + j)) := rd_orR (rd_orL fun H1 x y _ dx dy Q q => ⟨b, j, dp_bool dx, dp_int dy, q _ H1 (Same.refl _) (.int _)⟩)
theorem rd_addS {i j : Str} (h : i.length + j.length ≤ 100000) : RD K (rAddU K) H (.str i) (.str j) (.str (i ++ j)) := rd_orR (rd_orR (rd_orL fun H1 x y _ dx dy Q q => ⟨i, j, dp_str dx, dp_str dy, Nat.le_trans h (by decide), q _ H1 (Same.refl _) (.str _)⟩))
theorem rd_addL {xs ys : List D} (h : xs.length + ys.length ≤ 100000) : RD K (rAddU K) H (.list xs) (.list ys) (.list (xs ++ ys)) := rd_orR (rd_orR (rd_orR (rd_orL fun H1 x y _ dx dy Q q => by
  obtain ⟨a, us, rfl, h1, r1⟩ := dp_lst dx
  obtain ⟨b, vs, rfl, h2, r2⟩ := dp_lst dy
  refine ⟨a, b, us, vs, rfl, rfl, h1, h2, by rw [dps_len r1, dps_len r2]; exact Nat.le_trans h (by decide), fun p hp => q _ _ (Same.new hp) (.lst (SqL.of upd_same) (dps_same (Same.new hp) (dps_app r1 r2)))⟩)))
theorem rd_addT {xs ys : List D} (h : xs.length + ys.length ≤ 100000) : RD K (rAddU K) H (.tuple xs) (.tuple ys) (.tuple (xs ++ ys)) := rd_orR (rd_orR (rd_orR (rd_orR fun H1 x y _ dx dy Q q => by
  obtain ⟨a, us, rfl, h1, r1⟩ := dp_tup dx
  obtain ⟨b, vs, rfl, h2, r2⟩ := dp_tup dy
  refine ⟨a, b, us, vs, rfl, rfl, h1, h2, by rw [dps_len r1, dps_len r2]; exact Nat.le_trans h (by decide), fun e => ?_, fun _ e => ?_, fun _ _ p hp => q _ _ (Same.new hp) (.tup (SqT.of upd_same) (dps_same (Same.new hp) (dps_app r1 r2)))⟩
  · subst e
    cases r1
    exact q _ H1 (Same.refl _) dy
  · subst e
    cases r2
    rw [List.append_nil] at q
    exact q _ H1 (Same.refl _) dx)))
theorem rd_mul {i j : Int} (h : CMul i j) : RD K (rMulU K) H (.int i) (.int j) (.int (i * j)) := rd_orL (rd_I h fun _ => .int _)
theorem rd_mul1 {xs : List D} : RD K (rMulU K) H (.tuple xs) (.int 1) (.tuple xs) := rd_orR (rd_orL fun H1 x y _ dx dy Q q => by
  obtain ⟨a, us, rfl, h1, r1⟩ := dp_tup dx
  exact ⟨a, us, rfl, dp_int dy, h1, q _ H1 (Same.refl _) (.tup h1 r1)⟩)
theorem dps_rep {H : Hp} {vs : List V} {ds : List D} (r : DpAll K H vs ds) : ∀ n : Nat, DpAll K H (List.replicate n vs).flatten (List.replicate n ds).flatten
  | 0 => .nil
  | n + 1 => by
    rw [List.replicate_succ, List.replicate_succ, List.flatten_cons, List.flatten_cons]
    exact dps_app r (dps_rep r n)
theorem rd_mulT {xs : List D} {k : Int} (h0 : xs ≠ []) (h1 : 2 ≤ k) (h2 : k ≤ 1000) (h3 : xs.length ≤ 1000) : RD K (rMulU K) H (.tuple xs) (.int k) (.tuple (List.replicate k.toNat xs).flatten) := rd_orR (rd_orR fun H1 x y _ dx dy Q q => by
  obtain ⟨a, us, rfl, e1, r1⟩ := dp_tup dx
  refine ⟨a, k, us, rfl, dp_int dy, e1, ?_, h1, h2, by rw [dps_len r1]; exact h3, fun p hp => q _ _ (Same.new hp) (.tup (SqT.of upd_same) (dps_same (Same.new hp) (dps_rep r1 _)))⟩
  intro z
  subst z
  cases r1
  exact h0 rfl)
theorem rd_inS {c : Nat} {z : Str} : RD K (rInU K) H (.str ⟨#[c]⟩) (.str z) (.bool (decide (c ∈ z.cps.toList))) := rd_orL fun H1 x y _ dx dy Q q => ⟨c, z, dp_str dx, dp_str dy, q _ H1 (Same.refl _) (.bl _)⟩
theorem dps_ints {H : Hp} : ∀ {vs : List V} {ns : List Int}, DpAll K H vs (ns.map .int) → vs = ns.map V.int
  | _, [], h => by cases h; rfl
  | _, n :: ns, h => by
    cases h with
    | cons h1 r => rw [dp_int h1, dps_ints r]; rfl
theorem rd_inT {i : Int} {ns : List Int} : RD K (rInU K) H (.int i) (.tuple (ns.map .int)) (.bool (ns.any fun y => y == i)) := rd_orR fun H1 x y _ dx dy Q q => by
  obtain ⟨a, us, rfl, e1, r1⟩ := dp_tup dy
  have e2 := dps_ints r1
  subst e2
  have e3 := dp_int dx
  subst e3
  refine ⟨a, _, rfl, .inr e1, rfl, ?_, ?_⟩
  · simp [flatV]
  · have e : inV (V.int i) (ns.map V.int) = ns.any fun y => y == i := by
      unfold inV
      rw [List.any_map]
      rfl
    rw [if_neg (by decide), e]
    exact q _ H1 (Same.refl _) (.bl _)
def isN : D → Bool
  | .none => true | _ => false
theorem isN_dp {H : Hp} {x : V} (dx : Dp K H x d) : decide (x = .non) = isN d := by cases dx <;> rfl
theorem rd_isN : RD K (fun x y H Q => y = .non ∧ Q (.bl (decide (x = .non))) H) H d .none (.bool (isN d)) := fun H1 x y _ dx dy Q q => ⟨dp_none dy, by rw [isN_dp dx]; exact q _ H1 (Same.refl _) (.bl _)⟩
theorem rd_notN : RD K (fun x y H Q => y = .non ∧ Q (.bl (!decide (x = .non))) H) H d .none (.bool (!isN d)) := fun H1 x y _ dx dy Q q => ⟨dp_none dy, by rw [isN_dp dx]; exact q _ H1 (Same.refl _) (.bl _)⟩

/-! ### slices -/
def cutD {α : Type} (xs : List α) (lo hi : Option Int) : List α := (xs.drop (HT.sIx xs.length 0 lo)).take (HT.sIx xs.length xs.length hi - HT.sIx xs.length 0 lo)
theorem ov_no : Ov K tNoPart s H none := fun H1 _ _ q => q H1 (Same.refl _)
theorem ov_some {i : Int} (h : Ev K te s H (.int i)) : Ov K (tPart te) s H (some i) := fun H1 k _ q => h H1 k _ fun v H2 k2 dv => ⟨i, dp_int dv, q H2 k2⟩
theorem cutV_D {H : Hp} {vs : List V} {ds : List D} {lo hi : Option Int} (r : DpAll K H vs ds) : DpAll K H (cutV vs lo hi) (cutD ds lo hi) := by
  unfold cutV cutD
  rw [dps_len r]
  exact dps_take _ (dps_drop _ r)
theorem ev_slL {to tp : TO} {xs : List D} {lo hi : Option Int} (h : Ev K te s H (.list xs)) (h1 : Ov K to s H lo) (h2 : Ov K tp s H hi) : Ev K (tSl (rSlU K) te to tp) s H (.list (cutD xs lo hi)) := fun H1 k Q q =>
  h H1 k _ fun v H2 k2 dv => h1 H2 (k.s k2) _ fun H3 k3 => h2 H3 ((k.s k2).s k3) _ fun H4 k4 => .inl (by
    obtain ⟨a, us, rfl, e1, r1⟩ := dp_lst (dp_same (k3.trans k4) dv)
    exact ⟨a, us, rfl, e1, fun p hp => q _ _ (((k2.trans k3).trans k4).trans (Same.new hp)) (.lst (SqL.of upd_same) (dps_same (Same.new hp) (cutV_D r1)))⟩)
theorem sIx_none0 (n : Nat) : HT.sIx n n none = n := rfl
theorem ev_slT {to tp : TO} {xs : List D} {lo hi : Option Int} (h : Ev K te s H (.tuple xs)) (h1 : Ov K to s H lo) (h2 : Ov K tp s H hi) : Ev K (tSl (rSlU K) te to tp) s H (.tuple (cutD xs lo hi)) := fun H1 k Q q =>
  h H1 k _ fun v H2 k2 dv => h1 H2 (k.s k2) _ fun H3 k3 => h2 H3 ((k.s k2).s k3) _ fun H4 k4 => .inr (.inl (by
    obtain ⟨a, us, rfl, e1, r1⟩ := dp_tup (dp_same (k3.trans k4) dv)
    refine ⟨a, us, rfl, e1, fun e => ?_, fun _ p hp => q _ _ (((k2.trans k3).trans k4).trans (Same.new hp)) (.tup (SqT.of upd_same) (dps_same (Same.new hp) (cutV_D r1)))⟩
    have e2 : cutD xs lo hi = xs := by
      rw [dps_len r1] at e
      unfold cutD
      rw [e.1, e.2]
      simp
    rw [e2] at q
    exact q _ H4 ((k2.trans k3).trans k4) (.tup e1 r1)))
theorem ev_slS {to tp : TO} {z : Str} {lo hi : Option Int} (h : Ev K te s H (.str z)) (h1 : Ov K to s H lo) (h2 : Ov K tp s H hi) (hz : z.length ≤ 100000) : Ev K (tSl (rSlU K) te to tp) s H (.str (cutS z lo hi)) := fun H1 k Q q =>
  h H1 k _ fun v H2 k2 dv => h1 H2 (k.s k2) _ fun H3 k3 => h2 H3 ((k.s k2).s k3) _ fun H4 k4 => .inr (.inr ⟨z, dp_str dv, Nat.le_trans hz (by decide), q _ H4 ((k2.trans k3).trans k4) (.str _)⟩)
theorem ev_neg {i : Int} (h : Ev K te s H (.int i)) : Ev K (tUn (rU fun i => .int (-i)) te) s H (.int (-i)) := fun H1 k _ q => h H1 k _ fun v H2 k2 dv => ⟨i, dp_int dv, q _ H2 k2 (.int _)⟩
theorem ev_revL {xs : List D} (h : Ev K te s H (.list xs)) : Ev K (tRevL K te) s H (.list xs.reverse) := fun H1 k _ q => h H1 k _ fun v H2 k2 dv => by
  obtain ⟨a, us, rfl, e1, r1⟩ := dp_lst dv
  exact ⟨a, us, rfl, e1, fun p hp => q _ _ (k2.trans (Same.new hp)) (.lst (SqL.of upd_same) (dps_same (Same.new hp) (dps_rev r1)))⟩
/-- tuple(x), list(x) -/
theorem ev_tupOf {ta : TA} {xs : List D} (h : Av K ta s H [.list xs]) : Ev K (tCB (fun xs H Q => ∃ p ys, xs = [.ref p] ∧ ((SqL K H p ys ∧ ∀ l, H l = none → Q (.ref l) (upd H l (.tup ys))) ∨ (SqT K H p ys ∧ Q (.ref p) H))) ta) s H (.tuple xs) := fun H1 k _ q => h H1 k _ fun vs H2 k2 dv => by
  obtain ⟨v, d, rfl, e, hd⟩ := dps1 dv rfl
  cases e
  obtain ⟨a, us, rfl, e1, r1⟩ := dp_lst hd
  exact ⟨a, us, rfl, .inl ⟨e1, fun p hp => q _ _ (k2.trans (Same.new hp)) (.tup (SqT.of upd_same) (dps_same (Same.new hp) r1))⟩⟩
theorem ev_tupOfT {ta : TA} {xs : List D} (h : Av K ta s H [.tuple xs]) : Ev K (tCB (fun xs H Q => ∃ p ys, xs = [.ref p] ∧ ((SqL K H p ys ∧ ∀ l, H l = none → Q (.ref l) (upd H l (.tup ys))) ∨ (SqT K H p ys ∧ Q (.ref p) H))) ta) s H (.tuple xs) := fun H1 k _ q => h H1 k _ fun vs H2 k2 dv => by
  obtain ⟨v, d, rfl, e, hd⟩ := dps1 dv rfl
  cases e
  obtain ⟨a, us, rfl, e1, r1⟩ := dp_tup hd
  exact ⟨a, us, rfl, .inr ⟨e1, q _ _ k2 hd⟩⟩
theorem ev_listOf {ta : TA} {xs : List D} (h : Av K ta s H [d]) (hd : d = .list xs ∨ d = .tuple xs) : Ev K (tCB (fun xs H Q => ∃ p ys, xs = [.ref p] ∧ (SqL K H p ys ∨ SqT K H p ys) ∧ ∀ l, H l = none → Q (.ref l) (upd H l (.lst ys))) ta) s H (.list xs) := fun H1 k _ q => h H1 k _ fun vs H2 k2 dv => by
  obtain ⟨v, d', rfl, e, hd2⟩ := dps1 dv rfl
  cases e
  rcases hd with rfl | rfl
  · obtain ⟨a, us, rfl, e1, r1⟩ := dp_lst hd2
    exact ⟨a, us, rfl, .inl e1, fun p hp => q _ _ (k2.trans (Same.new hp)) (.lst (SqL.of upd_same) (dps_same (Same.new hp) r1))⟩
  · obtain ⟨a, us, rfl, e1, r1⟩ := dp_tup hd2
    exact ⟨a, us, rfl, .inr e1, fun p hp => q _ _ (k2.trans (Same.new hp)) (.lst (SqL.of upd_same) (dps_same (Same.new hp) r1))⟩
theorem dps_bools {H : Hp} : ∀ {vs : List V} {bs : List Bool}, DpAll K H vs (bs.map .bool) → vs = bs.map V.bl
  | _, [], h => by cases h; rfl
  | _, b :: bs, h => by
    cases h with
    | cons h1 r => rw [dp_bool h1, dps_bools r]; rfl
theorem rc_all {bs : List Bool} : RC K (rAll K) H [.list (bs.map .bool)] (.bool (bs.all id)) := fun H1 xs _ dx Q q => by
  obtain ⟨v, d', rfl, e, hd⟩ := dps1 dx rfl
  cases e
  obtain ⟨a, us, rfl, e1, r1⟩ := dp_lst hd
  have e2 := dps_bools r1
  subst e2
  exact ⟨a, bs, rfl, e1, q _ H1 (Same.refl _) (.bl _)⟩
theorem rc_sum {ns : List Int} : RC K (rSum K) H [.list (ns.map .int)] (.int ns.sum) := fun H1 xs _ dx Q q => by
  obtain ⟨v, d', rfl, e, hd⟩ := dps1 dx rfl
  cases e
  obtain ⟨a, us, rfl, e1, r1⟩ := dp_lst hd
  have e2 := dps_ints r1
  subst e2
  exact ⟨a, ns, rfl, e1, q _ H1 (Same.refl _) (.int _)⟩
def min2I (i j : Int) : Int := if j < i then j else i
theorem rc_min2 {i j : Int} : RC K (fun xs H Q => ∃ i j, xs = [V.int i, .int j] ∧ Q (.int (if j < i then j else i)) H) H [.int i, .int j] (.int (min2I i j)) := fun H1 xs _ dx Q q => by
  obtain ⟨v, d, v2, d2, rfl, e, hd, hd2⟩ := dps2 dx rfl
  cases e
  exact ⟨i, j, by rw [dp_int hd, dp_int hd2], q _ H1 (Same.refl _) (.int _)⟩
theorem rc_min3 {i j k : Int} : RC K (rNuC3 nuMin3) H [.int i, .int j, .int k] (.int (min2I (min2I i j) k)) := fun H1 xs _ dx Q q => by
  obtain ⟨v, d, v2, d2, v3, d3, rfl, e, hd, hd2, hd3⟩ := dps3 dx rfl
  cases e
  refine ⟨v, v2, v3, .int (min2I (min2I i j) k), rfl, ?_, q _ H1 (Same.refl _) (.int _)⟩
  rw [dp_int hd, dp_int hd2, dp_int hd3]
  have h2 : ∀ a b : Int, nuMin2 (.int a) (.int b) = some (.int (min2I a b)) := fun a b => by
    show some (if decide (b < a) = true then V.int b else V.int a) = some (.int (if b < a then b else a))
    by_cases h : b < a
    · rw [if_pos (decide_eq_true h), if_pos h]
    · rw [if_neg (by simpa using h), if_neg h]
  show (nuMin2 (.int i) (.int j)).bind (fun m => nuMin2 m (.int k)) = _
  rw [h2]
  exact h2 _ _
def joinD (a : Str) (ys : List Str) : Str := Txt.join a ys
theorem dps_strs {H : Hp} : ∀ {vs : List V} {ns : List Str}, DpAll K H vs (ns.map .str) → vs = ns.map V.str
  | _, [], h => by cases h; rfl
  | _, n :: ns, h => by
    cases h with
    | cons h1 r => rw [dp_str h1, dps_strs r]; rfl
theorem ev_join {a : Str} {ys : List Str} (h : Ev K ta s H (.str a)) (h2 : Ev K tb s H d) (hd : d = .list (ys.map .str) ∨ d = .tuple (ys.map .str)) (hl : (ys.map (·.length)).sum + ys.length * a.length ≤ 16777216) :
    Ev K (tM1 (fun x xs H Q => ∃ a p, ∃ ys : List Str, x = .str a ∧ xs = [.ref p] ∧ (SqL K H p (ys.map V.str) ∨ SqT K H p (ys.map V.str)) ∧ (ys.map (·.length)).sum + ys.length * a.length ≤ 16777216 ∧ Q (.str (Txt.join a ys)) H) ta tb) s H (.str (Txt.join a ys)) := fun H1 k Q q =>
  h H1 k _ fun v H2 k2 dv => ⟨⟨a, dp_str dv⟩, h2 H2 (k.s k2) _ fun w H3 k3 dw => by
    rcases hd with rfl | rfl
    · obtain ⟨p, us, rfl, e1, r1⟩ := dp_lst dw
      have e2 := dps_strs r1
      subst e2
      exact ⟨a, p, ys, dp_str dv, rfl, .inl e1, hl, q _ H3 (k2.trans k3) (.str _)⟩
    · obtain ⟨p, us, rfl, e1, r1⟩ := dp_tup dw
      have e2 := dps_strs r1
      subst e2
      exact ⟨a, p, ys, dp_str dv, rfl, .inr e1, hl, q _ H3 (k2.trans k3) (.str _)⟩⟩
end

/-! ### no list within -/
mutual
def noL : D → Bool
  | .list _ => false | .dict _ => false | .tuple xs => noLs xs | _ => true
def noLs : List D → Bool
  | [] => true | x :: xs => noL x && noLs xs
end
mutual
theorem dp_mutL {K : PySem.W.Frag} {H : Hp} {p : Addr} {xs : List V} {o : HO} (hp : H p = some (.lst xs)) : ∀ {d : D} {v : V}, noL d = true → Dp K H v d → Dp K (upd H p o) v d
  | _, _, _, .non => .non
  | _, _, _, .bl b => .bl b
  | _, _, _, .int i => .int i
  | _, _, _, .str x => .str x
  | _, _, h, .lst _ _ => by simp [noL] at h
  | _, _, h, .tup e r => by
    refine .tup ?_ (dps_mutL hp (by simpa [noL] using h) r)
    rcases e with (e | ⟨ob, e⟩) | e
    · exact .inl (.inl (by rw [upd_ne (fun z => by rw [z, hp] at e; cases e)]; exact e))
    · exact .inl (.inr ⟨ob, by rw [upd_ne (fun z => by rw [z, hp] at e; cases e)]; exact e⟩)
    · exact .inr e
theorem dps_mutL {K : PySem.W.Frag} {H : Hp} {p : Addr} {xs : List V} {o : HO} (hp : H p = some (.lst xs)) : ∀ {ds : List D} {vs : List V}, noLs ds = true → DpAll K H vs ds → DpAll K (upd H p o) vs ds
  | _, _, _, .nil => .nil
  | _, _, h, .cons e r => by
    have h' := Bool.and_eq_true_iff.mp (show (noL _ && noLs _) = true from h)
    exact .cons (dp_mutL hp h'.1 e) (dps_mutL hp h'.2 r)
end
theorem noLs_all : ∀ {ds : List D}, (∀ d ∈ ds, noL d = true) → noLs ds = true
  | [], _ => rfl
  | d :: ds, h => by
    show (noL d && noLs ds) = true
    rw [h d List.mem_cons_self, noLs_all fun e he => h e (List.mem_cons_of_mem _ he)]
    rfl
theorem noLs_mem : ∀ {ds : List D}, noLs ds = true → ∀ d ∈ ds, noL d = true
  | [], _, _, h => absurd h List.not_mem_nil
  | d :: ds, h, e, he => by
    have h' := Bool.and_eq_true_iff.mp (show (noL d && noLs ds) = true from h)
    rcases List.mem_cons.mp he with rfl | he
    · exact h'.1
    · exact noLs_mem h'.2 _ he
/-- no address -/
def atomD : D → Bool
  | .none => true | .bool _ => true | .int _ => true | .str _ => true | _ => false
theorem dp_atom {K : PySem.W.Frag} {H H' : Hp} {v : V} {d : D} (h : atomD d = true) (r : Dp K H v d) : Dp K H' v d := by
  cases r with
  | non => exact .non
  | bl b => exact .bl b
  | int i => exact .int i
  | str x => exact .str x
  | lst _ _ => cases h
  | tup _ _ => cases h
theorem dps_atom {K : PySem.W.Frag} {H H' : Hp} : ∀ {vs : List V} {ds : List D}, (∀ d ∈ ds, atomD d = true) → DpAll K H vs ds → DpAll K H' vs ds
  | _, _, _, .nil => .nil
  | _, _, h, .cons e r => .cons (dp_atom (h _ List.mem_cons_self) e) (dps_atom (fun d hd => h d (List.mem_cons_of_mem _ hd)) r)

/-! ### what is walked -/
section
variable {K : PySem.W.Frag} {s : L2.St} {H H' : Hp} {te : TE} {d : D}
/-- the walk, of a thing that reads as d, gives the data ds, one by one -/
def Yd (K : PySem.W.Frag) (wi : TI) (s : L2.St) (H : Hp) (d : D) (ds : List D) : Prop := ∀ H1, Pr K H H1 → ∀ R : It → Hp → Prop,
  (∀ J H2 v, Same H1 H2 → Dp K H2 v d → Walk J ds.length (fun H3 => Dp K H3 v d) (fun i Ha v Hb => Same Ha Hb ∧ ∃ d, ds[i]? = some d ∧ Dp K Hb v d) → R J H2) → wi s H1 R
def itemsD : D → Option (List D)
  | .list ds => some ds | .tuple ds => some ds | .str z => some (z.cps.toList.map fun c => .str ⟨#[c]⟩) | _ => none
theorem yd_any {ds : List D} (h : Ev K te s H d) (hd : itemsD d = some ds) : Yd K (iAny K te) s H d ds := fun H1 k R q => h H1 k _ fun v H2 k2 dv => by
  cases d with
  | list es =>
    cases hd
    obtain ⟨a, us, rfl, e1, r1⟩ := dp_lst dv
    refine .inl ⟨a, rfl, ⟨us, e1⟩, q _ H2 (.ref a) k2 dv ?_⟩
    refine ⟨fun i H3 hi g => ?_, fun H3 g => ?_, fun i H3 x H4 hi g y => ?_⟩
    · obtain ⟨b, xs, eb, g1, g2⟩ := dp_lst g
      cases eb
      have hn := dps_len g2
      exact (walk_list (K := K)).goes i H3 (by omega) g1
    · obtain ⟨b, xs, eb, g1, g2⟩ := dp_lst g
      cases eb
      have hn := dps_len g2
      exact hn ▸ (walk_list (K := K)).stops H3 g1
    · obtain ⟨b, xs, eb, g1, g2⟩ := dp_lst g
      cases eb
      have hn := dps_len g2
      obtain ⟨e, ex⟩ := (walk_list (K := K)).yields i H3 x H4 (by omega) g1 y
      subst e
      obtain ⟨d', h1, h2⟩ := dps_getv g2 ex
      exact ⟨Same.refl _, d', h1, h2⟩
  | tuple es =>
    cases hd
    obtain ⟨a, us, rfl, e1, r1⟩ := dp_tup dv
    refine .inr (.inl ⟨a, rfl, ⟨us, e1⟩, q _ H2 (.ref a) k2 dv ?_⟩)
    refine ⟨fun i H3 hi g => ?_, fun H3 g => ?_, fun i H3 x H4 hi g y => ?_⟩
    · obtain ⟨b, xs, eb, g1, g2⟩ := dp_tup g
      cases eb
      have hn := dps_len g2
      exact (walk_tup (K := K)).goes i H3 (by omega) g1
    · obtain ⟨b, xs, eb, g1, g2⟩ := dp_tup g
      cases eb
      have hn := dps_len g2
      exact hn ▸ (walk_tup (K := K)).stops H3 g1
    · obtain ⟨b, xs, eb, g1, g2⟩ := dp_tup g
      cases eb
      have hn := dps_len g2
      obtain ⟨e, ex⟩ := (walk_tup (K := K)).yields i H3 x H4 (by omega) g1 y
      subst e
      obtain ⟨d', h1, h2⟩ := dps_getv g2 ex
      exact ⟨Same.refl _, d', h1, h2⟩
  | str z =>
    cases hd
    have ev := dp_str dv
    subst ev
    refine .inr (.inr ⟨z, rfl, q _ H2 (.str z) k2 dv ?_⟩)
    have hn : (z.cps.toList.map fun c => (PyData.str ⟨#[c]⟩ : D)).length = z.cps.size := by simp
    refine ⟨fun i H3 hi g => walk_str.goes i H3 (by omega) trivial, fun H3 g => hn ▸ walk_str.stops H3 trivial, fun i H3 x H4 hi g y => ?_⟩
    obtain ⟨e, c, ec, ex⟩ := walk_str.yields i H3 x H4 (by omega) trivial y
    subst e ex
    refine ⟨Same.refl _, .str ⟨#[c]⟩, ?_, .str _⟩
    rw [List.getElem?_map]
    have e2 : z.cps.toList[i]? = some c := by simpa using ec
    rw [e2]
    rfl
  | _ => cases hd
/-- each with its place -/
def enumD (ds : List D) : List D := ds.mapIdx fun i d => .tuple [.int (i : Nat), d]
theorem enumD_len (ds : List D) : (enumD ds).length = ds.length := by simp [enumD]
theorem enumD_get {ds : List D} {i : Nat} {d : D} (h : ds[i]? = some d) : (enumD ds)[i]? = some (.tuple [.int (i : Nat), d]) := by
  unfold enumD
  rw [List.getElem?_mapIdx, h]
  rfl
theorem enumD_of {ds : List D} {i : Nat} {e : D} (h : (enumD ds)[i]? = some e) : ∃ d, ds[i]? = some d ∧ e = .tuple [.int (i : Nat), d] := by
  unfold enumD at h
  rw [List.getElem?_mapIdx] at h
  cases q : ds[i]? with
  | none => rw [q] at h; cases h
  | some d => rw [q] at h; cases h; exact ⟨d, rfl, rfl⟩
theorem yd_enum {ta : TA} {ds : List D} (h : Av K ta s H [d]) (hd : d = .list ds ∨ d = .tuple ds) : Yd K (iEnumU K ta) s H d (enumD ds) := fun H1 k R q => h H1 k _ fun vs H2 k2 dv => by
  obtain ⟨v, d', rfl, e, hv⟩ := dps1 dv rfl
  cases e
  have fin : ∀ {Hc Hd : Hp} {us : List V} {i : Nat} {x : V}, DpAll K Hc us ds → YPair (fun i => some (.int (i : Nat))) (fun i => us[i]?) i Hc x Hd → Same Hc Hd ∧ ∃ e, (enumD ds)[i]? = some e ∧ Dp K Hd x e := by
    intro Hc Hd us i x r y
    obtain ⟨T, a, b, rfl, hT, rfl, ha, hb⟩ := y
    cases ha
    obtain ⟨d', h1, h2⟩ := dps_getv r hb
    exact ⟨Same.new hT, _, enumD_get h1, .tup (SqT.of upd_same) (.cons (.int _) (.cons (dp_same (Same.new hT) h2) .nil))⟩
  have hm := enumD_len ds
  rcases hd with rfl | rfl
  · obtain ⟨a, us, rfl, e1, r1⟩ := dp_lst hv
    refine .inl ⟨a, us, rfl, e1, q _ H2 (.ref a) k2 hv ?_⟩
    refine ⟨fun i H3 hi g => ?_, fun H3 g => ?_, fun i H3 x H4 hi g y => ?_⟩
    · obtain ⟨b, xs, eb, g1, g2⟩ := dp_lst g
      cases eb
      have hn := dps_len g2
      exact (walk_enum (K := K)).goes i H3 (by omega) g1
    · obtain ⟨b, xs, eb, g1, g2⟩ := dp_lst g
      cases eb
      have hn := dps_len g2
      rw [hm, ← hn]
      exact (walk_enum (K := K)).stops H3 g1
    · obtain ⟨b, xs, eb, g1, g2⟩ := dp_lst g
      cases eb
      have hn := dps_len g2
      exact fin g2 ((walk_enum (K := K)).yields i H3 x H4 (by omega) g1 y)
  · obtain ⟨a, us, rfl, e1, r1⟩ := dp_tup hv
    refine .inr ⟨a, us, rfl, e1, q _ H2 (.ref a) k2 hv ?_⟩
    refine ⟨fun i H3 hi g => ?_, fun H3 g => ?_, fun i H3 x H4 hi g y => ?_⟩
    · obtain ⟨b, xs, eb, g1, g2⟩ := dp_tup g
      cases eb
      have hn := dps_len g2
      exact (walk_enumT (K := K)).goes i H3 (by omega) g1
    · obtain ⟨b, xs, eb, g1, g2⟩ := dp_tup g
      cases eb
      have hn := dps_len g2
      rw [hm, ← hn]
      exact (walk_enumT (K := K)).stops H3 g1
    · obtain ⟨b, xs, eb, g1, g2⟩ := dp_tup g
      cases eb
      have hn := dps_len g2
      exact fin g2 ((walk_enumT (K := K)).yields i H3 x H4 (by omega) g1 y)
def rangeD (n : Nat) : List D := (List.range n).map fun i => .int (i : Nat)
theorem rangeD_len (n : Nat) : (rangeD n).length = n := by simp [rangeD]
theorem rangeD_of {n i : Nat} {e : D} (h : (rangeD n)[i]? = some e) : i < n ∧ e = .int (i : Nat) := by
  unfold rangeD at h
  rw [List.getElem?_map] at h
  by_cases hi : i < n
  · rw [List.getElem?_range hi] at h
    cases h
    exact ⟨hi, rfl⟩
  · rw [List.getElem?_eq_none (by simpa using hi)] at h
    cases h
theorem yd_range {ta : TA} {j : Int} (h : Av K ta s H [.int j]) (h1 : -(2 ^ 62) ≤ j ∧ j < 2 ^ 62) : Yd K (iRng1 ta) s H .none (rangeD j.toNat) := fun H1 k R q => h H1 k _ fun vs H2 k2 dv => by
  obtain ⟨v, d', rfl, e, hv⟩ := dps1 dv rfl
  cases e
  refine ⟨j, by rw [dp_int hv], h1.1, h1.2, q _ H2 .non k2 .non ?_⟩
  have hm := rangeD_len j.toNat
  refine ⟨fun i H3 hi g => walk_range.goes i H3 (by omega) trivial, fun H3 g => by rw [hm]; exact walk_range.stops H3 trivial, fun i H3 x H4 hi g y => ?_⟩
  obtain ⟨e, ex⟩ := walk_range.yields i H3 x H4 (by omega) trivial y
  subst e ex
  refine ⟨Same.refl _, .int (0 + (i : Nat)), ?_, .int _⟩
  unfold rangeD
  rw [List.getElem?_map, List.getElem?_range (by omega)]
  simp
/-- a for over data -/
theorem s_for {wi : TI} {g : TG} {tb : TS} {De : Ends} {ds : List D} (hy : Yd K wi s H d ds)
    (h : ∀ H2 w, Same H H2 → Dp K H2 w d → ∃ Pv : Nat → L2.St → Hp → Prop, (∀ i σ Ha Hb, Same Ha Hb → Pv i σ Ha → Pv i σ Hb) ∧ (∀ i σ Ha, Pv i σ Ha → Dp K Ha w d) ∧ Pv 0 s H2 ∧
      (∀ i e v σ H1, ds[i]? = some e → Pv i σ H1 → Dp K H1 v e → g v σ H1 fun σ2 H2 => tb { De with nx := Pv (i + 1), ct := Pv (i + 1), bk := De.nx } σ2 H2) ∧ (∀ σ H1, Pv ds.length σ H1 → De.nx σ H1)) : tFor wi g tb De s H :=
  hy H (Pr.refl H) _ fun J H2 v k2 dv w => by
    obtain ⟨Pv, hm, hp, h0, hs, hd⟩ := h H2 v k2 dv
    exact for_it w Pv h0 (fun i σ H3 _ q => hp i σ H3 q) (fun i x σ Ha Hb hi q y => by
      obtain ⟨e, d, h1, h2⟩ := y
      exact hs i d x σ Hb h1 (hm i σ Ha Hb e q) h2) hd
theorem take_step {α : Type} {xs : List α} {i : Nat} {x : α} (h : xs[i]? = some x) : xs.take (i + 1) = xs.take i ++ [x] := by
  rw [List.take_succ, h]
  rfl
/-- a comprehension over data, nothing within is a list -/
theorem ev_lc {wi : TI} {g : TG} {tt : TT} {el : TE} {vs : List Nat} {ds : List D} (hy : Yd K wi s H d ds) (p : D → Bool) (f : D → D)
    (hb : ∀ e ∈ ds, ∀ v H1, Pr K H H1 → Dp K H1 v e → ∀ R : L2.St → Hp → Prop, (∀ σ2, wipe σ2 vs = wipe s vs → Tv K tt σ2 H1 (p e) → (p e = true → Ev K el σ2 H1 (f e) ∧ noL (f e) = true) → R σ2 H1) → g v (wipe s vs) H1 R) (hl : ds.length ≤ 100000) :
    Ev K (tLc wi g tt el vs) s H (.list ((ds.filter p).map f)) := fun H1 k Q q => hy H1 k _ fun J H2 vd k2 dvd w => fun D hD => by
  have hz : (100000 : Nat) < sizeLine := by decide
  refine lc_it w (fun i H3 => ∃ acc, H3 D = some (.lst acc) ∧ acc.length ≤ i ∧ Same H2 H3 ∧ DpAll K H3 acc (((ds.take i).filter p).map f) ∧ noLs (((ds.take i).filter p).map f) = true)
    ⟨[], upd_same, Nat.le_refl _, Same.new hD, .nil, rfl⟩ (fun i H3 _ q3 => dp_same q3.choose_spec.2.2.1 dvd) (fun i x Ha Hb hi q3 y => ?_) fun H3 q3 => ?_
  · obtain ⟨acc, e1, e2, e3, e4, e5⟩ := q3
    obtain ⟨sm, d, h1, h2⟩ := y
    refine hb d (List.mem_of_getElem? h1) x Hb (k.trans (.of (k2.trans (e3.trans sm)))) h2 _ fun σ2 w2 t2 el2 => ⟨w2, t2 Hb (Pr.refl _) _ fun H3 k3 => ?_⟩
    have ts := take_step h1
    cases hp : p d with
    | false =>
      rw [if_neg (by decide)]
      refine ⟨acc, k3 _ _ (sm _ _ e1), Nat.le_succ_of_le e2, e3.trans (sm.trans k3), ?_, ?_⟩
      · rw [ts, List.filter_append, List.filter_cons_of_neg (by simp [hp]), List.filter_nil, List.append_nil]
        exact dps_same (sm.trans k3) e4
      · rw [ts, List.filter_append, List.filter_cons_of_neg (by simp [hp]), List.filter_nil, List.append_nil]
        exact e5
    | true =>
      rw [if_pos rfl]
      refine (el2 hp).1 H3 (.of k3) _ fun v H4 k4 dv => ?_
      have e6 : H4 D = some (.lst acc) := k4 _ _ (k3 _ _ (sm _ _ e1))
      have e7 : noLs (((ds.take (i + 1)).filter p).map f) = true := by
        rw [ts, List.filter_append, List.filter_cons_of_pos hp, List.filter_nil, List.map_append]
        refine noLs_all fun z hz => ?_
        rcases List.mem_append.mp hz with hz | hz
        · exact noLs_mem e5 z hz
        · rw [List.mem_singleton.mp hz]
          exact (el2 hp).2
      refine ⟨acc, e6, by omega, acc ++ [v], upd_same, ?_, ?_, ?_, e7⟩
      · rw [List.length_append, List.length_singleton]; omega
      · exact Same.mut (e3.trans (sm.trans (k3.trans k4))) hD
      · refine dps_mutL e6 e7 ?_
        rw [ts, List.filter_append, List.filter_cons_of_pos hp, List.filter_nil, List.map_append]
        exact dps_app (dps_same (sm.trans (k3.trans k4)) e4) (.cons dv .nil)
  · obtain ⟨acc, e1, e2, e3, e4, e5⟩ := q3
    rw [List.take_length] at e4
    exact q _ H3 (k2.trans e3) (.lst (SqL.of e1) e4)
/-- new lists of atoms -/
def NewL (K : PySem.W.Frag) (H : Hp) (D : Addr) : List V → List (List PyData) → Prop
  | [], [] => True
  | v :: vs, es :: ess => (∃ p xs, v = .ref p ∧ p ≠ D ∧ H p = some (.lst xs) ∧ DpAll K H xs es ∧ ∀ e ∈ es, atomD e = true) ∧ NewL K H D vs ess
  | _, _ => False
theorem NewL.same {K : PySem.W.Frag} {H H' : Hp} {D : Addr} (k : ∀ b u, b ≠ D → H b = some u → H' b = some u) : ∀ {vs : List V} {ess : List (List PyData)}, NewL K H D vs ess → NewL K H' D vs ess
  | [], [], _ => trivial
  | v :: vs, es :: ess, h => by
    obtain ⟨⟨p, xs, h1, h2, h3, h4, h5⟩, h6⟩ := h
    exact ⟨⟨p, xs, h1, h2, k _ _ h2 h3, dps_atom h5 h4, h5⟩, NewL.same k h6⟩
theorem NewL.app {K : PySem.W.Frag} {H : Hp} {D : Addr} {v : V} {es : List PyData} (q : ∃ p xs, v = .ref p ∧ p ≠ D ∧ H p = some (.lst xs) ∧ DpAll K H xs es ∧ ∀ e ∈ es, atomD e = true) : ∀ {vs : List V} {ess : List (List PyData)}, NewL K H D vs ess → NewL K H D (vs ++ [v]) (ess ++ [es])
  | [], [], _ => ⟨q, trivial⟩
  | _ :: _, _ :: _, h => ⟨h.1, NewL.app q h.2⟩
theorem NewL.dps {K : PySem.W.Frag} {H : Hp} {D : Addr} : ∀ {vs : List V} {ess : List (List PyData)}, NewL K H D vs ess → DpAll K H vs (ess.map .list)
  | [], [], _ => .nil
  | v :: vs, es :: ess, h => by
    obtain ⟨⟨p, xs, rfl, h2, h3, h4, h5⟩, h6⟩ := h
    exact .cons (.lst (SqL.of h3) h4) (NewL.dps h6)
/-- it comes to a new list of atoms -/
def EvL (K : PySem.W.Frag) (te : TE) (s : L2.St) (H : Hp) (es : List D) : Prop := (∀ e ∈ es, atomD e = true) ∧ ∀ H1, Pr K H H1 → ∀ Q : VK, (∀ p xs H2, Same H1 H2 → H1 p = none → H2 p = some (.lst xs) → DpAll K H2 xs es → Q (.ref p) H2) → te s H1 Q
theorem evl_lst {ta : TA} {es : List D} (h : Av K ta s H es) (ha : ∀ e ∈ es, atomD e = true) (hl : es.length ≤ 100000) : EvL K (tLst ta) s H es := ⟨ha, fun H1 k _ q =>
  h H1 k _ fun vs H2 k2 dvs => ⟨by rw [dps_len dvs]; exact Nat.le_trans hl (by decide), fun p hp => q p vs _ (k2.trans (Same.new hp)) (by
    cases e : H1 p with
    | none => rfl
    | some u => rw [k2 _ _ e] at hp; cases hp) upd_same (dps_same (Same.new hp) dvs)⟩⟩
theorem evl_listOf {ta : TA} {xs : List D} (h : Av K ta s H [d]) (hd : d = .list xs ∨ d = .tuple xs) (ha : ∀ e ∈ xs, atomD e = true) : EvL K (tCB (fun xs H Q => ∃ p ys, xs = [.ref p] ∧ (SqL K H p ys ∨ SqT K H p ys) ∧ ∀ l, H l = none → Q (.ref l) (upd H l (.lst ys))) ta) s H xs := ⟨ha, fun H1 k _ q => h H1 k _ fun vs H2 k2 dv => by
  have no : ∀ p, H2 p = none → H1 p = none := fun p hp => by
    cases e : H1 p with
    | none => rfl
    | some u => rw [k2 _ _ e] at hp; cases hp
  obtain ⟨v, d', rfl, e, hd2⟩ := dps1 dv rfl
  cases e
  rcases hd with rfl | rfl
  · obtain ⟨a, us, rfl, e1, r1⟩ := dp_lst hd2
    exact ⟨a, us, rfl, .inl e1, fun p hp => q p us _ (k2.trans (Same.new hp)) (no p hp) upd_same (dps_same (Same.new hp) r1)⟩
  · obtain ⟨a, us, rfl, e1, r1⟩ := dp_tup hd2
    exact ⟨a, us, rfl, .inr e1, fun p hp => q p us _ (k2.trans (Same.new hp)) (no p hp) upd_same (dps_same (Same.new hp) r1)⟩⟩
theorem ev_lcL {wi : TI} {g : TG} {tt : TT} {el : TE} {vs : List Nat} {ds : List D} (hy : Yd K wi s H d ds) (p : D → Bool) (f : D → List D)
    (hb : ∀ e ∈ ds, ∀ v H1, Pr K H H1 → Dp K H1 v e → ∀ R : L2.St → Hp → Prop, (∀ σ2, wipe σ2 vs = wipe s vs → Tv K tt σ2 H1 (p e) → (p e = true → EvL K el σ2 H1 (f e)) → R σ2 H1) → g v (wipe s vs) H1 R) (hl : ds.length ≤ 100000) :
    Ev K (tLc wi g tt el vs) s H (.list (((ds.filter p).map f).map .list)) := fun H1 k Q q => hy H1 k _ fun J H2 vd k2 dvd w => fun D hD => by
  have hz : (100000 : Nat) < sizeLine := by decide
  refine lc_it w (fun i H3 => ∃ acc, H3 D = some (.lst acc) ∧ acc.length ≤ i ∧ Same H2 H3 ∧ NewL K H3 D acc ((ds.take i).filter p |>.map f))
    ⟨[], upd_same, Nat.le_refl _, Same.new hD, trivial⟩ (fun i H3 _ q3 => dp_same q3.choose_spec.2.2.1 dvd) (fun i x Ha Hb hi q3 y => ?_) fun H3 q3 => ?_
  · obtain ⟨acc, e1, e2, e3, e4⟩ := q3
    obtain ⟨sm, d, h1, h2⟩ := y
    refine hb d (List.mem_of_getElem? h1) x Hb (k.trans (.of (k2.trans (e3.trans sm)))) h2 _ fun σ2 w2 t2 el2 => ⟨w2, t2 Hb (Pr.refl _) _ fun H3 k3 => ?_⟩
    have ts := take_step h1
    cases hp : p d with
    | false =>
      rw [if_neg (by decide)]
      refine ⟨acc, k3 _ _ (sm _ _ e1), Nat.le_succ_of_le e2, e3.trans (sm.trans k3), ?_⟩
      rw [ts, List.filter_append, List.filter_cons_of_neg (by simp [hp]), List.filter_nil, List.append_nil]
      exact e4.same fun b u _ e => k3 _ _ (sm _ _ e)
    | true =>
      rw [if_pos rfl]
      refine (el2 hp).2 H3 (.of k3) _ fun l xs H4 k4 hl0 hl1 dv => ?_
      have e6 : H4 D = some (.lst acc) := k4 _ _ (k3 _ _ (sm _ _ e1))
      have hne : l ≠ D := fun z => by rw [z, k3 _ _ (sm _ _ e1)] at hl0; cases hl0
      refine ⟨acc, e6, by omega, acc ++ [.ref l], upd_same, ?_, Same.mut (e3.trans (sm.trans (k3.trans k4))) hD, ?_⟩
      · rw [List.length_append, List.length_singleton]; omega
      · rw [ts, List.filter_append, List.filter_cons_of_pos hp, List.filter_nil, List.map_append]
        refine NewL.app (vs := acc) ⟨l, xs, rfl, hne, by rw [upd_ne hne]; exact hl1, dps_atom (el2 hp).1 dv, (el2 hp).1⟩ (e4.same fun b u n e => ?_)
        rw [upd_ne n]
        exact k4 _ _ (k3 _ _ (sm _ _ e))
  · obtain ⟨acc, e1, e2, e3, e4⟩ := q3
    rw [List.take_length] at e4
    exact q _ H3 (k2.trans e3) (.lst (SqL.of e1) e4.dps)
/-! targets -/
theorem wipe1 {σ : L2.St} {i : Nat} {x : Option V} : wipe ((wipe σ [i]).set i x) [i] = wipe σ [i] := by
  show ((σ.set i none).set i x).set i none = σ.set i none
  rw [List.set_set, List.set_set]
theorem wipe2 {σ : L2.St} {i j : Nat} {x y : Option V} (h : i ≠ j) : wipe (((wipe σ [i, j]).set i x).set j y) [i, j] = wipe σ [i, j] := by
  show (((((σ.set j none).set i none).set i x).set j y).set j none).set i none = (σ.set j none).set i none
  rw [List.set_set, List.set_set, List.set_comm _ _ h, List.set_set, List.set_set]
theorem g_pair {i j : Nat} {v : V} {d e : D} {Q : L2.St → Hp → Prop} (h : Dp K H v (.tuple [d, e])) (k : ∀ v1 v2, Dp K H v1 d → Dp K H v2 e → Q ((s.set i (some v1)).set j (some v2)) H) : gTup K 2 (gCons (gName i) (gCons (gName j) gNil)) v s H Q := by
  obtain ⟨a, xs, rfl, h1, h2⟩ := dp_tup h
  obtain ⟨v1, d1, v2, d2, rfl, e, hd1, hd2⟩ := dps2 h2 rfl
  cases e
  exact ⟨a, _, rfl, h1, rfl, v1, _, rfl, v2, _, rfl, rfl, k v1 v2 hd1 hd2⟩
theorem g_triple {i j l : Nat} {v : V} {d e f : D} {Q : L2.St → Hp → Prop} (h : Dp K H v (.tuple [d, e, f])) (k : ∀ v1 v2 v3, Dp K H v1 d → Dp K H v2 e → Dp K H v3 f → Q (((s.set i (some v1)).set j (some v2)).set l (some v3)) H) : gTup K 3 (gCons (gName i) (gCons (gName j) (gCons (gName l) gNil))) v s H Q := by
  obtain ⟨a, xs, rfl, h1, h2⟩ := dp_tup h
  obtain ⟨v1, d1, v2, d2, v3, d3, rfl, e, hd1, hd2, hd3⟩ := dps3 h2 rfl
  cases e
  exact ⟨a, _, rfl, h1, rfl, v1, _, rfl, v2, _, rfl, v3, _, rfl, rfl, k v1 v2 v3 hd1 hd2 hd3⟩
/-! statements -/
variable {De : Ends}
theorem none_of {H H1 : Hp} {p : Addr} (k : Same H H1) (h : H1 p = none) : H p = none := by
  cases e : H p with
  | none => rfl
  | some u => rw [k _ _ e] at h; cases h
theorem evl_new {ta : TA} {es : List D} (h : Av K ta s H es) (hl : es.length ≤ 100000) : ∀ Q : VK, (∀ p xs H2, Same H H2 → H p = none → H2 p = some (.lst xs) → DpAll K H2 xs es → Q (.ref p) H2) → tLst ta s H Q := fun _ q =>
  h H (Pr.refl H) _ fun vs H2 k2 dvs => ⟨by rw [dps_len dvs]; exact Nat.le_trans hl (by decide), fun p hp => q p vs _ (k2.trans (Same.new hp)) (none_of k2 hp) upd_same (dps_same (Same.new hp) dvs)⟩
theorem s_par {i j : Nat} {ta : TA} {d e : D} (h : Av K ta s H [d, e]) (k : ∀ v w H1, Same H H1 → Dp K H1 v d → Dp K H1 w e → De.nx ((s.set i (some v)).set j (some w)) H1) : tPar i j ta De s H := h H (Pr.refl H) _ fun vs H1 k1 dvs => by
  obtain ⟨v, d1, w, d2, rfl, e, hd1, hd2⟩ := dps2 dvs rfl
  cases e
  exact ⟨v, w, rfl, k v w H1 k1 hd1 hd2⟩
theorem s_par3 {i j l : Nat} {ta : TA} {d e f : D} (h : Av K ta s H [d, e, f]) (k : ∀ v w u H1, Same H H1 → Dp K H1 v d → Dp K H1 w e → Dp K H1 u f → De.nx (((s.set i (some v)).set j (some w)).set l (some u)) H1) : tPar3 i j l ta De s H := h H (Pr.refl H) _ fun vs H1 k1 dvs => by
  obtain ⟨v, d1, w, d2, u, d3, rfl, e, hd1, hd2, hd3⟩ := dps3 dvs rfl
  cases e
  exact ⟨v, w, u, rfl, k v w u H1 k1 hd1 hd2 hd3⟩
theorem s_append {i : Nat} {l : Addr} {xs : List V} (h0 : s[i]? = some (some (.ref l))) (hl : H l = some (.lst xs)) (hx : xs.length < 100000) (h : Ev K te s H d) (k : ∀ v H1, Same H H1 → Dp K H1 v d → De.nx s (upd H1 l (.lst (xs ++ [v])))) :
    tDrop (tBM K "list" rAppend (tVar i) (tCons te tNil)) De s H := ⟨.ref l, h0, .inl ⟨rfl, xs, SqL.of hl⟩, h H (Pr.refl H) _ fun v H1 k1 dv => ⟨l, xs, v, rfl, rfl, k1 _ _ hl, Nat.lt_trans hx (by decide), k v H1 k1 dv⟩⟩
/-- a new list, to be written -/
theorem s_new {i : Nat} {ta : TA} {ds : List D} (h : Av K ta s H ds) (hl : ds.length ≤ 100000) (k : ∀ l vs H1, H l = none → Same H H1 → H1 l = some (.lst vs) → DpAll K H1 vs ds → De.nx (s.set i (some (.ref l))) H1) : tAsg (tLst ta) (gName i) De s H :=
  (evl_new h hl) _ fun l vs H1 k1 e1 e2 r => k l vs H1 e1 k1 e2 r
theorem s_parN {i j : Nat} {ta : TA} {ds : List D} {c : D} (h1 : Ev K te s H c) (h : Av K ta s H ds) (hl : ds.length ≤ 100000) (k : ∀ v l vs H1, H l = none → Same H H1 → Dp K H1 v c → H1 l = some (.lst vs) → DpAll K H1 vs ds → De.nx ((s.set i (some v)).set j (some (.ref l))) H1) : tPar i j (tCons te (tCons (tLst ta) tNil)) De s H :=
  h1 H (Pr.refl H) _ fun v H1 k1 dv => (evl_new (h.up (.of k1)) hl) _ fun l vs H2 k2 e1 e2 r => ⟨v, .ref l, rfl, k v l vs H2 (none_of k1 e1) (k1.trans k2) (dp_same k2 dv) e2 r⟩
theorem s_par3N {i j l : Nat} {tb : TE} {ta : TA} {ds : List D} {c e : D} (h1 : Ev K te s H c) (h2 : Ev K tb s H e) (h : Av K ta s H ds) (hl : ds.length ≤ 100000) (k : ∀ v w p vs H1, H p = none → Same H H1 → Dp K H1 v c → Dp K H1 w e → H1 p = some (.lst vs) → DpAll K H1 vs ds → De.nx (((s.set i (some v)).set j (some w)).set l (some (.ref p))) H1) : tPar3 i j l (tCons te (tCons tb (tCons (tLst ta) tNil))) De s H :=
  h1 H (Pr.refl H) _ fun v H1 k1 dv => h2 H1 (.of k1) _ fun w H2 k2 dw => (evl_new (h.up (.of (k1.trans k2))) hl) _ fun l vs H3 k3 e1 e2 r => ⟨v, w, .ref l, rfl, k v w l vs H3 (none_of (k1.trans k2) e1) ((k1.trans k2).trans k3) (dp_same (k2.trans k3) dv) (dp_same k3 dw) e2 r⟩
theorem s_par3M {i j l : Nat} {tb : TE} {ta : TA} {ds : List D} {c e : D} (h1 : Ev K te s H c) (h : Av K ta s H ds) (h2 : Ev K tb s H e) (hl : ds.length ≤ 100000) (k : ∀ v w p vs H1, H p = none → Same H H1 → Dp K H1 v c → Dp K H1 w e → H1 p = some (.lst vs) → DpAll K H1 vs ds → De.nx (((s.set i (some v)).set j (some (.ref p))).set l (some w)) H1) : tPar3 i j l (tCons te (tCons (tLst ta) (tCons tb tNil))) De s H :=
  h1 H (Pr.refl H) _ fun v H1 k1 dv => (evl_new (h.up (.of k1)) hl) _ fun l vs H3 k3 e1 e2 r => h2 H3 (.of (k1.trans k3)) _ fun w H2 k2 dw => ⟨v, .ref l, w, rfl, k v w l vs H2 (none_of k1 e1) ((k1.trans k3).trans k2) (dp_same (k3.trans k2) dv) dw (k2 _ _ e2) (dps_same k2 r)⟩
theorem s_expr {c : D} (h : Ev K te s H c) (k : ∀ H1, Same H H1 → De.nx s H1) : tDrop te De s H := h H (Pr.refl H) _ fun v H1 k1 _ => k H1 k1
theorem s_augI {i : Nat} {a b : Int} (h0 : s[i]? = some (some (.int a))) (h : Ev K te s H (.int b)) (k : ∀ H1, Same H H1 → De.nx (s.set i (some (.int (a + b)))) H1) : tAug i te (ipI fun i j => i + j) De s H := ⟨.int a, h0, h H (Pr.refl H) _ fun v H1 k1 dv => ⟨a, b, rfl, dp_int dv, k H1 k1⟩⟩
theorem Ev.go {te : TE} {c : D} (h : Ev K te s H c) {Q : VK} (q : ∀ v H1, Same H H1 → Dp K H1 v c → Q v H1) : te s H Q := h H (Pr.refl H) Q q

/-! promises over data of any kind -/
def spR {α : Type} (K : PySem.W.Frag) (enc : α → List D) (ok : α → Prop) (f : α → D) : Sp := fun vs H Q _ => ∃ a : α, DpAll K H vs (enc a) ∧ ok a ∧ ∀ u H', Same H H' → Dp K H' u (f a) → Q u H'
theorem spr_of {α : Type} {enc : α → List D} {ok : α → Prop} {f : α → D} {ds : List D} {c : D} (a : α) (h : ok a) (he : enc a = ds := by rfl) (hc : f a = c := by rfl) : SpD K (spR K enc ok f) H ds c := fun H1 vs _ dv Q E q => by
  subst hc he
  exact ⟨a, dv, h, q⟩
theorem spr_len {α : Type} {enc : α → List D} {ok : α → Prop} {f : α → D} {vs : List V} {n : Nat} {Q : VK} {E : XK} (hn : ∀ a, (enc a).length = n) (h : spR K enc ok f vs H Q E) : vs.length = n := by
  obtain ⟨a, h1, _⟩ := h
  rw [dps_len h1, hn]
end
end K5
set_option Elab.async false
set_option linter.all false
set_option maxRecDepth 100000
set_option maxHeartbeats 1000000
/-! Plain: the table of costs, its walk back, what a paper must hold. No program in sight. -/
namespace K5
open PySem L2

/-! ### good data -/
def gdn : Nat → D → Bool
  | _, .none => true
  | _, .bool _ => true
  | _, .int _ => true
  | _, .str x => x.cps.all (· < 0x110000) && decide (x.length ≤ 1000)
  | n + 1, .list xs => xs.all (gdn n)
  | n + 1, .tuple xs => xs.all (gdn n)
  | 0, .list _ => false
  | 0, .tuple _ => false
  | _, .dict _ => false
theorem gdn_shape : ∀ (n : Nat) (d : D), gdn n d = true → d.canLay0 = true ∧ d.depth ≤ n := by
  intro n
  induction n with
  | zero =>
    intro d h
    cases d with
    | none => exact ⟨rfl, Nat.le_refl _⟩
    | bool b => exact ⟨rfl, Nat.le_refl _⟩
    | int i => exact ⟨rfl, Nat.le_refl _⟩
    | str x =>
      have h' := (Bool.and_eq_true_iff.mp (show (x.cps.all (· < 0x110000) && decide (x.length ≤ 1000)) = true from h)).1
      exact ⟨by simpa [PyData.canLay0, PyData.strOk] using h', by simp [PyData.depth]⟩
    | list xs => exact nomatch h
    | tuple xs => exact nomatch h
    | dict xs => exact nomatch h
  | succ n ih =>
    have all : ∀ xs : List D, xs.all (gdn n) = true → PyData.canLayAll0 xs = true ∧ PyData.depthAll xs ≤ n := by
      intro xs
      induction xs with
      | nil => exact fun _ => ⟨rfl, Nat.zero_le _⟩
      | cons x xs ih2 =>
        intro h
        rw [List.all_cons, Bool.and_eq_true] at h
        obtain ⟨a1, a2⟩ := ih x h.1
        obtain ⟨b1, b2⟩ := ih2 h.2
        exact ⟨by simp [PyData.canLayAll0, a1, b1], by simp only [PyData.depthAll]; omega⟩
    intro d h
    cases d with
    | none => exact ⟨rfl, Nat.zero_le _⟩
    | bool b => exact ⟨rfl, Nat.zero_le _⟩
    | int i => exact ⟨rfl, Nat.zero_le _⟩
    | str x =>
      have h' := (Bool.and_eq_true_iff.mp (show (x.cps.all (· < 0x110000) && decide (x.length ≤ 1000)) = true from h)).1
      exact ⟨by simpa [PyData.canLay0, PyData.strOk] using h', by simp [PyData.depth]⟩
    | list xs =>
      obtain ⟨a, b⟩ := all xs h
      exact ⟨by simpa [PyData.canLay0] using a, by simp only [PyData.depth]; omega⟩
    | tuple xs =>
      obtain ⟨a, b⟩ := all xs h
      exact ⟨by simpa [PyData.canLay0] using a, by simp only [PyData.depth]; omega⟩
    | dict xs => exact nomatch h
theorem gdn_ok {n : Nat} {d : D} (h : gdn n d = true) (hn : n ≤ 60) : SeqAt.shaped d = true := by
  obtain ⟨a, b⟩ := gdn_shape n d h
  unfold SeqAt.shaped
  rw [a, Bool.true_and]
  exact decide_eq_true (by omega)
theorem gdn_up : ∀ (n : Nat) (d : D), gdn n d = true → gdn (n + 1) d = true := by
  intro n
  induction n with
  | zero =>
    intro d h
    cases d <;> first | exact h | exact nomatch h
  | succ n ih =>
    intro d h
    cases d with
    | list xs =>
      refine List.all_eq_true.mpr fun x hx => ih x (List.all_eq_true.mp (show xs.all (gdn n) = true from h) x hx)
    | tuple xs =>
      refine List.all_eq_true.mpr fun x hx => ih x (List.all_eq_true.mp (show xs.all (gdn n) = true from h) x hx)
    | _ => exact h
theorem gdn_mono {n m : Nat} {d : D} (h : gdn n d = true) (k : n ≤ m) : gdn m d = true := by
  induction k with
  | refl => exact h
  | step _ ih => exact gdn_up _ _ ih
theorem gdn_tup {n : Nat} {xs : List D} (h : gdn n (.tuple xs) = true) : ∀ x ∈ xs, gdn n x = true := by
  cases n with
  | zero => exact nomatch h
  | succ n => exact fun x hx => gdn_up _ _ (List.all_eq_true.mp (show xs.all (gdn n) = true from h) x hx)
theorem gdn_lst {n : Nat} {xs : List D} (h : gdn n (.list xs) = true) : ∀ x ∈ xs, gdn n x = true := by
  cases n with
  | zero => exact nomatch h
  | succ n => exact fun x hx => gdn_up _ _ (List.all_eq_true.mp (show xs.all (gdn n) = true from h) x hx)
theorem gdn_short {n : Nat} {z : Str} (h : gdn n (.str z) = true) : z.length ≤ 1000 := by
  have h' : (z.cps.all (· < 0x110000) && decide (z.length ≤ 1000)) = true := by cases n <;> exact h
  exact of_decide_eq_true (Bool.and_eq_true_iff.mp h').2

/-! ### equality of data against a text, an int -/
theorem eqv_str {d : D} {z : Str} : PyData.eqv d (.str z) = true ↔ d = .str z := by
  cases d <;> simp [PyData.eqv]
theorem eqv_strs {a b : Str} : PyData.eqv (.str a) (.str b) = (a == b) := rfl
theorem eqv_ints {a b : Int} : PyData.eqv (.int a) (.int b) = (a == b) := rfl
theorem eqvAll_strs : ∀ {xs ys : List Str}, PyData.eqvAll (xs.map .str) (ys.map .str) = (xs == ys)
  | [], [] => rfl
  | [], _ :: _ => rfl
  | _ :: _, [] => rfl
  | x :: xs, y :: ys => by
    show (PyData.eqv (.str x) (.str y) && PyData.eqvAll (xs.map .str) (ys.map .str)) = _
    rw [eqvAll_strs]
    rfl

/-! ### names -/
def letB (c : Nat) : Bool := decide (c ∈ [97, 98, 99, 100, 101, 102, 103, 104, 105, 106, 107, 108, 109, 110, 111, 112, 113, 114, 115, 116, 117, 118, 119, 120, 121, 122])
def nameS (z : Str) : Bool := decide (1 ≤ (z.length : Int)) && decide ((z.length : Int) ≤ 8) && z.cps.toList.all letB
def nameD : D → Bool
  | .str z => nameS z | _ => false

/-! ### the table -/
def tab (R : Nat → Nat → Int) (n m : Nat) : D := .tuple ((List.range n).map fun i => .tuple ((List.range m).map fun j => .int (R i j)))
section
variable (p2 p3 p4 : Int) (one other : List Str)
def wd (ws : List Str) (i : Nat) : Str := ws.getD i Str.empty
def al (i j : Nat) : Int := if wd one i == wd other j then 0 else p4
/-- the least cost of making the first j words out of the first i -/
def C : Nat → Nat → Int
  | 0, j => p3 * (j : Int)
  | i + 1, 0 => C i 0 + p2
  | i + 1, j + 1 => min2I (min2I (C i j + al p4 one other i j) (C i (j + 1) + p2)) (C (i + 1) j + p3)
inductive Step where
  | kept | left | put (w : Str) | other (w : Str)
def stepD : Step → D
  | .kept => .tuple [.str "kept"] | .left => .tuple [.str "left"] | .put w => .tuple [.str "put", .str w] | .other w => .tuple [.str "other", .str w]
/-- the steps found on the way back -/
def back : Nat → Nat → List Step
  | 0, 0 => []
  | i + 1, 0 => .left :: back i 0
  | 0, j + 1 => .put (wd other j) :: back 0 j
  | i + 1, j + 1 =>
    if C p2 p3 p4 one other (i + 1) (j + 1) = C p2 p3 p4 one other i j + al p4 one other i j then (if wd one i == wd other j then .kept else .other (wd other j)) :: back i j
    else if C p2 p3 p4 one other (i + 1) (j + 1) = C p2 p3 p4 one other i (j + 1) + p2 then .left :: back i (j + 1)
    else .put (wd other j) :: back (i + 1) j
  termination_by i j => i + j
/-- one step on the way -/
def go (s : Nat × List Str × Int) : Step → Option (Nat × List Str × Int)
  | .kept => if s.1 < one.length then some (s.1 + 1, s.2.1 ++ [wd one s.1], s.2.2) else none
  | .left => if s.1 < one.length then some (s.1 + 1, s.2.1, s.2.2 + p2) else none
  | .put w => some (s.1, s.2.1 ++ [w], s.2.2 + p3)
  | .other w => if s.1 < one.length ∧ w ≠ wd one s.1 then some (s.1 + 1, s.2.1 ++ [w], s.2.2 + p4) else none
def decS : D → Option Step
  | .tuple [k] => if PyData.eqv k (.str "kept") then some .kept else if PyData.eqv k (.str "left") then some .left else none
  | .tuple [k, w] => if nameD w = true then (match w with | .str z => if PyData.eqv k (.str "put") then some (.put z) else if PyData.eqv k (.str "other") then some (.other z) else none | _ => none) else none
  | _ => none
theorem decS_some {d : D} {s : Step} (h : decS d = some s) : d = stepD s := by
  unfold decS at h
  split at h
  · split at h
    · rename_i e
      cases h
      rw [eqv_str.mp e]
      rfl
    · split at h
      · rename_i e
        cases h
        rw [eqv_str.mp e]
        rfl
      · cases h
  · split at h
    · split at h
      · split at h
        · rename_i e
          cases h
          rw [eqv_str.mp e]
          rfl
        · split at h
          · rename_i e
            cases h
            rw [eqv_str.mp e]
            rfl
          · cases h
      · cases h
    · cases h
  · cases h
def goD (s : Nat × List Str × Int) (d : D) : Option (Nat × List Str × Int) := (decS d).bind (go p2 p3 p4 one s)
def runD : Nat × List Str × Int → List D → Option (Nat × List Str × Int)
  | s, [] => some s
  | s, d :: ds => (goD p2 p3 p4 one s d).bind fun s' => runD s' ds
/-- what the steps make of one, and their cost -/
def made (steps : D) : Option (List Str × Int) := match steps with
  | .tuple ss => if ss.length ≤ 12 then (runD p2 p3 p4 one (0, [], 0) ss).bind fun s => if s.1 = one.length then some (s.2.1, s.2.2) else none else none
  | _ => none
end
def rowB (m : Nat) : D → Bool
  | .tuple xs => decide (xs.length = m) && xs.all fun d => match d with | .int _ => true | _ => false
  | _ => false
def potB (n m : Nat) : D → Bool
  | .tuple rs => decide (rs.length = n) && rs.all (rowB m)
  | _ => false
/-- where nothing is greater than it may be -/
def holdB (p2 p3 p4 : Int) (one other : List Str) (R : Nat → Nat → Int) (i j : Nat) : Bool :=
  (!(decide (0 < i) && decide (R (i - 1) j + p2 < R i j))) && (!(decide (0 < j) && decide (R i (j - 1) + p3 < R i j))) && (!(decide (0 < i) && decide (0 < j) && decide (R (i - 1) (j - 1) + al p4 one other (i - 1) (j - 1) < R i j)))
def cellD (d : D) (i j : Nat) : Int := match d with
  | .tuple rs => (match rs[i]? with | some (.tuple xs) => (match xs[j]? with | some (.int k) => k | _ => 0) | _ => 0)
  | _ => 0
def holdAll (p2 p3 p4 : Int) (one other : List Str) (R : Nat → Nat → Int) : Bool := (List.range (one.length + 1)).all fun i => (List.range (other.length + 1)).all fun j => holdB p2 p3 p4 one other R i j
/-- a change paper -/
def paperOk (p2 p3 p4 : Int) (one other : List Str) : D → Bool
  | .tuple [steps, rows] => match made p2 p3 p4 one steps with
    | some (words, cost) => (words == other) && potB (one.length + 1) (other.length + 1) rows && (cellD rows 0 0 == 0) && (cellD rows one.length other.length == cost) && holdAll p2 p3 p4 one other (cellD rows)
    | none => false
  | _ => false
theorem rowB_tab {m : Nat} {d : D} (h : rowB m d = true) : ∃ ks : List Int, ks.length = m ∧ d = .tuple (ks.map .int) := by
  cases d with
  | tuple xs =>
    obtain ⟨h1, h2⟩ := Bool.and_eq_true_iff.mp (show (decide (xs.length = m) && _) = true from h)
    refine ⟨xs.map fun d => match d with | .int k => k | _ => 0, by rw [List.length_map]; exact of_decide_eq_true h1, ?_⟩
    rw [List.map_map]
    congr 1
    refine (List.map_id xs).symm.trans (List.map_congr_left fun x hx => ?_)
    have := List.all_eq_true.mp h2 x hx
    cases x <;> first | rfl | exact nomatch this
  | _ => exact nomatch h
theorem potB_tab {n m : Nat} {d : D} (h : potB n m d = true) : d = tab (cellD d) n m := by
  cases d with
  | tuple rs =>
    obtain ⟨h1, h2⟩ := Bool.and_eq_true_iff.mp (show (decide (rs.length = n) && _) = true from h)
    have hn := of_decide_eq_true h1
    unfold tab
    congr 1
    refine List.ext_getElem? fun i => ?_
    rw [List.getElem?_map]
    by_cases hi : i < n
    · rw [List.getElem?_range hi]
      have hi' : i < rs.length := by omega
      rw [List.getElem?_eq_getElem hi']
      obtain ⟨ks, hk, e⟩ := rowB_tab (List.all_eq_true.mp h2 _ (List.getElem_mem hi'))
      show some rs[i] = some _
      rw [e]
      congr 2
      refine List.ext_getElem? fun j => ?_
      rw [List.getElem?_map, List.getElem?_map]
      by_cases hj : j < m
      · rw [List.getElem?_range hj, List.getElem?_eq_getElem (by omega)]
        show some (PyData.int _) = some (PyData.int _)
        congr 2
        unfold cellD
        simp only [List.getElem?_eq_getElem hi', e, List.getElem?_map, List.getElem?_eq_getElem (show j < ks.length by omega), Option.map_some]
      · rw [List.getElem?_eq_none (by omega), List.getElem?_eq_none (by rw [List.length_range]; omega)]
        rfl
    · rw [List.getElem?_eq_none (by omega), List.getElem?_eq_none (by rw [List.length_range]; omega)]
      rfl
  | _ => exact nomatch h
theorem tab_cell {R : Nat → Nat → Int} {n m i j : Nat} (hi : i < n) (hj : j < m) : cellD (tab R n m) i j = R i j := by
  unfold cellD tab
  simp only [List.getElem?_map, List.getElem?_range hi, List.getElem?_range hj, Option.map_some]
theorem tab_pot {R : Nat → Nat → Int} {n m : Nat} : potB n m (tab R n m) = true := by
  unfold tab potB
  simp [rowB]
section
variable {p2 p3 p4 : Int} {one other : List Str}
theorem min2I_le {a b : Int} : min2I a b ≤ a ∧ min2I a b ≤ b := by
  unfold min2I
  split <;> omega
theorem min2I_or (a b : Int) : min2I a b = a ∨ min2I a b = b := by
  unfold min2I
  split <;> simp
theorem C_hold (i j : Nat) : holdB p2 p3 p4 one other (C p2 p3 p4 one other) i j = true := by
  have e0 : ∀ i, C p2 p3 p4 one other (i + 1) 0 = C p2 p3 p4 one other i 0 + p2 := fun i => by simp [C]
  have e1 : ∀ j, C p2 p3 p4 one other 0 j = p3 * (j : Int) := fun j => by simp [C]
  have e2 : ∀ i j, C p2 p3 p4 one other (i + 1) (j + 1) = min2I (min2I (C p2 p3 p4 one other i j + al p4 one other i j) (C p2 p3 p4 one other i (j + 1) + p2)) (C p2 p3 p4 one other (i + 1) j + p3) := fun i j => by
    conv => lhs; unfold C
  unfold holdB
  cases i with
  | zero =>
    cases j with
    | zero => simp
    | succ j =>
      simp only [e1, Nat.add_sub_cancel]
      have : (((j + 1 : Nat) : Int)) = (j : Int) + 1 := by omega
      rw [this, Int.mul_add, Int.mul_one]
      simp
  | succ i =>
    cases j with
    | zero => simp [e0]
    | succ j =>
      have a := e2 i j
      have h1 := min2I_le (a := min2I (C p2 p3 p4 one other i j + al p4 one other i j) (C p2 p3 p4 one other i (j + 1) + p2)) (b := C p2 p3 p4 one other (i + 1) j + p3)
      have h2 := min2I_le (a := C p2 p3 p4 one other i j + al p4 one other i j) (b := C p2 p3 p4 one other i (j + 1) + p2)
      rw [← a] at h1
      simp only [Nat.add_sub_cancel]
      simp
      omega
theorem runD_app {s : Nat × List Str × Int} : ∀ {ds es : List D}, runD p2 p3 p4 one s (ds ++ es) = (runD p2 p3 p4 one s ds).bind fun s' => runD p2 p3 p4 one s' es := by
  intro ds
  induction ds generalizing s with
  | nil => intro es; rfl
  | cons d ds ih =>
    intro es
    show (goD p2 p3 p4 one s d).bind _ = ((goD p2 p3 p4 one s d).bind _).bind _
    cases goD p2 p3 p4 one s d with
    | none => rfl
    | some s' => exact ih
theorem decS_step {s : Step} (h : ∀ w, (s = .put w ∨ s = .other w) → nameS w = true) : decS (stepD s) = some s := by
  cases s with
  | kept => rfl
  | left => rfl
  | put w =>
    have hw : nameD (.str w) = true := h w (.inl rfl)
    simp only [stepD, decS]
    rw [if_pos hw]
    rfl
  | other w =>
    have hw : nameD (.str w) = true := h w (.inr rfl)
    simp only [stepD, decS]
    rw [if_pos hw]
    rfl
theorem wd_get {ws : List Str} {i : Nat} (h : i < ws.length) : ws[i]? = some (wd ws i) := by
  unfold wd
  rw [List.getD_eq_getElem?_getD, List.getElem?_eq_getElem h]
  rfl
theorem wd_take {ws : List Str} {i : Nat} (h : i < ws.length) : ws.take i ++ [wd ws i] = ws.take (i + 1) := (take_step (wd_get h)).symm
theorem back_run (hn : ∀ w ∈ other, nameS w = true) : ∀ (k i j : Nat), i + j = k → i ≤ one.length → j ≤ other.length →
    runD p2 p3 p4 one (0, [], 0) ((back p2 p3 p4 one other i j).reverse.map stepD) = some (i, other.take j, C p2 p3 p4 one other i j) ∧ (back p2 p3 p4 one other i j).length ≤ k := by
  intro k
  induction k using Nat.strongRecOn with
  | ind k ih =>
    intro i j hk hi hj
    have nm : ∀ j, j < other.length → nameS (wd other j) = true := fun j h => hn _ (List.mem_of_getElem? (wd_get h))
    have one1 : ∀ (l : List Step) (t : Step) (s s' : Nat × List Str × Int), runD p2 p3 p4 one (0, [], 0) (l.reverse.map stepD) = some s → decS (stepD t) = some t → go p2 p3 p4 one s t = some s' →
        runD p2 p3 p4 one (0, [], 0) ((t :: l).reverse.map stepD) = some s' := by
      intro l t s s' h1 h2 h3
      rw [List.reverse_cons, List.map_append, runD_app, h1]
      show (goD p2 p3 p4 one s (stepD t)).bind _ = _
      unfold goD
      rw [h2]
      show (go p2 p3 p4 one s t).bind _ = _
      rw [h3]
      rfl
    cases i with
    | zero =>
      cases j with
      | zero =>
        have e : back p2 p3 p4 one other 0 0 = [] := by simp [back]
        rw [e]
        exact ⟨by simp [runD, C], Nat.zero_le _⟩
      | succ j =>
        have e : back p2 p3 p4 one other 0 (j + 1) = .put (wd other j) :: back p2 p3 p4 one other 0 j := by
          conv => lhs; unfold back
        obtain ⟨h1, h2⟩ := ih (0 + j) (by omega) 0 j rfl hi (by omega)
        rw [e]
        refine ⟨one1 _ _ _ _ h1 (decS_step fun w hw => by rcases hw with hw | hw <;> cases hw; exact nm j (by omega)) ?_, by rw [List.length_cons]; omega⟩
        show some _ = some _
        rw [wd_take (by omega)]
        simp only [C]
        have : (((j + 1 : Nat) : Int)) = (j : Int) + 1 := by omega
        rw [this, Int.mul_add, Int.mul_one]
    | succ i =>
      have keep : ∀ j, go p2 p3 p4 one (i, other.take j, C p2 p3 p4 one other i j) .left = some (i + 1, other.take j, C p2 p3 p4 one other i j + p2) := fun j => by
        show (if i < one.length then _ else _) = _
        rw [if_pos (by omega)]
      cases j with
      | zero =>
        have e : back p2 p3 p4 one other (i + 1) 0 = .left :: back p2 p3 p4 one other i 0 := by
          conv => lhs; unfold back
        obtain ⟨h1, h2⟩ := ih (i + 0) (by omega) i 0 rfl (by omega) hj
        rw [e]
        refine ⟨one1 _ _ _ _ h1 rfl ?_, by rw [List.length_cons]; omega⟩
        rw [keep]
        simp only [C]
      | succ j =>
        have e : back p2 p3 p4 one other (i + 1) (j + 1) = if C p2 p3 p4 one other (i + 1) (j + 1) = C p2 p3 p4 one other i j + al p4 one other i j then (if wd one i == wd other j then .kept else .other (wd other j)) :: back p2 p3 p4 one other i j
            else if C p2 p3 p4 one other (i + 1) (j + 1) = C p2 p3 p4 one other i (j + 1) + p2 then .left :: back p2 p3 p4 one other i (j + 1)
            else .put (wd other j) :: back p2 p3 p4 one other (i + 1) j := by
          conv => lhs; unfold back
        have a : C p2 p3 p4 one other (i + 1) (j + 1) = min2I (min2I (C p2 p3 p4 one other i j + al p4 one other i j) (C p2 p3 p4 one other i (j + 1) + p2)) (C p2 p3 p4 one other (i + 1) j + p3) := by
          conv => lhs; unfold C
        rw [e]
        split
        · rename_i h
          obtain ⟨h1, h2⟩ := ih (i + j) (by omega) i j rfl (by omega) (by omega)
          cases hs : wd one i == wd other j with
          | true =>
            rw [if_pos rfl]
            refine ⟨one1 _ _ _ _ h1 rfl ?_, by rw [List.length_cons]; omega⟩
            show (if i < one.length then _ else _) = _
            rw [if_pos (by omega), h]
            have : al p4 one other i j = 0 := by unfold al; rw [if_pos hs]
            rw [this, Int.add_zero]
            show some (i + 1, other.take j ++ [wd one i], _) = _
            rw [eq_of_beq hs, wd_take (by omega)]
          | false =>
            rw [if_neg (by decide)]
            refine ⟨one1 _ _ _ _ h1 (decS_step fun w hw => by rcases hw with hw | hw <;> cases hw; exact nm j (by omega)) ?_, by rw [List.length_cons]; omega⟩
            have : al p4 one other i j = p4 := by unfold al; rw [if_neg (by rw [hs]; decide)]
            show (if i < one.length ∧ wd other j ≠ wd one i then _ else _) = _
            rw [if_pos ⟨by omega, fun z => by rw [z] at hs; simp at hs⟩, h, this]
            show some (i + 1, other.take j ++ [wd other j], _) = _
            rw [wd_take (by omega)]
        · split
          · rename_i h
            obtain ⟨h1, h2⟩ := ih (i + (j + 1)) (by omega) i (j + 1) rfl (by omega) hj
            refine ⟨one1 _ _ _ _ h1 rfl ?_, by rw [List.length_cons]; omega⟩
            rw [keep, h]
          · rename_i n1 n2
            obtain ⟨h1, h2⟩ := ih (i + 1 + j) (by omega) (i + 1) j rfl hi (by omega)
            refine ⟨one1 _ _ _ _ h1 (decS_step fun w hw => by rcases hw with hw | hw <;> cases hw; exact nm j (by omega)) ?_, by rw [List.length_cons]; omega⟩
            show some _ = some _
            rw [wd_take (by omega)]
            have b : C p2 p3 p4 one other (i + 1) (j + 1) = C p2 p3 p4 one other (i + 1) j + p3 := by
              rcases min2I_or (min2I (C p2 p3 p4 one other i j + al p4 one other i j) (C p2 p3 p4 one other i (j + 1) + p2)) (C p2 p3 p4 one other (i + 1) j + p3) with h | h
              · rcases min2I_or (C p2 p3 p4 one other i j + al p4 one other i j) (C p2 p3 p4 one other i (j + 1) + p2) with h' | h'
                · exact absurd (a.trans (h.trans h')) n1
                · exact absurd (a.trans (h.trans h')) n2
              · exact a.trans h
            rw [b]
/-- the paper of one's own -/
def ownSteps (p2 p3 p4 : Int) (one other : List Str) : D := .tuple ((back p2 p3 p4 one other one.length other.length).reverse.map stepD)
def ownPaper (p2 p3 p4 : Int) (one other : List Str) : D := .tuple [ownSteps p2 p3 p4 one other, tab (C p2 p3 p4 one other) (one.length + 1) (other.length + 1)]
theorem own_ok (hn : ∀ w ∈ other, nameS w = true) (h1 : one.length ≤ 6) (h2 : other.length ≤ 6) : paperOk p2 p3 p4 one other (ownPaper p2 p3 p4 one other) = true := by
  obtain ⟨a, b⟩ := back_run (p2 := p2) (p3 := p3) (p4 := p4) (one := one) hn _ one.length other.length rfl (Nat.le_refl _) (Nat.le_refl _)
  have e : made p2 p3 p4 one (ownSteps p2 p3 p4 one other) = some (other, C p2 p3 p4 one other one.length other.length) := by
    unfold made ownSteps
    simp only
    rw [if_pos (by rw [List.length_map, List.length_reverse]; omega), a]
    show (if one.length = one.length then _ else _) = _
    rw [if_pos rfl, List.take_length]
  unfold ownPaper paperOk
  simp only [e]
  rw [tab_pot, tab_cell (by omega) (by omega), tab_cell (by omega) (by omega)]
  have c0 : C p2 p3 p4 one other 0 0 = 0 := by simp [C]
  rw [c0]
  simp only [beq_self_eq_true, Bool.and_self, Bool.true_and, Bool.and_true]
  unfold holdAll
  refine List.all_eq_true.mpr fun i hi => List.all_eq_true.mpr fun j hj => ?_
  rw [List.mem_range] at hi hj
  have := C_hold (p2 := p2) (p3 := p3) (p4 := p4) (one := one) (other := other) i j
  unfold holdB at this ⊢
  rw [tab_cell hi hj, tab_cell (by omega) hj, tab_cell hi (by omega), tab_cell (by omega) (by omega)]
  exact this
end
end K5
set_option Elab.async false
set_option linter.all false
set_option maxRecDepth 100000
set_option maxHeartbeats 4000000
/-! Pure defs of the program, one by one. -/
namespace K5
open PySem L2 PySem.Spec PyProof.Rows
theorem dp_up {K : PySem.W.Frag} {H H' : Hp} {v : V} {d : D} (h : Dp K H v d) (e : Same H H') : Dp K H' v d := dp_same e h
theorem sl_mk {K : PySem.W.Frag} {s : L2.St} {H : Hp} {i : Nat} {v : V} {d : D} (h : s[i]? = some (some v)) (r : Dp K H v d) : Sl K s H i d := ⟨v, h, r⟩
theorem s_next {N B C : L2.St → Hp → Prop} {R : VK} {s : L2.St} {H : Hp} (h : N s H) : tNext { nx := N, rt := R, bk := B, ct := C } s H := h
theorem s_seq {t u : TS} {De : Ends} {s : L2.St} {H : Hp} (h : t { De with nx := u De } s H) : tSeq t u De s H := h
section
variable {K : PySem.W.Frag} {s : L2.St} {H : Hp} {te : TE} {d : D}
theorem ev_isi2 {r : List V → Hp → VK → Prop} {n : String} {b : Bool} (hr : r = rIsi K) (h : Ev K te s H d) (hb : kitB (tyD d) n = some b) : Ev K (tCB r (tCons te (tCons (tC (.ty n)) tNil))) s H (.bool b) := hr ▸ ev_isi h hb
/-- what a slice of d comes to -/
inductive SlD : D → Option Int → Option Int → D → Prop
  | l {xs : List D} {lo hi : Option Int} : SlD (.list xs) lo hi (.list (cutD xs lo hi))
  | t {xs : List D} {lo hi : Option Int} : SlD (.tuple xs) lo hi (.tuple (cutD xs lo hi))
  | s {z : Str} {lo hi : Option Int} (h : z.length ≤ 100000) : SlD (.str z) lo hi (.str (cutS z lo hi))
theorem ev_sl2 {r : V → Option Int → Option Int → Hp → VK → Prop} {to tp : TO} {lo hi : Option Int} {c : D} (hr : r = rSlU K) (h : Ev K te s H d) (h1 : Ov K to s H lo) (h2 : Ov K tp s H hi) (hs : SlD d lo hi c) : Ev K (tSl r te to tp) s H c := by
  subst hr
  cases hs with
  | l => exact ev_slL h h1 h2
  | t => exact ev_slT h h1 h2
  | s z => exact ev_slS h h1 h2 z
theorem ev_rev2 {K1 : PySem.W.Frag} {xs : List D} (hr : K1 = K) (h : Ev K te s H (.list xs)) : Ev K (tRevL K1 te) s H (.list xs.reverse) := by subst hr; exact ev_revL h
def rTupOf (K : PySem.W.Frag) : List V → Hp → VK → Prop := fun xs H Q => ∃ p ys, xs = [.ref p] ∧ ((SqL K H p ys ∧ ∀ l, H l = none → Q (.ref l) (upd H l (.tup ys))) ∨ (SqT K H p ys ∧ Q (.ref p) H))
def rListOf (K : PySem.W.Frag) : List V → Hp → VK → Prop := fun xs H Q => ∃ p ys, xs = [.ref p] ∧ (SqL K H p ys ∨ SqT K H p ys) ∧ ∀ l, H l = none → Q (.ref l) (upd H l (.lst ys))
theorem rc_tupL {xs : List D} : RC K (rTupOf K) H [.list xs] (.tuple xs) := fun H1 vs k dv Q q => by
  obtain ⟨v, d, rfl, e, hd⟩ := dps1 dv rfl
  cases e
  obtain ⟨a, us, rfl, e1, r1⟩ := dp_lst hd
  exact ⟨a, us, rfl, .inl ⟨e1, fun p hp => q _ _ (Same.new hp) (.tup (SqT.of upd_same) (dps_same (Same.new hp) r1))⟩⟩
theorem rc_tupT {xs : List D} : RC K (rTupOf K) H [.tuple xs] (.tuple xs) := fun H1 vs k dv Q q => by
  obtain ⟨v, d, rfl, e, hd⟩ := dps1 dv rfl
  cases e
  obtain ⟨a, us, rfl, e1, r1⟩ := dp_tup hd
  exact ⟨a, us, rfl, .inr ⟨e1, q _ _ (Same.refl _) hd⟩⟩
theorem rc_lst {xs : List D} (h : d = .list xs ∨ d = .tuple xs) : RC K (rListOf K) H [d] (.list xs) := fun H1 vs k dv Q q => by
  obtain ⟨v, d, rfl, e, hd⟩ := dps1 dv rfl
  cases e
  rcases h with rfl | rfl
  · obtain ⟨a, us, rfl, e1, r1⟩ := dp_lst hd
    exact ⟨a, us, rfl, .inl e1, fun p hp => q _ _ (Same.new hp) (.lst (SqL.of upd_same) (dps_same (Same.new hp) r1))⟩
  · obtain ⟨a, us, rfl, e1, r1⟩ := dp_tup hd
    exact ⟨a, us, rfl, .inr e1, fun p hp => q _ _ (Same.new hp) (.lst (SqL.of upd_same) (dps_same (Same.new hp) r1))⟩
theorem rc_lstL {xs : List D} : RC K (rListOf K) H [.list xs] (.list xs) := rc_lst (.inl rfl)
theorem rc_lstT {xs : List D} : RC K (rListOf K) H [.tuple xs] (.list xs) := rc_lst (.inr rfl)
end
local macro_rules | `(tactic| walk_at "DP") => `(tactic| first | with_reducible assumption | with_reducible exact Dp.int _ | with_reducible exact Dp.str _ | with_reducible exact Dp.bl _ | with_reducible exact Dp.non | with_reducible exact dp_up (by assumption) (by assumption))
local macro_rules | `(tactic| walk_at "SH") => `(tactic| first | with_reducible assumption | rfl)
local macro_rules | `(tactic| walk_at "RD") => `(tactic| first | with_reducible assumption | exact rd_addI | exact rd_I0 fun _ => .int _ | exact rd_I0 fun _ => .bl _ | exact rd_ixL (by with_reducible assumption) | exact rd_ixT (by with_reducible assumption) | exact rd_ixS (by with_reducible assumption) (by with_reducible assumption) | exact rd_eqD (by walk_at "SH") (by walk_at "SH") | exact rd_neD (by walk_at "SH") (by walk_at "SH") | exact rd_inS | exact rd_notN | exact rd_isN | exact rd_addL (by with_reducible assumption) | exact rd_addT (by with_reducible assumption) | exact rd_addS (by with_reducible assumption))
local macro_rules | `(tactic| walk_at "OV") => `(tactic| first | with_reducible exact ov_no | ((with_reducible apply ov_some); walk_at "EV"))
local macro_rules | `(tactic| walk_at "AV") => `(tactic| first | with_reducible assumption | with_reducible exact av_nil | ((with_reducible apply av_cons); walk_at "EV"; walk_at "AV"))
local macro_rules | `(tactic| walk_at "RC") => `(tactic| first | with_reducible assumption | exact rc_len (by (first | with_reducible assumption | trivial)) | exact rc_tupL | exact rc_tupT | exact rc_lstL | exact rc_lstT | exact rc_all | exact rc_sum | exact rc_min2 | exact rc_min3)
local macro_rules | `(tactic| walk_at "KIT") => `(tactic| first | with_reducible exact kit_int _ | with_reducible exact kit_bool _ | with_reducible exact kit_str _ | with_reducible exact kit_tuple _)
local macro_rules | `(tactic| walk_at "EV") => `(tactic| first | with_reducible assumption | with_reducible exact ev_int | with_reducible exact ev_str | with_reducible exact ev_bl | with_reducible exact ev_non | ((with_reducible apply ev_var); exact sl_mk rfl (by walk_at "DP")) | ((with_reducible apply ev_op); walk_at "EV"; walk_at "EV"; walk_at "RD") | ((with_reducible apply ev_neg); walk_at "EV") | ((with_reducible apply ev_tup); walk_at "AV"; (first | (with_reducible assumption) | decide)) | ((with_reducible apply ev_lst); walk_at "AV"; (first | (with_reducible assumption) | decide)) | ((with_reducible apply ev_call); walk_at "AV"; with_reducible assumption) | ((with_reducible apply ev_isi2); exact rfl; walk_at "EV"; walk_at "KIT") | ((with_reducible apply ev_cb); walk_at "AV"; walk_at "RC") | ((with_reducible apply ev_chain); walk_at "EV"; walk_at "EV"; walk_at "RD"; intro _; walk_at "EV"; intro _; walk_at "RD") | ((with_reducible apply ev_andV); walk_at "EV"; intro _; walk_at "EV") | ((with_reducible apply ev_orV); walk_at "EV"; intro _; walk_at "EV") | ((with_reducible apply ev_notV); walk_at "EV") | ((with_reducible apply ev_sl2); exact rfl; walk_at "EV"; walk_at "OV"; walk_at "OV"; walk_at "SLD") | ((with_reducible apply ev_rev2); exact rfl; walk_at "EV"))
local macro_rules | `(tactic| walk_at "SLD") => `(tactic| first | with_reducible exact SlD.l | with_reducible exact SlD.t | with_reducible exact SlD.s (by with_reducible assumption))
local macro_rules | `(tactic| walk_at "TV") => `(tactic| first | with_reducible assumption | ((with_reducible apply tv_and); walk_at "TV"; intro _; walk_at "TV") | ((with_reducible apply tv_or); walk_at "TV"; intro _; walk_at "TV") | ((with_reducible apply tv_not); walk_at "TV") | ((with_reducible apply tv_B); walk_at "EV") | ((with_reducible apply tv_T); walk_at "EV"))
local macro_rules | `(tactic| walk_at "NX") => `(tactic| ((try dsimp only); (try with_reducible apply s_next); (try dsimp only); (try with_reducible apply s_seq)))

section
variable {P : Program} {w : World} {K : PySem.W.Frag} {mg : Str → Option Value} {base : Heap}
theorem spd_isWhole {H : Hp} {d : D} : SpD K (spIsWhole K) H [d] (.bool (isInt d)) := spd_of trivial

/-! ### is_among -/
abbrev s_is_among : Stmt := topS 24
abbrev N_is_among : List Str := ["thing", "least", "most"]
theorem sc_is_among : FnScope N_is_among ["thing", "least", "most"] (defScope s_is_among) := ⟨rfl, rfl, rfl, by decide +kernel, rfl, by decide +kernel, by decide +kernel⟩
abbrev spIsAmong (K : PySem.W.Frag) : Sp := spR K (fun a : D × Int × Int => [a.1, .int a.2.1, .int a.2.2]) (fun _ => True) fun a => .bool (amongD a.1 a.2.1 a.2.2)
theorem c_is_among (T : Txt w K mg) (d : DefAt K mg "is_among" s_is_among) (G_is_whole : KCal P w K mg base CX0 1 "is_whole" ["thing"] (spIsWhole K)) : KCal P w K mg base CX0 2 "is_among" ["thing", "least", "most"] (spIsAmong K) := by
  refine d.cal (fun _ _ _ _ _ _ us hl => match us, hl with | [_, _, _], _ => rfl) fun f fd F => F.ok sc_is_among (fun vs H Q E h => spr_len (fun _ => rfl) h) (fun cdv A outer s H vs Q E hr h => ?_)
  refine ⟨_, (pss_one (ps_ret (pe_and (pc0 G_is_whole hr (by decide) (by rfl) (pa_cons (pv 0) pa_nil)) (pe_one (pe_chain op_le op_le (pv 1) (pv 0) (pv 2)))))), ?_⟩
  obtain ⟨⟨d, lo, hi⟩, h1, _, k⟩ := h
  obtain ⟨v, d', v2, d2, v3, d3, rfl, e, hd, hd2, hd3⟩ := dps3 h1 rfl
  cases e
  have c := spd_isWhole (K := K) (H := H) (d := d)
  cases d with
  | int i =>
    apply s_ret (K := K)
    · exact ev_andV (ev_call (by walk_at "AV") c) fun _ => by walk_at "EV"
    · exact fun u H1 e1 du => k u H1 e1 du
  | _ =>
    apply s_ret (K := K)
    · exact ev_andV (b := false) (ev_call (by walk_at "AV") c) fun z => nomatch z
    · exact fun u H1 e1 du => k u H1 e1 du
theorem spd_isAmong {H : Hp} {d : D} {i j : Int} : SpD K (spIsAmong K) H [d, .int i, .int j] (.bool (amongD d i j)) := spr_of (d, i, j) trivial

/-! ### is_name -/
theorem alph_l : alph.cps.toList = [97, 98, 99, 100, 101, 102, 103, 104, 105, 106, 107, 108, 109, 110, 111, 112, 113, 114, 115, 116, 117, 118, 119, 120, 121, 122] := by decide +kernel
theorem let_alph (c : Nat) : decide (c ∈ alph.cps.toList) = letB c := by rw [alph_l]; rfl
def strShort : D → Prop
  | .str z => z.length ≤ 100000 | _ => True
abbrev s_is_name : Stmt := topS 25
abbrev N_is_name : List Str := ["thing", "sign"]
theorem sc_is_name : FnScope N_is_name ["thing"] (defScope s_is_name) := ⟨rfl, rfl, rfl, by decide +kernel, rfl, by decide +kernel, by decide +kernel⟩
abbrev spIsName (K : PySem.W.Frag) : Sp := spR K (fun a : D => [a]) strShort fun a => .bool (nameD a)
theorem all_let {cs : List Nat} : ((cs.map fun c => (PyData.str ⟨#[c]⟩ : D)).filter (fun _ => true)).map (fun d => match d with | .str z => PyData.bool (z.cps.toList.all letB) | _ => .none) = (cs.map letB).map .bool := by
  rw [List.filter_eq_self.mpr (fun _ _ => rfl), List.map_map, List.map_map]
  refine List.map_congr_left fun c _ => ?_
  simp
theorem c_is_name (T : Txt w K mg) (d : DefAt K mg "is_name" s_is_name) : KCal P w K mg base CX0 1 "is_name" ["thing"] (spIsName K) := by
  refine d.cal (fun _ _ _ _ _ _ us hl => match us, hl with | [_], _ => rfl) fun f fd F => F.ok sc_is_name (fun vs H Q E h => spr_len (fun _ => rfl) h) (fun cdv A outer s H vs Q E hr h => ?_)
  refine ⟨_, (pss_cons (ps_if (PW.pt (pw_or (pt_not (pt_val (pe_callB call_isi (by rfl) T.n_isinstance (by decide +kernel) (pa_cons (pv 0) (pa_cons (pe_bltn (v := .ty "str") rfl T.n_str (by decide +kernel) rfl) pa_nil))))) (pw_or1 (pt_not (pt_chain op_le op_le pe_int (pe_callB call_len (by rfl) T.n_len (by decide +kernel) (pa_cons (pv 0) pa_nil)) (pgl rfl T.g_MOST_LETTERS)))))) (pss_one (ps_ret pe_bl)) pss_nil)
  (pss_one (ps_ret (pe_callB (cr_all rfl) (by rfl) T.n_all (by decide +kernel) (pa_cons (pe_lc (own := [("sign", 1)]) rfl sc_is_name.nd (pi_any (pv 0)) (blkOk_by (N := N_is_name) (sc := defScope s_is_name) (by decide +kernel)) (fun _ _ _ _ _ => (pg_name (i := 1) sc_is_name.nd rfl (Or.inl rfl))) (fun _ _ _ _ _ => pts_nil) (fun _ _ _ _ _ => (pe_cmpR (show OpR _ _ (rInU K) from opInU) (pv 1) (pgl rfl T.g_LETTERS) (by rfl)))) pa_nil))))), ?_⟩
  obtain ⟨d, h1, hz, k⟩ := h
  obtain ⟨v, d', rfl, e, hd⟩ := dps1 h1 rfl
  cases e
  refine s_seq ?_
  cases d with
  | str z =>
    have hz' : z.length ≤ sizeLine := Nat.le_trans hz (by decide)
    have hs : sizedD (.str z) := hz'
    apply s_if (K := K)
    · walk_at "TV"
    · intro hb H1 e1
      apply s_ret (K := K)
      · walk_at "EV"
      · intro u H2 e2 du
        refine k u H2 (e1.trans e2) ?_
        have e : nameS z = false := by
          have hb' : (!(decide (1 ≤ (z.length : Int)) && decide ((z.length : Int) ≤ 8))) = true := hb
          unfold nameS
          rw [Bool.not_eq_true'] at hb'
          rw [hb', Bool.false_and]
        show Dp K H2 u (.bool (nameS z))
        rw [e]
        exact du
    · intro hb H1 e1
      have hb2 : (decide (1 ≤ (z.length : Int)) && decide ((z.length : Int) ≤ 8)) = true := by
        have hb' : (!(decide (1 ≤ (z.length : Int)) && decide ((z.length : Int) ≤ 8))) = false := hb
        rwa [Bool.not_eq_false'] at hb'
      refine s_next ?_
      apply s_ret (K := K)
      · refine ev_cb (d := .bool ((z.cps.toList.map letB).all id)) (av_cons (ev_lc (p := fun _ => true) (f := fun d => match d with | .str z => PyData.bool (z.cps.toList.all letB) | _ => .none) (yd_any (by walk_at "EV") rfl) ?_ (by rw [List.length_map, Array.length_toList]; exact hz)) av_nil) ?_
        · intro d hd1 v2 H2 k2 dv R q
          obtain ⟨c, hc, rfl⟩ := List.mem_map.mp hd1
          refine q _ wipe1 (fun _ _ _ q => q _ (Same.refl _)) fun _ => ⟨?_, rfl⟩
          refine ev_is (d := .bool (decide (c ∈ alph.cps.toList))) ?_ (by rw [let_alph]; show PyData.bool (letB c) = .bool ([c].all letB); simp)
          walk_at "EV"
        · exact all_let ▸ rc_all
      · intro u H2 e2 du
        refine k u H2 (e1.trans e2) ?_
        have e : nameS z = (List.map letB z.cps.toList).all id := by
          unfold nameS
          rw [hb2, Bool.true_and, List.all_map]
          rfl
        show Dp K H2 u (.bool (nameS z))
        rw [e]
        exact du
  | _ =>
    apply s_if (K := K)
    · with_reducible apply tv_or (b := false)
      · walk_at "TV"
      · intro z
        exact nomatch z
    · intro hb H1 e1
      apply s_ret (K := K)
      · walk_at "EV"
      · exact fun u H2 e2 du => k u H2 (e1.trans e2) du
    · intro z
      exact nomatch z
end
end K5
set_option Elab.async false
set_option linter.all false
set_option maxRecDepth 100000
set_option maxHeartbeats 4000000
/-! The table of costs, and the walk back. -/
namespace K5
open PySem L2 PySem.Spec PyProof.Rows
local macro_rules | `(tactic| walk_at "DP") => `(tactic| first | with_reducible assumption | with_reducible exact Dp.int _ | with_reducible exact Dp.str _ | with_reducible exact Dp.bl _ | with_reducible exact Dp.non | with_reducible exact dp_up (by assumption) (by assumption))
local macro_rules | `(tactic| walk_at "SH") => `(tactic| first | with_reducible assumption | rfl)
local macro_rules | `(tactic| walk_at "RD") => `(tactic| first | with_reducible assumption | exact rd_addI | exact rd_I0 fun _ => .int _ | exact rd_I0 fun _ => .bl _ | exact rd_ixL (by with_reducible assumption) | exact rd_ixT (by with_reducible assumption) | exact rd_ixS (by with_reducible assumption) (by with_reducible assumption) | exact rd_eqD (by walk_at "SH") (by walk_at "SH") | exact rd_neD (by walk_at "SH") (by walk_at "SH") | exact rd_inS | exact rd_notN | exact rd_isN | exact rd_addL (by with_reducible assumption) | exact rd_addT (by with_reducible assumption) | exact rd_addS (by with_reducible assumption))
local macro_rules | `(tactic| walk_at "OV") => `(tactic| first | with_reducible exact ov_no | ((with_reducible apply ov_some); walk_at "EV"))
local macro_rules | `(tactic| walk_at "AV") => `(tactic| first | with_reducible assumption | with_reducible exact av_nil | ((with_reducible apply av_cons); walk_at "EV"; walk_at "AV"))
local macro_rules | `(tactic| walk_at "RC") => `(tactic| first | with_reducible assumption | exact rc_len (by (first | with_reducible assumption | trivial)) | exact rc_tupL | exact rc_tupT | exact rc_lstL | exact rc_lstT | exact rc_all | exact rc_sum | exact rc_min2 | exact rc_min3)
local macro_rules | `(tactic| walk_at "KIT") => `(tactic| first | with_reducible exact kit_int _ | with_reducible exact kit_bool _ | with_reducible exact kit_str _ | with_reducible exact kit_tuple _)
local macro_rules | `(tactic| walk_at "EV") => `(tactic| first | with_reducible assumption | with_reducible exact ev_int | with_reducible exact ev_str | with_reducible exact ev_bl | with_reducible exact ev_non | ((with_reducible apply ev_var); exact sl_mk rfl (by walk_at "DP")) | ((with_reducible apply ev_op); walk_at "EV"; walk_at "EV"; walk_at "RD") | ((with_reducible apply ev_neg); walk_at "EV") | ((with_reducible apply ev_tup); walk_at "AV"; (first | (with_reducible assumption) | decide)) | ((with_reducible apply ev_lst); walk_at "AV"; (first | (with_reducible assumption) | decide)) | ((with_reducible apply ev_call); walk_at "AV"; with_reducible assumption) | ((with_reducible apply ev_isi2); exact rfl; walk_at "EV"; walk_at "KIT") | ((with_reducible apply ev_cb); walk_at "AV"; walk_at "RC") | ((with_reducible apply ev_chain); walk_at "EV"; walk_at "EV"; walk_at "RD"; intro _; walk_at "EV"; intro _; walk_at "RD") | ((with_reducible apply ev_andV); walk_at "EV"; intro _; walk_at "EV") | ((with_reducible apply ev_orV); walk_at "EV"; intro _; walk_at "EV") | ((with_reducible apply ev_notV); walk_at "EV") | ((with_reducible apply ev_sl2); exact rfl; walk_at "EV"; walk_at "OV"; walk_at "OV"; walk_at "SLD") | ((with_reducible apply ev_rev2); exact rfl; walk_at "EV"))
local macro_rules | `(tactic| walk_at "SLD") => `(tactic| first | with_reducible exact SlD.l | with_reducible exact SlD.t | with_reducible exact SlD.s (by with_reducible assumption))
local macro_rules | `(tactic| walk_at "TV") => `(tactic| first | with_reducible assumption | ((with_reducible apply tv_and); walk_at "TV"; intro _; walk_at "TV") | ((with_reducible apply tv_or); walk_at "TV"; intro _; walk_at "TV") | ((with_reducible apply tv_not); walk_at "TV") | ((with_reducible apply tv_B); walk_at "EV") | ((with_reducible apply tv_T); walk_at "EV"))
local macro_rules | `(tactic| walk_at "NX") => `(tactic| ((try dsimp only); (try with_reducible apply s_next); (try dsimp only); (try with_reducible apply s_seq)))

structure PP where
  (p0 p1 p2 p3 p4 p5 : Int)
def PP.d (p : PP) : D := .tuple [.int p.p0, .int p.p1, .int p.p2, .int p.p3, .int p.p4, .int p.p5]
def wordsD (ws : List Str) : D := .tuple (ws.map .str)
def okW (ws : List Str) : Prop := ws.length ≤ 6 ∧ ∀ w ∈ ws, nameS w = true
theorem name_shape {w : Str} (h : nameS w = true) : SeqAt.shaped (.str w) = true ∧ w.length ≤ 8 ∧ 1 ≤ w.length := by
  unfold nameS at h
  rw [Bool.and_eq_true, Bool.and_eq_true, decide_eq_true_eq, decide_eq_true_eq] at h
  refine ⟨?_, by omega, by omega⟩
  have h3 : ∀ x ∈ w.cps.toList, x < 0x110000 := fun x hx => by
    have := List.all_eq_true.mp h.2 x hx
    unfold letB at this
    have := of_decide_eq_true this
    simp at this
    omega
  have h4 : w.cps.all (· < 0x110000) = true := by
    rw [← Array.all_toList]
    exact List.all_eq_true.mpr fun x hx => decide_eq_true (h3 x hx)
  unfold SeqAt.shaped
  have e : (PyData.str w).canLay0 = true := by simpa [PyData.canLay0, PyData.strOk] using h4
  rw [e]
  rfl
theorem words_get {ws : List Str} {k : Nat} {e : D} (h : (ws.map PyData.str)[k]? = some e) : k < ws.length ∧ e = .str (wd ws k) := by
  rw [List.getElem?_map] at h
  by_cases hk : k < ws.length
  · rw [wd_get hk] at h
    cases h
    exact ⟨hk, rfl⟩
  · rw [List.getElem?_eq_none (by omega)] at h
    cases h
theorem okW.nm {ws : List Str} (h : okW ws) {k : Nat} (hk : k < ws.length) : nameS (wd ws k) = true := h.2 _ (List.mem_of_getElem? (wd_get hk))
theorem atI_range {g : Nat → D} {n : Nat} {j : Int} {i : Nat} (h : j = i) (hi : i < n) : atI ((List.range n).map g) j = some (g i) := by
  subst h
  unfold atI ixN
  rw [if_pos (by omega), List.length_map, List.length_range, if_pos (by omega)]
  show ((List.range n).map g)[((i : Nat) : Int).toNat]? = _
  rw [Int.toNat_natCast, List.getElem?_map, List.getElem?_range hi]
  rfl
theorem atI_last {g : Nat → D} {k : Nat} : atI ((List.range (k + 1)).map g) (-1) = some (g k) := by
  unfold atI ixN
  rw [if_neg (by omega), List.length_map, List.length_range, if_pos (by omega)]
  show ((List.range (k + 1)).map g)[((-1 : Int) + ((k + 1 : Nat) : Int)).toNat]? = _
  have e : ((-1 : Int) + ((k + 1 : Nat) : Int)).toNat = k := by omega
  rw [e, List.getElem?_map, List.getElem?_range (by omega)]
  rfl
theorem atI_words {ws : List Str} {j : Int} {i : Nat} (h : j = i) (hi : i < ws.length) : atI (ws.map PyData.str) j = some (.str (wd ws i)) := by
  subst h
  unfold atI ixN
  rw [if_pos (by omega), List.length_map, if_pos (by omega)]
  show (ws.map PyData.str)[((i : Nat) : Int).toNat]? = _
  rw [Int.toNat_natCast, List.getElem?_map, wd_get hi]
  rfl
theorem range_snoc {g : Nat → D} {n : Nat} : (List.range (n + 1)).map g = (List.range n).map g ++ [g n] := by rw [List.range_succ, List.map_append]; rfl
theorem noL_ints {f : Nat → Int} {n : Nat} : noLs ((List.range n).map fun j => PyData.int (f j)) = true := noLs_all fun d hd => by
  obtain ⟨j, _, rfl⟩ := List.mem_map.mp hd
  rfl
theorem noL_rows {R : Nat → Nat → Int} {n m : Nat} : noLs ((List.range n).map fun i => PyData.tuple ((List.range m).map fun j => .int (R i j))) = true := noLs_all fun d hd => by
  obtain ⟨j, _, rfl⟩ := List.mem_map.mp hd
  exact noL_ints
theorem noL_words {ws : List Str} : noLs (ws.map PyData.str) = true := noLs_all fun d hd => by
  obtain ⟨j, _, rfl⟩ := List.mem_map.mp hd
  rfl
section
variable {P : Program} {w : World} {K : PySem.W.Frag} {mg : Str → Option Value} {base : Heap}
abbrev s_cost_rows : Stmt := topS 35
abbrev N_cost_rows : List Str := ["prices", "one", "other", "left", "put", "otherwise", "place", "rows", "word", "above", "row", "goal", "along"]
theorem sc_cost_rows : FnScope N_cost_rows ["prices", "one", "other"] (defScope s_cost_rows) := ⟨rfl, rfl, rfl, by decide +kernel, rfl, by decide +kernel, by decide +kernel⟩
structure A3 where
  (p : PP) (one other : List Str)
def A3.l (a : A3) : List D := [a.p.d, wordsD a.one, wordsD a.other]
def A3.ok (a : A3) : Prop := okW a.one ∧ okW a.other
def A3.tab (a : A3) : D := K5.tab (C a.p.p2 a.p.p3 a.p.p4 a.one a.other) (a.one.length + 1) (a.other.length + 1)
abbrev spCost (K : PySem.W.Frag) : Sp := spR K A3.l A3.ok A3.tab
theorem first_row {p3 p2 p4 : Int} {one other : List Str} {n : Nat} : (((rangeD n).filter fun _ => true).map fun d => match d with | .int i => PyData.int (p3 * i) | _ => .none) = (List.range n).map fun j => PyData.int (C p2 p3 p4 one other 0 j) := by
  rw [List.filter_eq_self.mpr (fun _ _ => rfl)]
  unfold rangeD
  rw [List.map_map]
  refine List.map_congr_left fun j _ => ?_
  show PyData.int (p3 * (j : Int)) = .int (C p2 p3 p4 one other 0 j)
  simp [C]
theorem c_cost_rows (T : Txt w K mg) (d : DefAt K mg "cost_rows" s_cost_rows) : KCal P w K mg base CX0 1 "cost_rows" ["prices", "one", "other"] (spCost K) := by
  refine d.cal (fun _ _ _ _ _ _ us hl => match us, hl with | [_, _, _], _ => rfl) fun f fd F => F.ok sc_cost_rows (fun vs H Q E h => spr_len (fun _ => rfl) h) (fun cdv A outer s H vs Q E hr h => ?_)
  have hu := hr.units
  refine ⟨_, (pss_cons (ps_asg (pe_slice slU (pv 0) (po_some pe_int) (po_some pe_int)) (pg_tup rfl (pgs_cons (pg_name (i := 3) sc_cost_rows.nd rfl (Or.inl rfl)) (pgs_cons (pg_name (i := 4) sc_cost_rows.nd rfl (Or.inr rfl)) (pgs_cons (pg_name (i := 5) sc_cost_rows.nd rfl (Or.inl rfl)) pgs_nil)))))
  (pss_cons (ps_set (i := 7) sc_cost_rows.nd rfl (Or.inl rfl) (pe_lst (pa_cons (pe_callTy call_tuple_of (by rfl) T.n_tuple (by decide +kernel) (pa_cons (pe_lc (own := [("place", 6)]) rfl sc_cost_rows.nd (pi_range1 (by rfl) T.n_range (pa_cons (pe_op opAddU (pe_callB call_len (by rfl) T.n_len (by decide +kernel) (pa_cons (pv 2) pa_nil)) pe_int) pa_nil)) (blkOk_by (N := N_cost_rows) (sc := defScope s_cost_rows) (by decide +kernel)) (fun _ _ _ _ _ => (pg_name (i := 6) sc_cost_rows.nd rfl (Or.inl rfl))) (fun _ _ _ _ _ => pts_nil) (fun _ _ _ _ _ => (pe_op (show OpR _ _ (rMulU K) from opMulU) (pv 4) (pv 6)))) pa_nil)) pa_nil)))
  (pss_cons (ps_for PassesOwn.never rfl (pi_any (pv 1)) (pg_name (i := 8) sc_cost_rows.nd rfl (Or.inl rfl))
  (pss_cons (ps_par (i := 9) (j := 10) rfl sc_cost_rows.nd rfl rfl (by decide) rfl rfl (pa_cons (pe_ix ix_seq (pv 7) (pe_un un_neg pe_int) (fun _ _ => rfl)) (pa_cons (pe_lst (pa_cons (pe_op opAddU (pe_ix ix_seq (pe_ix ix_seq (pv 7) (pe_un un_neg pe_int) (fun _ _ => rfl)) pe_int (fun _ _ => rfl)) (pv 3)) pa_nil)) pa_nil)) (by rfl))
  (pss_cons (ps_for PassesOwn.never rfl (pi_enumU (by rfl) T.n_enumerate (pa_cons (pv 2) pa_nil)) (pg_tup rfl (pgs_cons (pg_name (i := 6) sc_cost_rows.nd rfl (Or.inl rfl)) (pgs_cons (pg_name (i := 11) sc_cost_rows.nd rfl (Or.inl rfl)) pgs_nil)))
  (pss_cons (ps_set (i := 12) sc_cost_rows.nd rfl (Or.inl rfl) (pe_op opAddU (pe_ix ix_seq (pv 9) (pv 6) (fun _ _ => rfl)) (pe_ifExp (pt_cmpR (op_eqD hu) (pv 8) (pv 11) (nomark _)) pe_int (pv 5))))
  (pss_one (ps_expr (pe_bm PySem.F.plainAttrs_list PySem.F.slot_list_append PySem.F.type_list_append mt_append (pv 10) (pa_cons (pe_callB (call_min3Nu rfl) (by rfl) T.n_min (by decide +kernel) (pa_cons (pv 12) (pa_cons (pe_op opAddU (pe_ix ix_seq (pv 9) (pe_op opAddU (pv 6) pe_int) (fun _ _ => rfl)) (pv 3)) (pa_cons (pe_op opAddU (pe_ix ix_seq (pv 10) (pv 6) (fun _ _ => rfl)) (pv 4)) pa_nil)))) pa_nil))))))
  (pss_one (ps_expr (pe_bm PySem.F.plainAttrs_list PySem.F.slot_list_append PySem.F.type_list_append mt_append (pv 7) (pa_cons (pe_callTy call_tuple_of (by rfl) T.n_tuple (by decide +kernel) (pa_cons (pv 10) pa_nil)) pa_nil)))))))
  (pss_one (ps_ret (pe_callTy call_tuple_of (by rfl) T.n_tuple (by decide +kernel) (pa_cons (pv 7) pa_nil))))))), ?_⟩
  obtain ⟨⟨⟨p0, p1, p2, p3, p4, p5⟩, one, other⟩, h1, ⟨ok1, ok2⟩, k⟩ := h
  obtain ⟨v0, d0, v1, d1, v2, d2, rfl, e, hd0, hd1, hd2⟩ := dps3 h1 rfl
  cases e
  have k' : ∀ u H', Same H H' → Dp K H' u (tab (C p2 p3 p4 one other) (one.length + 1) (other.length + 1)) → Q u H' := k
  have hd0 : Dp K H v0 (.tuple [.int p0, .int p1, .int p2, .int p3, .int p4, .int p5]) := hd0
  have hd1 : Dp K H v1 (.tuple (one.map .str)) := hd1
  have hd2 : Dp K H v2 (.tuple (other.map .str)) := hd2
  replace ok1 : okW one := ok1
  replace ok2 : okW other := ok2
  have hm : other.length ≤ 6 := ok2.1
  have hn : one.length ≤ 6 := ok1.1
  walk_at "NX"
  refine Ev.go (K := K) (c := .tuple [.int p2, .int p3, .int p4]) ?_ fun v H1 e1 dv => g_triple dv fun a b c da db dc => ?_
  · refine ev_is (d := .tuple (cutD [.int p0, .int p1, .int p2, .int p3, .int p4, .int p5] (some 2) (some 5))) ?_ rfl
    walk_at "EV"
  obtain rfl := dp_int da
  obtain rfl := dp_int db
  obtain rfl := dp_int dc
  walk_at "NX"
  refine s_new (K := K) (ds := [.tuple ((List.range (other.length + 1)).map fun j => .int (C p2 p3 p4 one other 0 j))]) ?_ (by show 1 ≤ 100000; decide) fun l xs H2 hl e2 el dxs => ?_
  · refine av_cons (ev_cb (d := .tuple ((List.range (other.length + 1)).map fun j => .int (C p2 p3 p4 one other 0 j))) (av_cons (ev_lc (d := .none) (ds := rangeD (other.length + 1)) (p := fun _ => true) (f := fun d => match d with | .int i => PyData.int (p3 * i) | _ => .none) ?_ ?_ ?_) av_nil) ?_) av_nil
    · have := yd_range (K := K) (s := (((L2.start N_cost_rows [v0, v1, v2]).set 3 (some (.int p2))).set 4 (some (.int p3))).set 5 (some (.int p4))) (H := H1) (ta := tCons (tOp (rAddU K) (tCB (fun xs H Q => ∃ x n, xs = [x] ∧ LenV K x H n ∧ Q (.int n) H) (tCons (tVar 2) tNil)) (tC (.int 1))) tNil) (j := ((other.map PyData.str).length : Int) + 1) (by
        have hs : sizedD (.tuple (other.map PyData.str)) := trivial
        exact av_cons (ev_op (ev_cb (av_cons (by walk_at "EV") av_nil) (rc_len hs)) ev_int rd_addI) av_nil) (by rw [List.length_map]; omega)
      have e : (((other.map PyData.str).length : Int) + 1).toNat = other.length + 1 := by rw [List.length_map]; omega
      rw [e] at this
      exact this
    · intro e he v2 H2 k2 dv R q
      obtain ⟨j, hj, rfl⟩ := List.mem_map.mp he
      refine q _ wipe1 (fun _ _ _ q => q _ (Same.refl _)) fun _ => ⟨?_, rfl⟩
      rw [List.mem_range] at hj
      have cm : CMul p3 (j : Int) := .inr (by omega)
      exact ev_op (by walk_at "EV") (by walk_at "EV") (rd_mul cm)
    · rw [rangeD_len]; omega
    · exact first_row ▸ rc_tupL
  walk_at "NX"
  have sH2 : Same H H2 := e1.trans e2
  have hl0 : H l = none := none_of e1 hl
  refine s_for (K := K) (d := .tuple (one.map .str)) (ds := one.map .str) (yd_any (by walk_at "EV") rfl) fun H3 w3 e3 dw3 => ⟨fun k σ Hc => ∃ o6 o8 o9 o10 o11 o12, σ = [some v0, some v1, some v2, some (.int p2), some (.int p3), some (.int p4), o6, some (.ref l), o8, o9, o10, o11, o12] ∧ Same H Hc ∧ Dp K Hc w3 (.tuple (one.map .str)) ∧ k ≤ 6 ∧
      ∃ xs, Hc l = some (.lst xs) ∧ DpAll K Hc xs ((List.range (k + 1)).map fun i => .tuple ((List.range (other.length + 1)).map fun j => .int (C p2 p3 p4 one other i j))), ?_, ?_, ?_, ?_, ?_⟩
  · rintro k σ Ha Hb sm ⟨o6, o8, o9, o10, o11, o12, rfl, q1, q2, qk, xs, q3, q4⟩
    exact ⟨o6, o8, o9, o10, o11, o12, rfl, q1.trans sm, dp_same sm q2, qk, xs, sm _ _ q3, dps_same sm q4⟩
  · rintro k σ Ha ⟨o6, o8, o9, o10, o11, o12, rfl, q1, q2, q3⟩
    exact q2
  · exact ⟨_, _, _, _, _, _, rfl, sH2.trans e3, dw3, by omega, xs, e3 _ _ el, dps_same e3 dxs⟩
  · rintro k e v σ Hc he ⟨o6, o8, o9, o10, o11, o12, rfl, q1, q2, qk, xs, q3, q4⟩ dv
    obtain ⟨hk, rfl⟩ := words_get he
    have a1 := atI_last (g := fun i => .tuple ((List.range (other.length + 1)).map fun j => .int (C p2 p3 p4 one other i j))) (k := k)
    have a2 : atI ((List.range (other.length + 1)).map fun j => PyData.int (C p2 p3 p4 one other k j)) 0 = some (.int (C p2 p3 p4 one other k 0)) := atI_range (i := 0) rfl (by omega)
    have dl : Dp K Hc (.ref l) (.list ((List.range (k + 1)).map fun i => .tuple ((List.range (other.length + 1)).map fun j => .int (C p2 p3 p4 one other i j)))) := .lst (SqL.of q3) q4
    walk_at "NX"
    refine s_parN (K := K) (c := .tuple ((List.range (other.length + 1)).map fun j => .int (C p2 p3 p4 one other k j))) (ds := [.int (C p2 p3 p4 one other k 0 + p2)]) (by walk_at "EV") (by walk_at "AV") (by show 1 ≤ 100000; decide) fun va r ys Hd hr0 e4 dva er dys => ?_
    have hrl : r ≠ l := fun z => by rw [z, q3] at hr0; cases hr0
    have hrH : H r = none := none_of q1 hr0
    have q14 : Same H Hd := q1.trans e4
    walk_at "NX"
    refine s_for (K := K) (d := .tuple (other.map .str)) (ds := enumD (other.map .str)) (yd_enum (by walk_at "AV") (.inr rfl)) fun H5 w5 e5 dw5 => ⟨fun t σ Hc => ∃ o6 o11 o12, σ = [some v0, some v1, some v2, some (.int p2), some (.int p3), some (.int p4), o6, some (.ref l), some v, some va, some (.ref r), o11, o12] ∧ Same H Hc ∧ Dp K Hc w3 (.tuple (one.map .str)) ∧ Dp K Hc w5 (.tuple (other.map .str)) ∧ t ≤ 6 ∧
        Dp K Hc va (.tuple ((List.range (other.length + 1)).map fun j => .int (C p2 p3 p4 one other k j))) ∧
        (∃ xs, Hc l = some (.lst xs) ∧ DpAll K Hc xs ((List.range (k + 1)).map fun i => .tuple ((List.range (other.length + 1)).map fun j => .int (C p2 p3 p4 one other i j)))) ∧
        ∃ ys, Hc r = some (.lst ys) ∧ DpAll K Hc ys ((List.range (t + 1)).map fun j => .int (C p2 p3 p4 one other (k + 1) j)), ?_, ?_, ?_, ?_, ?_⟩
    · rintro t σ Ha Hb sm ⟨o6, o11, o12, rfl, r1, r2, r3, rt, r4, ⟨xs, r5, r6⟩, ys, r7, r8⟩
      exact ⟨o6, o11, o12, rfl, r1.trans sm, dp_same sm r2, dp_same sm r3, rt, dp_same sm r4, ⟨xs, sm _ _ r5, dps_same sm r6⟩, ys, sm _ _ r7, dps_same sm r8⟩
    · rintro t σ Ha ⟨o6, o11, o12, rfl, r1, r2, r3, _⟩
      exact r3
    · refine ⟨_, _, _, rfl, q1.trans (e4.trans e5), dp_same (e4.trans e5) q2, dw5, by omega, dp_same e5 dva, ⟨xs, e5 _ _ (e4 _ _ q3), dps_same (e4.trans e5) q4⟩, ys, e5 _ _ er, ?_⟩
      have : C p2 p3 p4 one other (k + 1) 0 = C p2 p3 p4 one other k 0 + p2 := by simp [C]
      show DpAll K H5 ys [.int (C p2 p3 p4 one other (k + 1) 0)]
      rw [this]
      exact dps_same e5 dys
    · rintro t e vt σ Hc he ⟨o6, o11, o12, rfl, r1, r2, r3, rt, r4, ⟨xs, r5, r6⟩, ys, r7, r8⟩ dvt
      obtain ⟨d', hd', rfl⟩ := enumD_of he
      obtain ⟨ht, rfl⟩ := words_get hd'
      refine g_pair dvt fun vi vg di dg => ?_
      obtain rfl := dp_int di
      obtain rfl := dp_str dg
      have ev : v = .str (wd one k) := dp_str dv
      subst ev
      have b1 : atI ((List.range (other.length + 1)).map fun j => PyData.int (C p2 p3 p4 one other k j)) ((t : Nat) : Int) = some (.int (C p2 p3 p4 one other k t)) := atI_range (i := t) rfl (by omega)
      have b2 : atI ((List.range (other.length + 1)).map fun j => PyData.int (C p2 p3 p4 one other k j)) (((t : Nat) : Int) + 1) = some (.int (C p2 p3 p4 one other k (t + 1))) := atI_range (i := t + 1) rfl (by omega)
      have b3 : atI ((List.range (t + 1)).map fun j => PyData.int (C p2 p3 p4 one other (k + 1) j)) ((t : Nat) : Int) = some (.int (C p2 p3 p4 one other (k + 1) t)) := atI_range (i := t) rfl (by omega)
      have sh1 := (name_shape (ok1.nm hk)).1
      have sh2 := (name_shape (ok2.nm ht)).1
      walk_at "NX"
      refine s_asg (K := K) (d := .int (C p2 p3 p4 one other k t + al p4 one other k t)) (ev_op (by walk_at "EV") (ev_if (b := wd one k == wd other t) (d := .int (al p4 one other k t)) ?_ ?_ ?_) rd_addI) fun vl H6 e6 dvl => ?_
      · refine tv_is ?_ (eqv_strs (a := wd one k) (b := wd other t))
        walk_at "TV"
      · intro hb
        refine ev_is ev_int ?_
        unfold al
        rw [if_pos hb]
      · intro hb
        refine ev_is (d := .int p4) (by walk_at "EV") ?_
        unfold al
        rw [hb]
        rfl
      obtain rfl := dp_int dvl
      have dr : Dp K H6 (.ref r) (.list ((List.range (t + 1)).map fun j => .int (C p2 p3 p4 one other (k + 1) j))) := .lst (SqL.of (e6 _ _ r7)) (dps_same e6 r8)
      refine s_append (K := K) (i := 10) (l := r) (xs := ys) (d := .int (C p2 p3 p4 one other (k + 1) (t + 1))) rfl (e6 _ _ r7) (by rw [dps_len r8, List.length_map, List.length_range]; omega) ?_ fun vm H7 e7 dvm => ?_
      · have ce : C p2 p3 p4 one other (k + 1) (t + 1) = min2I (min2I (C p2 p3 p4 one other k t + al p4 one other k t) (C p2 p3 p4 one other k (t + 1) + p2)) (C p2 p3 p4 one other (k + 1) t + p3) := by
          conv => lhs; unfold C
        rw [ce]
        walk_at "EV"
      · have e67 := e6.trans e7
        have er7 : H7 r = some (.lst ys) := e67 _ _ r7
        refine ⟨_, _, _, rfl, Same.mut (r1.trans e67) hrH, dp_mutL er7 noL_words (dp_same e67 r2), dp_mutL er7 noL_words (dp_same e67 r3), by omega, dp_mutL er7 noL_ints (dp_same e67 r4), ⟨xs, ?_, dps_mutL er7 noL_rows (dps_same e67 r6)⟩, ys ++ [vm], upd_same, ?_⟩
        · rw [upd_ne hrl.symm]
          exact e67 _ _ r5
        · refine dps_mutL er7 noL_ints ?_
          rw [range_snoc]
          exact dps_app (dps_same e67 r8) (.cons dvm .nil)
    · rintro σ Hc ⟨o6, o11, o12, rfl, r1, r2, r3, rt, r4, ⟨xs, r5, r6⟩, ys, r7, r8⟩
      rw [enumD_len, List.length_map] at r8
      have dr : Dp K Hc (.ref r) (.list ((List.range (other.length + 1)).map fun j => .int (C p2 p3 p4 one other (k + 1) j))) := .lst (SqL.of r7) r8
      walk_at "NX"
      refine s_append (K := K) (i := 7) (l := l) (xs := xs) (d := .tuple ((List.range (other.length + 1)).map fun j => .int (C p2 p3 p4 one other (k + 1) j))) rfl r5 (by rw [dps_len r6, List.length_map, List.length_range]; omega) (by walk_at "EV") fun vm H7 e7 dvm => ?_
      have el7 : H7 l = some (.lst xs) := e7 _ _ r5
      refine ⟨_, _, _, _, _, _, rfl, Same.mut (r1.trans e7) hl0, dp_mutL el7 noL_words (dp_same e7 r2), by omega, xs ++ [vm], upd_same, ?_⟩
      refine dps_mutL el7 noL_rows ?_
      rw [range_snoc]
      exact dps_app (dps_same e7 r6) (.cons dvm .nil)
  · rintro σ Hc ⟨o6, o8, o9, o10, o11, o12, rfl, q1, q2, qk, xs, q3, q4⟩
    rw [List.length_map] at q4
    have dl : Dp K Hc (.ref l) (.list ((List.range (one.length + 1)).map fun i => .tuple ((List.range (other.length + 1)).map fun j => .int (C p2 p3 p4 one other i j)))) := .lst (SqL.of q3) q4
    walk_at "NX"
    refine s_ret (K := K) (by walk_at "EV") fun u H8 e8 du => k' u H8 (q1.trans e8) du
end
end K5
set_option Elab.async false
set_option linter.all false
set_option maxRecDepth 100000
set_option maxHeartbeats 4000000
/-! The walk back over the table; one's own steps. -/
namespace K5
open PySem L2 PySem.Spec PyProof.Rows
local macro_rules | `(tactic| walk_at "DP") => `(tactic| first | with_reducible assumption | with_reducible exact Dp.int _ | with_reducible exact Dp.str _ | with_reducible exact Dp.bl _ | with_reducible exact Dp.non | with_reducible exact dp_up (by assumption) (by assumption))
local macro_rules | `(tactic| walk_at "SH") => `(tactic| first | with_reducible assumption | rfl)
local macro_rules | `(tactic| walk_at "RD") => `(tactic| first | with_reducible assumption | exact rd_addI | exact rd_I0 fun _ => .int _ | exact rd_I0 fun _ => .bl _ | exact rd_ixL (by with_reducible assumption) | exact rd_ixT (by with_reducible assumption) | exact rd_ixS (by with_reducible assumption) (by with_reducible assumption) | exact rd_eqD (by walk_at "SH") (by walk_at "SH") | exact rd_neD (by walk_at "SH") (by walk_at "SH") | exact rd_inS | exact rd_notN | exact rd_isN | exact rd_addL (by with_reducible assumption) | exact rd_addT (by with_reducible assumption) | exact rd_addS (by with_reducible assumption))
local macro_rules | `(tactic| walk_at "OV") => `(tactic| first | with_reducible exact ov_no | ((with_reducible apply ov_some); walk_at "EV"))
local macro_rules | `(tactic| walk_at "AV") => `(tactic| first | with_reducible assumption | with_reducible exact av_nil | ((with_reducible apply av_cons); walk_at "EV"; walk_at "AV"))
local macro_rules | `(tactic| walk_at "RC") => `(tactic| first | with_reducible assumption | exact rc_len (by (first | with_reducible assumption | trivial)) | exact rc_tupL | exact rc_tupT | exact rc_lstL | exact rc_lstT | exact rc_all | exact rc_sum | exact rc_min2 | exact rc_min3)
local macro_rules | `(tactic| walk_at "KIT") => `(tactic| first | with_reducible exact kit_int _ | with_reducible exact kit_bool _ | with_reducible exact kit_str _ | with_reducible exact kit_tuple _)
local macro_rules | `(tactic| walk_at "EV") => `(tactic| first | with_reducible assumption | with_reducible exact ev_int | with_reducible exact ev_str | with_reducible exact ev_bl | with_reducible exact ev_non | ((with_reducible apply ev_var); exact sl_mk rfl (by walk_at "DP")) | ((with_reducible apply ev_op); walk_at "EV"; walk_at "EV"; walk_at "RD") | ((with_reducible apply ev_neg); walk_at "EV") | ((with_reducible apply ev_tup); walk_at "AV"; (first | (with_reducible assumption) | decide)) | ((with_reducible apply ev_lst); walk_at "AV"; (first | (with_reducible assumption) | decide)) | ((with_reducible apply ev_call); walk_at "AV"; with_reducible assumption) | ((with_reducible apply ev_isi2); exact rfl; walk_at "EV"; walk_at "KIT") | ((with_reducible apply ev_cb); walk_at "AV"; walk_at "RC") | ((with_reducible apply ev_chain); walk_at "EV"; walk_at "EV"; walk_at "RD"; intro _; walk_at "EV"; intro _; walk_at "RD") | ((with_reducible apply ev_andV); walk_at "EV"; intro _; walk_at "EV") | ((with_reducible apply ev_orV); walk_at "EV"; intro _; walk_at "EV") | ((with_reducible apply ev_notV); walk_at "EV") | ((with_reducible apply ev_sl2); exact rfl; walk_at "EV"; walk_at "OV"; walk_at "OV"; walk_at "SLD") | ((with_reducible apply ev_rev2); exact rfl; walk_at "EV"))
local macro_rules | `(tactic| walk_at "SLD") => `(tactic| first | with_reducible exact SlD.l | with_reducible exact SlD.t | with_reducible exact SlD.s (by with_reducible assumption))
local macro_rules | `(tactic| walk_at "TV") => `(tactic| first | with_reducible assumption | ((with_reducible apply tv_and); walk_at "TV"; intro _; walk_at "TV") | ((with_reducible apply tv_or); walk_at "TV"; intro _; walk_at "TV") | ((with_reducible apply tv_not); walk_at "TV") | ((with_reducible apply tv_B); walk_at "EV") | ((with_reducible apply tv_T); walk_at "EV"))
local macro_rules | `(tactic| walk_at "NX") => `(tactic| ((try dsimp only); (try with_reducible apply s_next); (try dsimp only); (try with_reducible apply s_seq)))

theorem s_while {K : PySem.W.Frag} {tt : TT} {tb : TS} {De : Ends} {s : L2.St} {H : Hp} (Pv : Nat → L2.St → Hp → Prop) (m0 : Nat) (h0 : Pv m0 s H)
    (step : ∀ m σ Hc, Pv m σ Hc → ∃ b, Tv K tt σ Hc b ∧ (b = true → ∀ H1, Same Hc H1 → tb { De with nx := fun σ' H' => ∃ m', m' < m ∧ Pv m' σ' H', ct := fun σ' H' => ∃ m', m' < m ∧ Pv m' σ' H', bk := De.nx } σ H1) ∧ (b = false → ∀ H1, Same Hc H1 → De.nx σ H1)) : tWhile tt tb De s H := by
  refine ⟨Pv, ⟨m0, h0⟩, fun m σ Hc p => ?_⟩
  obtain ⟨b, t, h1, h2⟩ := step m σ Hc p
  refine t Hc (Pr.refl _) _ fun H1 e1 => ?_
  cases b with
  | true =>
    rw [if_pos rfl]
    exact ⟨fun σ' H' => ∃ m', m' < m ∧ Pv m' σ' H', fun σ' H' q => q, h1 rfl H1 e1⟩
  | false =>
    rw [if_neg (by decide)]
    exact h2 rfl H1 e1
theorem s_appendR {K : PySem.W.Frag} {te : TE} {De : Ends} {s : L2.St} {H : Hp} {d : D} {i : Nat} {l : Addr} {xs : List V} (h0 : s[i]? = some (some (.ref l))) (hl : H l = some (.lst xs)) (hx : xs.length < 100000) (h : Ev K te s H d) (k : ∀ v H1, Same H H1 → Dp K H1 v d → De.nx s (upd H1 l (.lst (xs ++ [v])))) {K1 : PySem.W.Frag} (hk : K1 = K) :
    tDrop (tBM K1 "list" rAppend (tVar i) (tCons te tNil)) De s H := by
  subst hk
  exact s_append h0 hl hx h k
section
variable {p2 p3 p4 : Int} {one other : List Str}
def sameB (one other : List Str) (i j : Nat) : Bool := decide ((0 : Int) < (i : Nat)) && (decide ((0 : Int) < (j : Nat)) && (wd one (i - 1) == wd other (j - 1)))
def lg (p4 : Int) (one other : List Str) (i j : Nat) : Int := if sameB one other i j = true then 0 else p4
def diagB (p2 p3 p4 : Int) (one other : List Str) (i j : Nat) : Bool := decide ((0 : Int) < (i : Nat)) && (decide ((0 : Int) < (j : Nat)) && (C p2 p3 p4 one other i j == C p2 p3 p4 one other (i - 1) (j - 1) + lg p4 one other i j))
def upB (p2 p3 p4 : Int) (one other : List Str) (i j : Nat) : Bool := decide ((0 : Int) < (i : Nat)) && (C p2 p3 p4 one other i j == C p2 p3 p4 one other (i - 1) j + p2)
theorem back_diag {i j : Nat} (h : diagB p2 p3 p4 one other i j = true) : 0 < i ∧ 0 < j ∧ back p2 p3 p4 one other i j = (if sameB one other i j = true then .kept else .other (wd other (j - 1))) :: back p2 p3 p4 one other (i - 1) (j - 1) := by
  unfold diagB at h
  rw [Bool.and_eq_true, Bool.and_eq_true, decide_eq_true_eq, decide_eq_true_eq] at h
  obtain ⟨h1, h2, h3⟩ := h
  have h3 := eq_of_beq h3
  cases i with
  | zero => omega
  | succ i =>
    cases j with
    | zero => omega
    | succ j =>
      refine ⟨by omega, by omega, ?_⟩
      have es : sameB one other (i + 1) (j + 1) = (wd one i == wd other j) := by
        unfold sameB
        rw [decide_eq_true h1, decide_eq_true h2]
        rfl
      have el : lg p4 one other (i + 1) (j + 1) = al p4 one other i j := by
        unfold lg al
        rw [es]
      rw [el] at h3
      simp only [Nat.add_sub_cancel] at h3 ⊢
      rw [es]
      conv => lhs; unfold back
      rw [if_pos h3]
theorem back_up {i j : Nat} (h0 : diagB p2 p3 p4 one other i j = false) (h : upB p2 p3 p4 one other i j = true) : 0 < i ∧ back p2 p3 p4 one other i j = .left :: back p2 p3 p4 one other (i - 1) j := by
  unfold upB at h
  rw [Bool.and_eq_true, decide_eq_true_eq] at h
  obtain ⟨h1, h3⟩ := h
  have h3 := eq_of_beq h3
  cases i with
  | zero => omega
  | succ i =>
    refine ⟨by omega, ?_⟩
    simp only [Nat.add_sub_cancel] at h3 ⊢
    cases j with
    | zero => conv => lhs; unfold back
    | succ j =>
      have es : sameB one other (i + 1) (j + 1) = (wd one i == wd other j) := by
        unfold sameB
        rw [decide_eq_true h1, decide_eq_true (by omega)]
        rfl
      have el : lg p4 one other (i + 1) (j + 1) = al p4 one other i j := by
        unfold lg al
        rw [es]
      have n1 : ¬ C p2 p3 p4 one other (i + 1) (j + 1) = C p2 p3 p4 one other i j + al p4 one other i j := fun z => by
        unfold diagB at h0
        rw [el, decide_eq_true h1, decide_eq_true (by omega)] at h0
        simp only [Nat.add_sub_cancel] at h0
        rw [← z] at h0
        simp at h0
      conv => lhs; unfold back
      rw [if_neg n1, if_pos h3]
theorem back_put {i j : Nat} (hij : 0 < i + j) (h0 : diagB p2 p3 p4 one other i j = false) (h : upB p2 p3 p4 one other i j = false) : 0 < j ∧ back p2 p3 p4 one other i j = .put (wd other (j - 1)) :: back p2 p3 p4 one other i (j - 1) := by
  cases i with
  | zero =>
    cases j with
    | zero => omega
    | succ j =>
      refine ⟨by omega, ?_⟩
      simp only [Nat.add_sub_cancel]
      conv => lhs; unfold back
  | succ i =>
    have d1 : decide ((0 : Int) < ((i + 1 : Nat) : Int)) = true := decide_eq_true (by omega)
    cases j with
    | zero =>
      unfold upB at h
      have : C p2 p3 p4 one other (i + 1) 0 = C p2 p3 p4 one other i 0 + p2 := by simp [C]
      rw [d1, Nat.add_sub_cancel, this] at h
      simp at h
    | succ j =>
      refine ⟨by omega, ?_⟩
      have es : sameB one other (i + 1) (j + 1) = (wd one i == wd other j) := by
        unfold sameB
        rw [d1, decide_eq_true (by omega)]
        rfl
      have el : lg p4 one other (i + 1) (j + 1) = al p4 one other i j := by
        unfold lg al
        rw [es]
      have n1 : ¬ C p2 p3 p4 one other (i + 1) (j + 1) = C p2 p3 p4 one other i j + al p4 one other i j := fun z => by
        unfold diagB at h0
        rw [el, d1, decide_eq_true (by omega)] at h0
        simp only [Nat.add_sub_cancel] at h0
        rw [← z] at h0
        simp at h0
      have n2 : ¬ C p2 p3 p4 one other (i + 1) (j + 1) = C p2 p3 p4 one other i (j + 1) + p2 := fun z => by
        unfold upB at h
        rw [d1, Nat.add_sub_cancel, ← z] at h
        simp at h
      simp only [Nat.add_sub_cancel]
      conv => lhs; unfold back
      rw [if_neg n1, if_neg n2]
theorem noL_steps {ss : List Step} : noLs (ss.map stepD) = true := noLs_all fun d hd => by
  obtain ⟨s, _, rfl⟩ := List.mem_map.mp hd
  cases s <;> rfl
theorem atI_tab {R : Nat → Nat → Int} {n m i : Nat} {x : Int} (h : x = i) (hi : i < n) : atI ((List.range n).map fun i => PyData.tuple ((List.range m).map fun j => .int (R i j))) x = some (.tuple ((List.range m).map fun j => .int (R i j))) := atI_range h hi
theorem atI_row {R : Nat → Nat → Int} {m i j : Nat} {x : Int} (h : x = j) (hj : j < m) : atI ((List.range m).map fun j => PyData.int (R i j)) x = some (.int (R i j)) := atI_range h hj
end
section
variable {P : Program} {w : World} {K : PySem.W.Frag} {mg : Str → Option Value} {base : Heap}
abbrev s_steps_back : Stmt := topS 36
abbrev N_steps_back : List Str := ["prices", "one", "other", "rows", "at", "place", "found", "here", "is_same", "along"]
theorem sc_steps_back : FnScope N_steps_back ["prices", "one", "other", "rows"] (defScope s_steps_back) := ⟨rfl, rfl, rfl, by decide +kernel, rfl, by decide +kernel, by decide +kernel⟩
abbrev spBack (K : PySem.W.Frag) : Sp := spR K (fun a : A3 => a.l ++ [a.tab]) A3.ok fun a => .list ((back a.p.p2 a.p.p3 a.p.p4 a.one a.other a.one.length a.other.length).map stepD)
theorem c_steps_back (T : Txt w K mg) (d : DefAt K mg "steps_back" s_steps_back) : KCal P w K mg base CX0 1 "steps_back" ["prices", "one", "other", "rows"] (spBack K) := by
  refine d.cal (fun _ _ _ _ _ _ us hl => match us, hl with | [_, _, _, _], _ => rfl) fun f fd F => F.ok sc_steps_back (fun vs H Q E h => spr_len (fun _ => rfl) h) (fun cdv A outer s H vs Q E hr h => ?_)
  have hu := hr.units
  refine ⟨_, (pss_cons (ps_par3 (i := 4) (j := 5) (l := 6) rfl sc_steps_back.nd rfl rfl rfl (by decide) (by decide) (by decide) rfl rfl rfl (pa_cons (pe_callB call_len (by rfl) T.n_len (by decide +kernel) (pa_cons (pv 1) pa_nil)) (pa_cons (pe_callB call_len (by rfl) T.n_len (by decide +kernel) (pa_cons (pv 2) pa_nil)) (pa_cons (pe_lst pa_nil) pa_nil))) (by rfl))
  (pss_cons (ps_while PassesOwn.never (PW.pt (pw_or (pt_cmpR op_gt (pv 4) pe_int (nomark _)) (pw_or1 (pt_cmpR op_gt (pv 5) pe_int (nomark _)))))
  (pss_cons (ps_par (i := 7) (j := 8) rfl sc_steps_back.nd rfl rfl (by decide) rfl rfl (pa_cons (pe_ix ix_seq (pe_ix ix_seq (pv 3) (pv 4) (fun _ _ => rfl)) (pv 5) (fun _ _ => rfl)) (pa_cons (pe_and (pe_cmpR op_gt (pv 4) pe_int (nomark _)) (pe_and (pe_cmpR op_gt (pv 5) pe_int (nomark _)) (pe_one (pe_cmpR (op_eqD hu) (pe_ix ix_seq (pv 1) (pe_op op_sub (pv 4) pe_int) (fun _ _ => rfl)) (pe_ix ix_seq (pv 2) (pe_op op_sub (pv 5) pe_int) (fun _ _ => rfl)) (nomark _))))) pa_nil)) (by rfl))
  (pss_cons (ps_set (i := 9) sc_steps_back.nd rfl (Or.inl rfl) (pe_ifExp (pt_val (pv 8)) pe_int (pe_ix ix_seq (pv 0) pe_int (fun _ _ => rfl))))
  (pss_one (ps_if (PW.pt (pw_and (pt_cmpR op_gt (pv 4) pe_int (nomark _)) (pw_and (pt_cmpR op_gt (pv 5) pe_int (nomark _)) (pw_and1 (pt_cmpR (op_eqD hu) (pv 7) (pe_op opAddU (pe_ix ix_seq (pe_ix ix_seq (pv 3) (pe_op op_sub (pv 4) pe_int) (fun _ _ => rfl)) (pe_op op_sub (pv 5) pe_int) (fun _ _ => rfl)) (pv 9)) (nomark _)))))) (pss_cons (ps_expr (pe_bm PySem.F.plainAttrs_list PySem.F.slot_list_append PySem.F.type_list_append mt_append (pv 6) (pa_cons (pe_ifExp (pt_val (pv 8)) (pe_tup (pa_cons pe_str pa_nil)) (pe_tup (pa_cons pe_str (pa_cons (pe_ix ix_seq (pv 2) (pe_op op_sub (pv 5) pe_int) (fun _ _ => rfl)) pa_nil)))) pa_nil)))
  (pss_one (ps_par (i := 4) (j := 5) rfl sc_steps_back.nd rfl rfl (by decide) rfl rfl (pa_cons (pe_op op_sub (pv 4) pe_int) (pa_cons (pe_op op_sub (pv 5) pe_int) pa_nil)) (by rfl)))) (pss_one (ps_if (PW.pt (pw_and (pt_cmpR op_gt (pv 4) pe_int (nomark _)) (pw_and1 (pt_cmpR (op_eqD hu) (pv 7) (pe_op opAddU (pe_ix ix_seq (pe_ix ix_seq (pv 3) (pe_op op_sub (pv 4) pe_int) (fun _ _ => rfl)) (pv 5) (fun _ _ => rfl)) (pe_ix ix_seq (pv 0) pe_int (fun _ _ => rfl))) (nomark _))))) (pss_cons (ps_expr (pe_bm PySem.F.plainAttrs_list PySem.F.slot_list_append PySem.F.type_list_append mt_append (pv 6) (pa_cons (pe_tup (pa_cons pe_str pa_nil)) pa_nil)))
  (pss_one (ps_set (i := 4) sc_steps_back.nd rfl (Or.inl rfl) (pe_op op_sub (pv 4) pe_int)))) (pss_cons (ps_set (i := 5) sc_steps_back.nd rfl (Or.inl rfl) (pe_op op_sub (pv 5) pe_int))
  (pss_one (ps_expr (pe_bm PySem.F.plainAttrs_list PySem.F.slot_list_append PySem.F.type_list_append mt_append (pv 6) (pa_cons (pe_tup (pa_cons pe_str (pa_cons (pe_ix ix_seq (pv 2) (pv 5) (fun _ _ => rfl)) pa_nil))) pa_nil))))))))))))
  (pss_one (ps_ret (pv 6))))), ?_⟩
  obtain ⟨⟨⟨p0, p1, p2, p3, p4, p5⟩, one, other⟩, h1, ⟨ok1, ok2⟩, k⟩ := h
  obtain ⟨v0, d0, v1, d1, v2, d2, v3, d3, rfl, e, hd0, hd1, hd2, hd3⟩ := dps4 h1 rfl
  cases e
  replace k : ∀ u H', Same H H' → Dp K H' u (.list ((back p2 p3 p4 one other one.length other.length).map stepD)) → Q u H' := k
  replace hd0 : Dp K H v0 (.tuple [.int p0, .int p1, .int p2, .int p3, .int p4, .int p5]) := hd0
  replace hd1 : Dp K H v1 (.tuple (one.map .str)) := hd1
  replace hd2 : Dp K H v2 (.tuple (other.map .str)) := hd2
  replace hd3 : Dp K H v3 (.tuple ((List.range (one.length + 1)).map fun i => .tuple ((List.range (other.length + 1)).map fun j => .int (C p2 p3 p4 one other i j)))) := hd3
  replace ok1 : okW one := ok1
  replace ok2 : okW other := ok2
  have hm : other.length ≤ 6 := ok2.1
  have hn : one.length ≤ 6 := ok1.1
  have c2 : atI [PyData.int p0, .int p1, .int p2, .int p3, .int p4, .int p5] 2 = some (.int p2) := rfl
  have c4 : atI [PyData.int p0, .int p1, .int p2, .int p3, .int p4, .int p5] 4 = some (.int p4) := rfl
  have hs1 : sizedD (.tuple (one.map PyData.str)) := trivial
  have hs2 : sizedD (.tuple (other.map PyData.str)) := trivial
  have el1 : lenD (.tuple (one.map PyData.str)) = one.length := List.length_map _
  have el2 : lenD (.tuple (other.map PyData.str)) = other.length := List.length_map _
  walk_at "NX"
  refine s_par3N (K := K) (c := .int ((lenD (.tuple (one.map PyData.str)) : Nat) : Int)) (e := .int ((lenD (.tuple (other.map PyData.str)) : Nat) : Int)) (ds := []) (by walk_at "EV") (by walk_at "EV") (by walk_at "AV") (by show 0 ≤ 100000; decide) fun a b l xs H1 hl e1 da db el dxs => ?_
  rw [el1] at da
  rw [el2] at db
  obtain rfl := dp_int da
  obtain rfl := dp_int db
  walk_at "NX"
  refine s_while (K := K) (fun m σ Hc => ∃ (i j : Nat) (o7 o8 o9 : Option V), m = i + j ∧ i ≤ one.length ∧ j ≤ other.length ∧ σ = [some v0, some v1, some v2, some v3, some (.int i), some (.int j), some (.ref l), o7, o8, o9] ∧ Same H Hc ∧
      ∃ xs pre, Hc l = some (.lst xs) ∧ DpAll K Hc xs (pre.map stepD) ∧ pre.length + i + j ≤ 12 ∧ pre ++ back p2 p3 p4 one other i j = back p2 p3 p4 one other one.length other.length) (one.length + other.length) ⟨one.length, other.length, _, _, _, rfl, Nat.le_refl _, Nat.le_refl _, rfl, e1, xs, [], el, dxs, by rw [List.length_nil]; omega, rfl⟩ ?_
  rintro m σ Hc ⟨i, j, o7, o8, o9, rfl, hi, hj, rfl, q1, xs, pre, q2, q3, q4, q5⟩
  refine ⟨_, by walk_at "TV", fun hb H2 e2 => ?_, fun hb H2 e2 => ?_⟩
  · have hij : 0 < i + j := by
      rw [Bool.or_eq_true, decide_eq_true_eq, decide_eq_true_eq] at hb
      omega
    have s2 := q1.trans e2
    have x1 := atI_tab (R := C p2 p3 p4 one other) (m := other.length + 1) (n := one.length + 1) (x := i) (i := i) rfl (by omega)
    have x2 := atI_row (R := C p2 p3 p4 one other) (m := other.length + 1) (i := i) (x := j) (j := j) rfl (by omega)
    walk_at "NX"
    refine s_par (K := K) (d := .int (C p2 p3 p4 one other i j)) (e := .bool (sameB one other i j)) (av_cons (by walk_at "EV") (av_cons ?_ av_nil)) fun va vb H3 e3 dva dvb => ?_
    · refine ev_andV (by walk_at "EV") fun h1 => ev_andV (by walk_at "EV") fun h2 => ?_
      rw [decide_eq_true_eq] at h1 h2
      have y1 := atI_words (ws := one) (j := (i : Int) - 1) (i := i - 1) (by omega) (by omega)
      have y2 := atI_words (ws := other) (j := (j : Int) - 1) (i := j - 1) (by omega) (by omega)
      have sh1 := (name_shape (ok1.nm (k := i - 1) (by omega))).1
      have sh2 := (name_shape (ok2.nm (k := j - 1) (by omega))).1
      refine ev_is ?_ (congrArg PyData.bool (eqv_strs (a := wd one (i - 1)) (b := wd other (j - 1))))
      walk_at "EV"
    obtain rfl := dp_int dva
    obtain rfl := dp_bool dvb
    have s3 := s2.trans e3
    walk_at "NX"
    refine s_asg (K := K) (d := .int (lg p4 one other i j)) (ev_if (b := sameB one other i j) (by walk_at "TV") (fun h => ?_) fun h => ?_) fun vc H4 e4 dvc => ?_
    · refine ev_is ev_int ?_
      unfold lg
      rw [if_pos h]
    · refine ev_is (d := .int p4) (by walk_at "EV") ?_
      unfold lg
      rw [h]
      rfl
    obtain rfl := dp_int dvc
    have s4 := s3.trans e4
    have l4 : H4 l = some (.lst xs) := e4 _ _ (e3 _ _ (e2 _ _ q2))
    have hl0 := hl
    have r4 := dps_same (e2.trans (e3.trans e4)) q3
    have hx : xs.length < 100000 := by
      have := dps_len q3
      rw [List.length_map] at this
      omega
    try dsimp only
    refine s_if (K := K) (b := diagB p2 p3 p4 one other i j) ?_ (fun hb H5 e5 => ?_) fun hb H5 e5 => ?_
    · refine tv_and (by walk_at "TV") fun h1 => tv_and (by walk_at "TV") fun h2 => ?_
      rw [decide_eq_true_eq] at h1 h2
      have z1 := atI_tab (R := C p2 p3 p4 one other) (m := other.length + 1) (n := one.length + 1) (x := (i : Int) - 1) (i := i - 1) (by omega) (by omega)
      have z2 := atI_row (R := C p2 p3 p4 one other) (m := other.length + 1) (i := i - 1) (x := (j : Int) - 1) (j := j - 1) (by omega) (by omega)
      refine tv_is ?_ (eqv_ints (a := C p2 p3 p4 one other i j) (b := C p2 p3 p4 one other (i - 1) (j - 1) + lg p4 one other i j))
      walk_at "TV"
    · obtain ⟨g1, g2, g3⟩ := back_diag hb
      have s5 := s4.trans e5
      have y2 := atI_words (ws := other) (j := (j : Int) - 1) (i := j - 1) (by omega) (by omega)
      have l5 : H5 l = some (.lst xs) := e5 _ _ l4
      walk_at "NX"
      refine s_appendR (K := K) (i := 6) (l := l) (xs := xs) (d := stepD (if sameB one other i j = true then .kept else .other (wd other (j - 1)))) rfl l5 hx (ev_if (b := sameB one other i j) (by walk_at "TV") (fun h => ?_) fun h => ?_) (fun vm H6 e6 dvm => ?_) rfl
      · rw [if_pos h]
        exact ev_tup (by walk_at "AV") (by show 1 ≤ 100000; decide)
      · rw [h, if_neg (by decide)]
        exact ev_tup (by walk_at "AV") (by show 2 ≤ 100000; decide)
      have l6 : H6 l = some (.lst xs) := e6 _ _ l5
      try dsimp only
      refine s_par (K := K) (d := .int ((i : Int) - 1)) (e := .int ((j : Int) - 1)) (by walk_at "AV") fun va vb H7 e7 dva dvb => ?_
      have ei : (i : Int) - 1 = ((i - 1 : Nat) : Int) := by omega
      have ej : (j : Int) - 1 = ((j - 1 : Nat) : Int) := by omega
      rw [ei] at dva
      rw [ej] at dvb
      obtain rfl := dp_int dva
      obtain rfl := dp_int dvb
      refine ⟨(i - 1) + (j - 1), by omega, i - 1, j - 1, _, _, _, rfl, by omega, by omega, rfl, (Same.mut (s5.trans e6) hl0).trans e7, xs ++ [vm], pre ++ [if sameB one other i j = true then .kept else .other (wd other (j - 1))], e7 _ _ upd_same, ?_, by rw [List.length_append, List.length_singleton]; omega, ?_⟩
      · refine dps_same e7 (dps_mutL l6 noL_steps ?_)
        rw [List.map_append]
        exact dps_app (dps_same (e5.trans e6) r4) (.cons dvm .nil)
      · rw [List.append_assoc, ← q5, g3]
        rfl
    · try dsimp only
      refine s_if (K := K) (b := upB p2 p3 p4 one other i j) ?_ (fun hb2 H6 e6 => ?_) fun hb2 H6 e6 => ?_
      · refine tv_and (by walk_at "TV") fun h1 => ?_
        rw [decide_eq_true_eq] at h1
        have s5 := s4.trans e5
        have z1 := atI_tab (R := C p2 p3 p4 one other) (m := other.length + 1) (n := one.length + 1) (x := (i : Int) - 1) (i := i - 1) (by omega) (by omega)
        have z2 := atI_row (R := C p2 p3 p4 one other) (m := other.length + 1) (i := i - 1) (x := (j : Int)) (j := j) rfl (by omega)
        refine tv_is ?_ (eqv_ints (a := C p2 p3 p4 one other i j) (b := C p2 p3 p4 one other (i - 1) j + p2))
        walk_at "TV"
      · obtain ⟨g1, g3⟩ := back_up hb hb2
        have s6 := s4.trans (e5.trans e6)
        have l6 : H6 l = some (.lst xs) := e6 _ _ (e5 _ _ l4)
        walk_at "NX"
        refine s_appendR (K := K) (i := 6) (l := l) (xs := xs) (d := stepD .left) rfl l6 hx (ev_tup (by walk_at "AV") (by show 1 ≤ 100000; decide)) (fun vm H7 e7 dvm => ?_) rfl
        have l7 : H7 l = some (.lst xs) := e7 _ _ l6
        try dsimp only
        refine s_asg (K := K) (d := .int ((i : Int) - 1)) (by walk_at "EV") fun va H8 e8 dva => ?_
        have ei : (i : Int) - 1 = ((i - 1 : Nat) : Int) := by omega
        rw [ei] at dva
        obtain rfl := dp_int dva
        refine ⟨(i - 1) + j, by omega, i - 1, j, _, _, _, rfl, by omega, by omega, rfl, (Same.mut (s6.trans e7) hl0).trans e8, xs ++ [vm], pre ++ [.left], e8 _ _ upd_same, ?_, by rw [List.length_append, List.length_singleton]; omega, ?_⟩
        · refine dps_same e8 (dps_mutL l7 noL_steps ?_)
          rw [List.map_append]
          exact dps_app (dps_same (e5.trans (e6.trans e7)) r4) (.cons dvm .nil)
        · rw [List.append_assoc, ← q5, g3]
          rfl
      · obtain ⟨g1, g3⟩ := back_put hij hb hb2
        have s6 := s4.trans (e5.trans e6)
        have l6 : H6 l = some (.lst xs) := e6 _ _ (e5 _ _ l4)
        walk_at "NX"
        refine s_asg (K := K) (d := .int ((j : Int) - 1)) (by walk_at "EV") fun va H7 e7 dva => ?_
        have ej : (j : Int) - 1 = ((j - 1 : Nat) : Int) := by omega
        rw [ej] at dva
        obtain rfl := dp_int dva
        have s7 := s6.trans e7
        have l7 : H7 l = some (.lst xs) := e7 _ _ l6
        have y2 := atI_words (ws := other) (j := ((j - 1 : Nat) : Int)) (i := j - 1) rfl (by omega)
        try dsimp only
        refine s_appendR (K := K) (i := 6) (l := l) (xs := xs) (d := stepD (.put (wd other (j - 1)))) rfl l7 hx (ev_tup (by walk_at "AV") (by show 2 ≤ 100000; decide)) (fun vm H8 e8 dvm => ?_) rfl
        have l8 : H8 l = some (.lst xs) := e8 _ _ l7
        refine ⟨i + (j - 1), by omega, i, j - 1, _, _, _, rfl, by omega, by omega, rfl, Same.mut (s7.trans e8) hl0, xs ++ [vm], pre ++ [.put (wd other (j - 1))], upd_same, ?_, by rw [List.length_append, List.length_singleton]; omega, ?_⟩
        · refine dps_mutL l8 noL_steps ?_
          rw [List.map_append]
          exact dps_app (dps_same (e5.trans (e6.trans (e7.trans e8))) r4) (.cons dvm .nil)
        · rw [List.append_assoc, ← q5, g3]
          rfl
  · have hij : i = 0 ∧ j = 0 := by
      rw [Bool.or_eq_false_iff, decide_eq_false_iff_not, decide_eq_false_iff_not] at hb
      omega
    obtain ⟨rfl, rfl⟩ := hij
    have e0 : back p2 p3 p4 one other 0 0 = [] := by simp [back]
    rw [e0, List.append_nil] at q5
    subst q5
    try dsimp only
    refine s_ret (K := K) (d := .list ((back p2 p3 p4 one other one.length other.length).map stepD)) (ev_var ⟨.ref l, rfl, .lst (SqL.of (e2 _ _ q2)) (dps_same e2 q3)⟩) fun u H8 e8 du => k u H8 (q1.trans (e2.trans e8)) du

abbrev s_own_steps : Stmt := topS 37
abbrev N_own_steps : List Str := ["prices", "one", "other"]
theorem sc_own_steps : FnScope N_own_steps ["prices", "one", "other"] (defScope s_own_steps) := ⟨rfl, rfl, rfl, by decide +kernel, rfl, by decide +kernel, by decide +kernel⟩
abbrev spOwn (K : PySem.W.Frag) : Sp := spR K A3.l A3.ok fun a => ownSteps a.p.p2 a.p.p3 a.p.p4 a.one a.other
theorem c_own_steps (T : Txt w K mg) (d : DefAt K mg "own_steps" s_own_steps) (G_cost_rows : KCal P w K mg base CX0 1 "cost_rows" ["prices", "one", "other"] (spCost K)) (G_steps_back : KCal P w K mg base CX0 1 "steps_back" ["prices", "one", "other", "rows"] (spBack K)) : KCal P w K mg base CX0 2 "own_steps" ["prices", "one", "other"] (spOwn K) := by
  refine d.cal (fun _ _ _ _ _ _ us hl => match us, hl with | [_, _, _], _ => rfl) fun f fd F => F.ok sc_own_steps (fun vs H Q E h => spr_len (fun _ => rfl) h) (fun cdv A outer s H vs Q E hr h => ?_)
  refine ⟨_, (pss_one (ps_ret (pe_callTy call_tuple_of (by rfl) T.n_tuple (by decide +kernel) (pa_cons (pe_revL (pc0 G_steps_back hr (by decide) (by rfl) (pa_cons (pv 0) (pa_cons (pv 1) (pa_cons (pv 2) (pa_cons (pc0 G_cost_rows hr (by decide) (by rfl) (pa_cons (pv 0) (pa_cons (pv 1) (pa_cons (pv 2) pa_nil)))) pa_nil)))))) pa_nil)))), ?_⟩
  obtain ⟨a, h1, ok, k⟩ := h
  obtain ⟨v0, d0, v1, d1, v2, d2, rfl, e, hd0, hd1, hd2⟩ := dps3 h1 rfl
  cases e
  have c1 : SpD K (spCost K) H [a.p.d, wordsD a.one, wordsD a.other] a.tab := spr_of a ok
  have c2 : SpD K (spBack K) H [a.p.d, wordsD a.one, wordsD a.other, a.tab] (.list ((back a.p.p2 a.p.p3 a.p.p4 a.one a.other a.one.length a.other.length).map stepD)) := spr_of a ok
  refine s_ret (K := K) (d := .tuple ((back a.p.p2 a.p.p3 a.p.p4 a.one a.other a.one.length a.other.length).map stepD).reverse) (by walk_at "EV") fun u H1 e1 du => k u H1 e1 ?_
  rw [← List.map_reverse] at du
  exact du
end
end K5
set_option Elab.async false
set_option linter.all false
set_option maxRecDepth 100000
set_option maxHeartbeats 4000000
/-! Steps, rows, limits: the checks of a paper. -/
namespace K5
open PySem L2 PySem.Spec PyProof.Rows
local macro_rules | `(tactic| walk_at "DP") => `(tactic| first | with_reducible assumption | with_reducible exact Dp.int _ | with_reducible exact Dp.str _ | with_reducible exact Dp.bl _ | with_reducible exact Dp.non | with_reducible exact dp_up (by assumption) (by assumption))
local macro_rules | `(tactic| walk_at "SH") => `(tactic| first | with_reducible assumption | rfl)
local macro_rules | `(tactic| walk_at "RD") => `(tactic| first | with_reducible assumption | exact rd_addI | exact rd_I0 fun _ => .int _ | exact rd_I0 fun _ => .bl _ | exact rd_ixL (by with_reducible assumption) | exact rd_ixT (by with_reducible assumption) | exact rd_ixS (by with_reducible assumption) (by with_reducible assumption) | exact rd_eqD (by walk_at "SH") (by walk_at "SH") | exact rd_neD (by walk_at "SH") (by walk_at "SH") | exact rd_inS | exact rd_notN | exact rd_isN | exact rd_addL (by with_reducible assumption) | exact rd_addT (by with_reducible assumption) | exact rd_addS (by with_reducible assumption))
local macro_rules | `(tactic| walk_at "OV") => `(tactic| first | with_reducible exact ov_no | ((with_reducible apply ov_some); walk_at "EV"))
local macro_rules | `(tactic| walk_at "AV") => `(tactic| first | with_reducible assumption | with_reducible exact av_nil | ((with_reducible apply av_cons); walk_at "EV"; walk_at "AV"))
local macro_rules | `(tactic| walk_at "RC") => `(tactic| first | with_reducible assumption | exact rc_len (by (first | with_reducible assumption | trivial)) | exact rc_tupL | exact rc_tupT | exact rc_lstL | exact rc_lstT | exact rc_all | exact rc_sum | exact rc_min2 | exact rc_min3)
local macro_rules | `(tactic| walk_at "KIT") => `(tactic| first | with_reducible exact kit_int _ | with_reducible exact kit_bool _ | with_reducible exact kit_str _ | with_reducible exact kit_tuple _)
local macro_rules | `(tactic| walk_at "EV") => `(tactic| first | with_reducible assumption | with_reducible exact ev_int | with_reducible exact ev_str | with_reducible exact ev_bl | with_reducible exact ev_non | ((with_reducible apply ev_var); exact sl_mk rfl (by walk_at "DP")) | ((with_reducible apply ev_op); walk_at "EV"; walk_at "EV"; walk_at "RD") | ((with_reducible apply ev_neg); walk_at "EV") | ((with_reducible apply ev_tup); walk_at "AV"; (first | (with_reducible assumption) | decide)) | ((with_reducible apply ev_lst); walk_at "AV"; (first | (with_reducible assumption) | decide)) | ((with_reducible apply ev_call); walk_at "AV"; with_reducible assumption) | ((with_reducible apply ev_isi2); exact rfl; walk_at "EV"; walk_at "KIT") | ((with_reducible apply ev_cb); walk_at "AV"; walk_at "RC") | ((with_reducible apply ev_chain); walk_at "EV"; walk_at "EV"; walk_at "RD"; intro _; walk_at "EV"; intro _; walk_at "RD") | ((with_reducible apply ev_andV); walk_at "EV"; intro _; walk_at "EV") | ((with_reducible apply ev_orV); walk_at "EV"; intro _; walk_at "EV") | ((with_reducible apply ev_notV); walk_at "EV") | ((with_reducible apply ev_sl2); exact rfl; walk_at "EV"; walk_at "OV"; walk_at "OV"; walk_at "SLD") | ((with_reducible apply ev_rev2); exact rfl; walk_at "EV"))
local macro_rules | `(tactic| walk_at "SLD") => `(tactic| first | with_reducible exact SlD.l | with_reducible exact SlD.t | with_reducible exact SlD.s (by with_reducible assumption))
local macro_rules | `(tactic| walk_at "TV") => `(tactic| first | with_reducible assumption | ((with_reducible apply tv_and); walk_at "TV"; intro _; walk_at "TV") | ((with_reducible apply tv_or); walk_at "TV"; intro _; walk_at "TV") | ((with_reducible apply tv_not); walk_at "TV") | ((with_reducible apply tv_B); walk_at "EV") | ((with_reducible apply tv_T); walk_at "EV"))
local macro_rules | `(tactic| walk_at "NX") => `(tactic| ((try dsimp only); (try with_reducible apply s_next); (try dsimp only); (try with_reducible apply s_seq)))

/-! ### min(xs, default=d) of ints -/
section
variable {prog : Program} {w : World} {A : Around} {E : Value → Shared → Prop} {s : Shared} {l : Addr} {its : List Value} {ns : List Int} {d : Value} {Q : Value → Shared → Prop}
theorem min_rawD (hh : A.handled = none) (hl : s.heap.IsList l its.toArray) (hi : IntsAre its ns)
    (h0 : ns = [] → ∀ h' tk, (∀ b o, s.heap.get? b = some o → h'.get? b = some o) → Q d { s with heap := h', toks := tk })
    (h : ∀ h' tk M t', (∀ b o, s.heap.get? b = some o → h'.get? b = some o) → M ∈ ns → (∀ a, a ∈ ns → M ≤ a) → Q (.int M t') { s with heap := h', toks := tk }) : wpAny (model prog w) A (call (.builtin "min") [.ref l] [(Str.ofString "default", d)]) Q E s := by
  obtain ⟨xs, e⟩ := hi.allInts.items
  have hn : numsOf (intItems xs).toList = ns := by rw [← e]; exact hi.numsOf
  rw [nums_intItems] at hn
  subst hn
  rw [e] at hl
  refine call_min_walkD (PySem.W.iter_listW (A := A.in1) hh hl fun s₂ e W st hfp hw hk => ?_)
  have hz : (intItems xs).size = xs.size := by simp [intItems]
  refine ⟨_, _, _, _, _, _, _, s.heap, (fun i j => decide (numAt xs i < numAt xs j)), rfl, W, st, hfp, hw, hk, fun hz0 s' m => ?_, fun hp => ⟨fun i j vi vj s' Q E _ hi hj hq => CmpOf.ints_lt (numAt xs) (fun _ _ => intItems_at) i j vi vj s' Q E hi hj hq, fun v s' hP m => ?_⟩⟩
  · obtain ⟨h', tk, rfl, hk'⟩ := PySem.W.moved_old e rfl m
    exact h0 (List.eq_nil_of_length_eq_zero (by rw [List.length_map, Array.length_toList]; omega)) h' tk hk'
  · obtain ⟨h', tk, rfl, hk'⟩ := PySem.W.moved_old e rfl m
    obtain ⟨t, rfl⟩ := intItems_at hP
    rw [hz] at hp hP ⊢
    obtain ⟨h1, h2⟩ := argBest_lt (numAt xs) (xs.size - 1)
    refine h h' tk _ t hk' ?_ fun a ha => ?_
    · rw [numAt_eq]; exact PySem.getD_mem (by rw [List.length_map, Array.length_toList]; omega)
    · obtain ⟨j, hj, rfl⟩ := mem_getD ha
      rw [List.length_map, Array.length_toList] at hj
      rw [← numAt_eq]; exact h2 j (by omega)
end
def rMinD (K : PySem.W.Frag) : List V → List V → Hp → VK → Prop := fun vs zs H Q => ∃ (a : Addr) (ns : List Int) (d : Int), vs = [V.ref a] ∧ zs = [.int d] ∧ SqL K H a (ns.map V.int) ∧ (ns = [] → Q (.int d) H) ∧ ∀ m, m ∈ ns → (∀ y, y ∈ ns → m ≤ y) → Q (.int m) H
theorem call_minDef {X : Cx} (hc : X.calm = true) : CallRK X (.builtin "min") [Str.ofString "default"] (rMinD X.K) := by
  intro pins s σ H xs zs us ws Q I r1 r2 h
  obtain ⟨a, ns, d, rfl, rfl, hs, q0, q⟩ := h
  obtain ⟨its, rv, hl, _⟩ := I.list hs
  rw [Vals.ref1 r1]
  cases r2 with
  | cons r2 rr =>
    cases rr
    obtain ⟨t, rfl⟩ := r2
    exact min_rawD (I.ok.hd hc) hl.isList rv.ints (fun e h' tk hk => ⟨.int d, H, I.kept hk, ⟨_, rfl⟩, q0 e⟩) fun h' tk m t' hk h1 h2 => ⟨.int _, H, I.kept hk, ⟨_, rfl⟩, q m h1 h2⟩
def lmin (d : Int) : List Int → Int
  | [] => d
  | n :: ns => min n (lmin n ns)
theorem lmin_mem : ∀ {d : Int} {ns : List Int}, lmin d ns = d ∨ lmin d ns ∈ ns
  | _, [] => .inl rfl
  | d, n :: ns => by
    show min n (lmin n ns) = d ∨ min n (lmin n ns) ∈ n :: ns
    rcases Int.min_def n (lmin n ns) ▸ (by split <;> simp : (if n ≤ lmin n ns then n else lmin n ns) = n ∨ (if n ≤ lmin n ns then n else lmin n ns) = lmin n ns) with h | h
    · rw [h]; exact .inr List.mem_cons_self
    · rw [h]
      rcases lmin_mem (d := n) (ns := ns) with h2 | h2
      · rw [h2]; exact .inr List.mem_cons_self
      · exact .inr (List.mem_cons_of_mem _ h2)
theorem lmin_le : ∀ {d : Int} {ns : List Int} {y : Int}, y ∈ ns → lmin d ns ≤ y
  | _, [], _, h => absurd h List.not_mem_nil
  | d, n :: ns, y, h => by
    show min n (lmin n ns) ≤ y
    rcases List.mem_cons.mp h with rfl | h
    · omega
    · have := lmin_le (d := n) h
      omega
theorem lmin_lt {d : Int} {ns : List Int} : decide (lmin d ns < d) = ns.any fun y => decide (y < d) := by
  cases e : ns.any fun y => decide (y < d) with
  | true =>
    obtain ⟨y, h1, h2⟩ := List.any_eq_true.mp e
    have := lmin_le (d := d) h1
    rw [decide_eq_true_eq] at h2
    exact decide_eq_true (by omega)
  | false =>
    refine decide_eq_false fun z => ?_
    rcases lmin_mem (d := d) (ns := ns) with h | h
    · omega
    · have := List.any_eq_false.mp e _ h
      simp only [decide_eq_true_eq] at this
      exact this z
theorem ev_min {K : PySem.W.Frag} {s : L2.St} {H : Hp} {ta tk : TA} {ns : List Int} {d : Int} {r : List V → List V → Hp → VK → Prop} (hr : r = rMinD K) (h : Av K ta s H [.list (ns.map .int)]) (h2 : Av K tk s H [.int d]) : Ev K (tCKw r ta tk) s H (.int (lmin d ns)) := fun H1 k Q q => by
  subst hr
  refine h H1 k _ fun vs H2 k2 dvs => h2 H2 (k.s k2) _ fun zs H3 k3 dzs => ?_
  obtain ⟨v, d1, rfl, e, hv⟩ := dps1 dvs rfl
  cases e
  obtain ⟨z, d2, rfl, e, hz⟩ := dps1 dzs rfl
  cases e
  obtain ⟨a, us, rfl, e1, r1⟩ := dp_lst (dp_same k3 hv)
  have e2 := dps_ints r1
  subst e2
  refine ⟨a, ns, d, rfl, by rw [dp_int hz], e1, fun e => ?_, fun m hm hy => ?_⟩
  · subst e
    exact q _ H3 (k2.trans k3) (.int _)
  · have : lmin d ns = m := by
      cases ns with
      | nil => exact absurd hm List.not_mem_nil
      | cons n ns =>
        have h1 := lmin_le (d := d) hm
        have h3 : m ≤ lmin d (n :: ns) := by
          show m ≤ min n (lmin n ns)
          rcases lmin_mem (d := n) (ns := ns) with h | h
          · rw [h]; have := hy n List.mem_cons_self; omega
          · have h4 := hy n List.mem_cons_self
            have h5 := hy _ (List.mem_cons_of_mem _ h)
            omega
        omega
    subst this
    exact q _ H3 (k2.trans k3) (.int _)

theorem len_tup (xs : List D) : lenD (.tuple xs) = xs.length := rfl
section
variable {P : Program} {w : World} {K : PySem.W.Frag} {mg : Str → Option Value} {base : Heap}
theorem spd_isName {H : Hp} {d : D} (h : strShort d) : SpD K (spIsName K) H [d] (.bool (nameD d)) := spr_of d h
theorem short_of {n : Nat} {d : D} (h : gdn n d = true) : strShort d := by
  cases d with
  | str z => exact Nat.le_trans (gdn_short h) (by decide)
  | _ => trivial
abbrev s_is_step : Stmt := topS 38
abbrev N_is_step : List Str := ["thing"]
theorem sc_is_step : FnScope N_is_step ["thing"] (defScope s_is_step) := ⟨rfl, rfl, rfl, by decide +kernel, rfl, by decide +kernel, by decide +kernel⟩
abbrev spIsStep (K : PySem.W.Frag) : Sp := spR K (fun a : D => [a]) (fun d => gdn 6 d = true) fun a => .bool (decS a).isSome
theorem dec1 {k : D} : (decS (.tuple [k])).isSome = (PyData.eqv k (.str "kept") || PyData.eqv k (.str "left")) := by
  unfold decS
  cases h1 : PyData.eqv k (.str "kept") <;> cases h2 : PyData.eqv k (.str "left") <;> simp [h1, h2]
theorem dec2 {k w : D} : (decS (.tuple [k, w])).isSome = ((PyData.eqv k (.str "other") || PyData.eqv k (.str "put")) && nameD w) := by
  unfold decS
  cases w with
  | str z =>
    cases h0 : nameD (.str z) <;> cases h1 : PyData.eqv k (.str "other") <;> cases h2 : PyData.eqv k (.str "put") <;> simp [h1, h2, h0]
  | _ => simp [nameD]
theorem sh_kept : SeqAt.shaped (.str "kept") = true := by decide +kernel
theorem sh_left : SeqAt.shaped (.str "left") = true := by decide +kernel
theorem sh_put : SeqAt.shaped (.str "put") = true := by decide +kernel
theorem sh_other : SeqAt.shaped (.str "other") = true := by decide +kernel
theorem c_is_step (T : Txt w K mg) (d : DefAt K mg "is_step" s_is_step) (G_is_name : KCal P w K mg base CX0 1 "is_name" ["thing"] (spIsName K)) : KCal P w K mg base CX0 2 "is_step" ["thing"] (spIsStep K) := by
  refine d.cal (fun _ _ _ _ _ _ us hl => match us, hl with | [_], _ => rfl) fun f fd F => F.ok sc_is_step (fun vs H Q E h => spr_len (fun _ => rfl) h) (fun cdv A outer s H vs Q E hr h => ?_)
  have hu := hr.units
  refine ⟨_, (pss_cons (ps_if (PW.pt (pw_or (pt_not (pt_val (pe_callB call_isi (by rfl) T.n_isinstance (by decide +kernel) (pa_cons (pv 0) (pa_cons (pe_bltn (v := .ty "tuple") rfl T.n_tuple (by decide +kernel) rfl) pa_nil))))) (pw_or1 (pt_not (pt_chain op_le op_le pe_int (pe_callB call_len (by rfl) T.n_len (by decide +kernel) (pa_cons (pv 0) pa_nil)) pe_int))))) (pss_one (ps_ret pe_bl)) pss_nil)
  (pss_cons (ps_if (pt_cmpR (op_eqD hu) (pe_callB call_len (by rfl) T.n_len (by decide +kernel) (pa_cons (pv 0) pa_nil)) pe_int (nomark _)) (pss_one (ps_ret (pe_or (pe_cmpR (op_eqD hu) (pe_ix ix_seq (pv 0) pe_int (fun _ _ => rfl)) pe_str (nomark _)) (pe_one (pe_cmpR (op_eqD hu) (pe_ix ix_seq (pv 0) pe_int (fun _ _ => rfl)) pe_str (nomark _)))))) pss_nil)
  (pss_one (ps_ret (pe_and (pe_or (pe_cmpR (op_eqD hu) (pe_ix ix_seq (pv 0) pe_int (fun _ _ => rfl)) pe_str (nomark _)) (pe_one (pe_cmpR (op_eqD hu) (pe_ix ix_seq (pv 0) pe_int (fun _ _ => rfl)) pe_str (nomark _)))) (pe_one (pc0 G_is_name hr (by decide) (by rfl) (pa_cons (pe_ix ix_seq (pv 0) pe_int (fun _ _ => rfl)) pa_nil)))))))), ?_⟩
  obtain ⟨d, h1, hg, k⟩ := h
  obtain ⟨v, d', rfl, e, hd⟩ := dps1 h1 rfl
  cases e
  have k1 := sh_kept
  have k2 := sh_left
  have k3 := sh_put
  have k4 := sh_other
  walk_at "NX"
  cases d with
  | tuple xs =>
    have hs : sizedD (.tuple xs) := trivial
    apply s_if (K := K)
    · walk_at "TV"
    · intro hb H1 e1
      apply s_ret (K := K)
      · walk_at "EV"
      · intro u H2 e2 du
        refine k u H2 (e1.trans e2) ?_
        have hb' : (!(decide ((1 : Int) ≤ (xs.length : Nat)) && decide (((xs.length : Nat) : Int) ≤ 2))) = true := hb
        have e : (decS (.tuple xs)).isSome = false := by
          match xs, hb' with
          | [], _ => rfl
          | [_], h => simp at h
          | [_, _], h => simp at h
          | _ :: _ :: _ :: _, _ => rfl
        show Dp K H2 u (.bool (decS (.tuple xs)).isSome)
        rw [e]
        exact du
    · intro hb H1 e1
      have hb' : (!(decide ((1 : Int) ≤ (xs.length : Nat)) && decide (((xs.length : Nat) : Int) ≤ 2))) = false := hb
      walk_at "NX"
      match xs, hb', hd, hs, k, hg with
      | [], h, _, _, _, _ => simp at h
      | _ :: _ :: _ :: _, h, _, _, _, _ =>
        simp at h
        omega
      | [a], _, hd, hs, k, hg =>
        have i0 : atI [a] 0 = some a := rfl
        have sa : SeqAt.shaped a = true := gdn_ok (gdn_tup hg a (by simp)) (by decide)
        refine s_if (K := K) (b := true) (tv_is (by walk_at "TV") rfl) (fun _ H2 e2 => ?_) fun z => nomatch z
        have e12 := e1.trans e2
        apply s_ret (K := K)
        · walk_at "EV"
        · intro u H3 e3 du
          refine k u H3 (e1.trans (e2.trans e3)) ?_
          show Dp K H3 u (.bool (decS (.tuple [a])).isSome)
          rw [dec1]
          exact du
      | [a, b], _, hd, hs, k, hg =>
        have i0 : atI [a, b] 0 = some a := rfl
        have i1 : atI [a, b] 1 = some b := rfl
        have sa : SeqAt.shaped a = true := gdn_ok (gdn_tup hg a (by simp)) (by decide)
        have c := spd_isName (K := K) (H := H1) (short_of (gdn_tup hg b (by simp)))
        refine s_if (K := K) (b := false) (tv_is (by walk_at "TV") rfl) (fun z => nomatch z) fun _ H2 e2 => ?_
        have c := spd_isName (K := K) (H := H2) (short_of (gdn_tup hg b (by simp)))
        have e12 := e1.trans e2
        walk_at "NX"
        apply s_ret (K := K)
        · exact ev_andV (by walk_at "EV") fun _ => ev_call (by walk_at "AV") c
        · intro u H3 e3 du
          refine k u H3 (e12.trans e3) ?_
          show Dp K H3 u (.bool (decS (.tuple [a, b])).isSome)
          rw [dec2]
          exact du
  | _ =>
    apply s_if (K := K)
    · with_reducible apply tv_or (b := false)
      · walk_at "TV"
      · intro z
        exact nomatch z
    · intro hb H1 e1
      apply s_ret (K := K)
      · walk_at "EV"
      · exact fun u H2 e2 du => k u H2 (e1.trans e2) du
    · intro z
      exact nomatch z

abbrev s_can_go : Stmt := topS 39
abbrev N_can_go : List Str := ["one", "at", "step"]
theorem sc_can_go : FnScope N_can_go ["one", "at", "step"] (defScope s_can_go) := ⟨rfl, rfl, rfl, by decide +kernel, rfl, by decide +kernel, by decide +kernel⟩
def canGo (one : List Str) (i : Nat) : Step → Bool
  | .kept => decide ((i : Int) < one.length) | .left => decide ((i : Int) < one.length) | .put _ => true | .other w => decide ((i : Int) < one.length) && !(w == wd one i)
def stepOk : Step → Prop
  | .put w => nameS w = true | .other w => nameS w = true | _ => True
abbrev spCanGo (K : PySem.W.Frag) : Sp := spR K (fun a : List Str × Nat × Step => [wordsD a.1, .int (a.2.1 : Nat), stepD a.2.2]) (fun a => okW a.1 ∧ stepOk a.2.2) fun a => .bool (canGo a.1 a.2.1 a.2.2)
theorem c_can_go (T : Txt w K mg) (d : DefAt K mg "can_go" s_can_go) : KCal P w K mg base CX0 1 "can_go" ["one", "at", "step"] (spCanGo K) := by
  refine d.cal (fun _ _ _ _ _ _ us hl => match us, hl with | [_, _, _], _ => rfl) fun f fd F => F.ok sc_can_go (fun vs H Q E h => spr_len (fun _ => rfl) h) (fun cdv A outer s H vs Q E hr h => ?_)
  have hu := hr.units
  refine ⟨_, (pss_cons (ps_if (pt_cmpR (op_eqD hu) (pe_ix ix_seq (pv 2) pe_int (fun _ _ => rfl)) pe_str (nomark _)) (pss_one (ps_ret pe_bl)) pss_nil)
  (pss_one (ps_ret (pe_and (pe_cmpR op_lt (pv 1) (pe_callB call_len (by rfl) T.n_len (by decide +kernel) (pa_cons (pv 0) pa_nil)) (nomark _)) (pe_one (pe_or (pe_cmpR (op_neD hu) (pe_ix ix_seq (pv 2) pe_int (fun _ _ => rfl)) pe_str (nomark _)) (pe_one (pe_cmpR (op_neD hu) (pe_ix ix_seq (pv 2) pe_int (fun _ _ => rfl)) (pe_ix ix_seq (pv 0) (pv 1) (fun _ _ => rfl)) (nomark _))))))))), ?_⟩
  obtain ⟨⟨one, i, st⟩, h1, ⟨ok1, ok2⟩, k⟩ := h
  obtain ⟨v0, d0, v1, d1, v2, d2, rfl, e, hd0, hd1, hd2⟩ := dps3 h1 rfl
  cases e
  replace ok1 : okW one := ok1
  replace hd0 : Dp K H v0 (.tuple (one.map .str)) := hd0
  replace hd1 : Dp K H v1 (.int (i : Nat)) := hd1
  have hs : sizedD (.tuple (one.map PyData.str)) := trivial
  have el : lenD (.tuple (one.map PyData.str)) = one.length := List.length_map _
  have k1 := sh_kept
  have k2 := sh_left
  have k3 := sh_put
  have k4 := sh_other
  walk_at "NX"
  cases st with
  | put z =>
    replace hd2 : Dp K H v2 (.tuple [.str "put", .str z]) := hd2
    have i0 : atI [PyData.str "put", .str z] 0 = some (.str "put") := rfl
    refine s_if (K := K) (b := true) (tv_is (by walk_at "TV") (by decide +kernel)) (fun _ H2 e2 => ?_) fun z => nomatch z
    refine s_ret (K := K) (d := .bool true) (by walk_at "EV") fun u H3 e3 du => k u H3 (e2.trans e3) du
  | kept =>
    replace hd2 : Dp K H v2 (.tuple [.str "kept"]) := hd2
    have i0 : atI [PyData.str "kept"] 0 = some (.str "kept") := rfl
    refine s_if (K := K) (b := false) (tv_is (by walk_at "TV") (by decide +kernel)) (fun z => nomatch z) fun _ H2 e2 => ?_
    walk_at "NX"
    refine s_ret (K := K) (d := .bool (decide ((i : Int) < one.length))) (ev_is (ev_andV (a := decide ((i : Int) < one.length)) (b := true) (el ▸ (by walk_at "EV")) fun hh => ev_orV (a := true) (b := false) (ev_is (by walk_at "EV") (congrArg PyData.bool (by decide +kernel))) fun z => nomatch z) (by rw [Bool.and_true])) fun u H3 e3 du => k u H3 (e2.trans e3) du
  | left =>
    replace hd2 : Dp K H v2 (.tuple [.str "left"]) := hd2
    have i0 : atI [PyData.str "left"] 0 = some (.str "left") := rfl
    refine s_if (K := K) (b := false) (tv_is (by walk_at "TV") (by decide +kernel)) (fun z => nomatch z) fun _ H2 e2 => ?_
    walk_at "NX"
    refine s_ret (K := K) (d := .bool (decide ((i : Int) < one.length))) (ev_is (ev_andV (a := decide ((i : Int) < one.length)) (b := true) (el ▸ (by walk_at "EV")) fun hh => ev_orV (a := true) (b := false) (ev_is (by walk_at "EV") (congrArg PyData.bool (by decide +kernel))) fun z => nomatch z) (by rw [Bool.and_true])) fun u H3 e3 du => k u H3 (e2.trans e3) du
  | other z =>
    replace hd2 : Dp K H v2 (.tuple [.str "other", .str z]) := hd2
    have i0 : atI [PyData.str "other", .str z] 0 = some (.str "other") := rfl
    have i1 : atI [PyData.str "other", .str z] 1 = some (.str z) := rfl
    have sz := (name_shape (show nameS z = true from ok2)).1
    refine s_if (K := K) (b := false) (tv_is (by walk_at "TV") (by decide +kernel)) (fun z => nomatch z) fun _ H2 e2 => ?_
    walk_at "NX"
    refine s_ret (K := K) (d := .bool (decide ((i : Int) < one.length) && !(z == wd one i))) (ev_andV (a := decide ((i : Int) < one.length)) (b := !(z == wd one i)) (el ▸ (by walk_at "EV")) fun hh => ev_is (ev_orV (a := false) (b := !(z == wd one i)) (ev_is (by walk_at "EV") (congrArg PyData.bool (by decide +kernel))) fun _ => ?_) rfl) fun u H3 e3 du => k u H3 (e2.trans e3) du
    rw [decide_eq_true_eq] at hh
    have i2 := atI_words (ws := one) (j := (i : Int)) (i := i) rfl (by omega)
    have sw := (name_shape (ok1.nm (k := i) (by omega))).1
    refine ev_is ?_ (congrArg (fun b => PyData.bool (!b)) (eqv_strs (a := z) (b := wd one i)))
    walk_at "EV"
end
end K5
set_option Elab.async false
set_option linter.all false
set_option maxRecDepth 100000
set_option maxHeartbeats 4000000
/-! Rows, limits, whether all holds. -/
namespace K5
open PySem L2 PySem.Spec PyProof.Rows
local macro_rules | `(tactic| walk_at "DP") => `(tactic| first | with_reducible assumption | with_reducible exact Dp.int _ | with_reducible exact Dp.str _ | with_reducible exact Dp.bl _ | with_reducible exact Dp.non | with_reducible exact dp_up (by assumption) (by assumption))
local macro_rules | `(tactic| walk_at "SH") => `(tactic| first | with_reducible assumption | rfl)
local macro_rules | `(tactic| walk_at "RD") => `(tactic| first | with_reducible assumption | exact rd_addI | exact rd_I0 fun _ => .int _ | exact rd_I0 fun _ => .bl _ | exact rd_ixL (by with_reducible assumption) | exact rd_ixT (by with_reducible assumption) | exact rd_ixS (by with_reducible assumption) (by with_reducible assumption) | exact rd_eqD (by walk_at "SH") (by walk_at "SH") | exact rd_neD (by walk_at "SH") (by walk_at "SH") | exact rd_inS | exact rd_notN | exact rd_isN | exact rd_addL (by with_reducible assumption) | exact rd_addT (by with_reducible assumption) | exact rd_addS (by with_reducible assumption))
local macro_rules | `(tactic| walk_at "OV") => `(tactic| first | with_reducible exact ov_no | ((with_reducible apply ov_some); walk_at "EV"))
local macro_rules | `(tactic| walk_at "AV") => `(tactic| first | with_reducible assumption | with_reducible exact av_nil | ((with_reducible apply av_cons); walk_at "EV"; walk_at "AV"))
local macro_rules | `(tactic| walk_at "RC") => `(tactic| first | with_reducible assumption | exact rc_len (by (first | with_reducible assumption | trivial)) | exact rc_tupL | exact rc_tupT | exact rc_lstL | exact rc_lstT | exact rc_all | exact rc_sum | exact rc_min2 | exact rc_min3)
local macro_rules | `(tactic| walk_at "KIT") => `(tactic| first | with_reducible exact kit_int _ | with_reducible exact kit_bool _ | with_reducible exact kit_str _ | with_reducible exact kit_tuple _)
local macro_rules | `(tactic| walk_at "EV") => `(tactic| first | with_reducible assumption | with_reducible exact ev_int | with_reducible exact ev_str | with_reducible exact ev_bl | with_reducible exact ev_non | ((with_reducible apply ev_var); exact sl_mk rfl (by walk_at "DP")) | ((with_reducible apply ev_op); walk_at "EV"; walk_at "EV"; walk_at "RD") | ((with_reducible apply ev_neg); walk_at "EV") | ((with_reducible apply ev_tup); walk_at "AV"; (first | (with_reducible assumption) | decide)) | ((with_reducible apply ev_lst); walk_at "AV"; (first | (with_reducible assumption) | decide)) | ((with_reducible apply ev_call); walk_at "AV"; with_reducible assumption) | ((with_reducible apply ev_isi2); exact rfl; walk_at "EV"; walk_at "KIT") | ((with_reducible apply ev_cb); walk_at "AV"; walk_at "RC") | ((with_reducible apply ev_chain); walk_at "EV"; walk_at "EV"; walk_at "RD"; intro _; walk_at "EV"; intro _; walk_at "RD") | ((with_reducible apply ev_andV); walk_at "EV"; intro _; walk_at "EV") | ((with_reducible apply ev_orV); walk_at "EV"; intro _; walk_at "EV") | ((with_reducible apply ev_notV); walk_at "EV") | ((with_reducible apply ev_sl2); exact rfl; walk_at "EV"; walk_at "OV"; walk_at "OV"; walk_at "SLD") | ((with_reducible apply ev_rev2); exact rfl; walk_at "EV"))
local macro_rules | `(tactic| walk_at "SLD") => `(tactic| first | with_reducible exact SlD.l | with_reducible exact SlD.t | with_reducible exact SlD.s (by with_reducible assumption))
local macro_rules | `(tactic| walk_at "TV") => `(tactic| first | with_reducible assumption | ((with_reducible apply tv_and); walk_at "TV"; intro _; walk_at "TV") | ((with_reducible apply tv_or); walk_at "TV"; intro _; walk_at "TV") | ((with_reducible apply tv_not); walk_at "TV") | ((with_reducible apply tv_B); walk_at "EV") | ((with_reducible apply tv_T); walk_at "EV"))
local macro_rules | `(tactic| walk_at "NX") => `(tactic| ((try dsimp only); (try with_reducible apply s_next); (try dsimp only); (try with_reducible apply s_seq)))

theorem all_step {α : Type} {p : α → Bool} {xs : List α} {k : Nat} {e : α} (h : (xs.take k).all p = true) (he : xs[k]? = some e) (q : p e = true) : (xs.take (k + 1)).all p = true := by
  rw [take_step he, List.all_append, h, List.all_cons, q]
  rfl
theorem all_fail {α : Type} {p : α → Bool} {xs : List α} {k : Nat} {e : α} (he : xs[k]? = some e) (q : p e = false) : xs.all p = false := by
  cases h : xs.all p with
  | false => rfl
  | true =>
    have := List.all_eq_true.mp h e (List.mem_of_getElem? he)
    rw [q] at this
    cases this
theorem nat_eqB {a b : Nat} : (((a : Int)) == ((b : Int))) = decide (a = b) := by
  by_cases h : a = b
  · subst h
    simp
  · rw [decide_eq_false h]
    exact beq_eq_false_iff_ne.mpr (by omega)
/-- if c: found.append(e) -/
theorem s_ifApp {K K1 : PySem.W.Frag} {te : TE} {tt : TT} {De : Ends} {s : L2.St} {H0 H : Hp} {i : Nat} {l : Addr} {xs : List V} {ds : List D} {b : Bool} {d : D} (h0 : s[i]? = some (some (.ref l))) (hl0 : H0 l = none) (hs : Same H0 H) (hl : H l = some (.lst xs)) (hd : DpAll K H xs ds) (hn : noLs ds = true) (hx : ds.length < 1000)
    (ht : Tv K tt s H b) (he : b = true → Ev K te s H d ∧ noL d = true) (hk : K1 = K) (k : ∀ H1 ys, Same H0 H1 → H1 l = some (.lst ys) → DpAll K H1 ys (ds ++ if b = true then [d] else []) → De.nx s H1) : tIfS tt (tDrop (tBM K1 "list" rAppend (tVar i) (tCons te tNil))) tNext De s H := by
  subst hk
  refine s_if (K := K1) ht (fun hb H1 e1 => ?_) fun hb H1 e1 => ?_
  · obtain ⟨hev, hnd⟩ := he hb
    refine s_append (K := K1) (l := l) (xs := xs) (d := d) h0 (e1 _ _ hl) (by rw [dps_len hd]; omega) (hev.up (.of e1)) fun v H2 e2 dv => ?_
    have e12 := e1.trans e2
    have l2 := e12 _ _ hl
    refine k _ (xs ++ [v]) (Same.mut (hs.trans e12) hl0) upd_same ?_
    rw [if_pos hb]
    refine dps_mutL l2 ?_ (dps_app (dps_same e12 hd) (.cons dv .nil))
    refine noLs_all fun z hz => ?_
    rcases List.mem_append.mp hz with hz | hz
    · exact noLs_mem hn z hz
    · rw [List.mem_singleton.mp hz]; exact hnd
  · show De.nx s H1
    refine k H1 xs (hs.trans e1) (e1 _ _ hl) ?_
    rw [if_neg (by rw [hb]; decide), List.append_nil]
    exact dps_same e1 hd
section
variable {P : Program} {w : World} {K : PySem.W.Frag} {mg : Str → Option Value} {base : Heap}
abbrev s_are_potentials : Stmt := topS 43
abbrev N_are_potentials : List Str := ["thing", "rows", "places", "row", "number"]
theorem sc_are_potentials : FnScope N_are_potentials ["thing", "rows", "places"] (defScope s_are_potentials) := ⟨rfl, rfl, rfl, by decide +kernel, rfl, by decide +kernel, by decide +kernel⟩
abbrev spPot (K : PySem.W.Frag) : Sp := spR K (fun a : D × Nat × Nat => [a.1, .int (a.2.1 : Nat), .int (a.2.2 : Nat)]) (fun a => gdn 6 a.1 = true ∧ a.2.1 ≤ 100 ∧ a.2.2 ≤ 100) fun a => .bool (potB a.2.1 a.2.2 a.1)
theorem whole_all {xs : List D} : ((xs.filter fun _ => true).map fun d => PyData.bool (isInt d)) = (xs.map isInt).map .bool := by
  rw [List.filter_eq_self.mpr (fun _ _ => rfl), List.map_map]
  rfl
theorem potB_tup {n m : Nat} {rs : List D} : potB n m (.tuple rs) = (decide (rs.length = n) && rs.all (rowB m)) := rfl
theorem rowB_tup {m : Nat} {xs : List D} : rowB m (.tuple xs) = (decide (xs.length = m) && (xs.map isInt).all id) := by
  unfold rowB
  rw [List.all_map]
  congr 1
theorem c_are_potentials (T : Txt w K mg) (d : DefAt K mg "are_potentials" s_are_potentials) (G_is_whole : KCal P w K mg base CX0 1 "is_whole" ["thing"] (spIsWhole K)) : KCal P w K mg base CX0 2 "are_potentials" ["thing", "rows", "places"] (spPot K) := by
  refine d.cal (fun _ _ _ _ _ _ us hl => match us, hl with | [_, _, _], _ => rfl) fun f fd F => F.ok sc_are_potentials (fun vs H Q E h => spr_len (fun _ => rfl) h) (fun cdv A outer s H vs Q E hr h => ?_)
  have hu := hr.units
  refine ⟨_, (pss_cons (ps_if (PW.pt (pw_or (pt_not (pt_val (pe_callB call_isi (by rfl) T.n_isinstance (by decide +kernel) (pa_cons (pv 0) (pa_cons (pe_bltn (v := .ty "tuple") rfl T.n_tuple (by decide +kernel) rfl) pa_nil))))) (pw_or1 (pt_cmpR (op_neD hu) (pe_callB call_len (by rfl) T.n_len (by decide +kernel) (pa_cons (pv 0) pa_nil)) (pv 1) (nomark _))))) (pss_one (ps_ret pe_bl)) pss_nil)
  (pss_cons (ps_for PassesOwn.never rfl (pi_any (pv 0)) (pg_name (i := 3) sc_are_potentials.nd rfl (Or.inl rfl))
  (pss_one (ps_if (PW.pt (pw_or (pt_not (pt_val (pe_callB call_isi (by rfl) T.n_isinstance (by decide +kernel) (pa_cons (pv 3) (pa_cons (pe_bltn (v := .ty "tuple") rfl T.n_tuple (by decide +kernel) rfl) pa_nil))))) (pw_or (pt_cmpR (op_neD hu) (pe_callB call_len (by rfl) T.n_len (by decide +kernel) (pa_cons (pv 3) pa_nil)) (pv 2) (nomark _)) (pw_or1 (pt_not (pt_val (pe_callB (cr_all rfl) (by rfl) T.n_all (by decide +kernel) (pa_cons (pe_lc (own := [("number", 4)]) rfl sc_are_potentials.nd (pi_any (pv 3)) (blkOk_by (N := N_are_potentials) (sc := defScope s_are_potentials) (by decide +kernel)) (fun _ _ _ _ _ => (pg_name (i := 4) sc_are_potentials.nd rfl (Or.inl rfl))) (fun _ _ _ _ _ => pts_nil) (fun _ _ _ _ _ => (pc0 G_is_whole hr (by decide) (by rfl) (pa_cons (pv 4) pa_nil)))) pa_nil)))))))) (pss_one (ps_ret pe_bl)) pss_nil)))
  (pss_one (ps_ret pe_bl)))), ?_⟩
  obtain ⟨⟨d, n, m⟩, h1, ⟨hg, hn100, hm100⟩, k⟩ := h
  replace hm100 : m ≤ 100 := hm100
  obtain ⟨v0, d0, v1, d1, v2, d2, rfl, e, hd0, hd1, hd2⟩ := dps3 h1 rfl
  cases e
  replace hg : gdn 6 d = true := hg
  replace hd0 : Dp K H v0 d := hd0
  replace hd1 : Dp K H v1 (.int (n : Nat)) := hd1
  replace hd2 : Dp K H v2 (.int (m : Nat)) := hd2
  replace k : ∀ u H', Same H H' → Dp K H' u (.bool (potB n m d)) → Q u H' := k
  walk_at "NX"
  cases d with
  | tuple rs =>
    have hs : sizedD (.tuple rs) := trivial
    refine s_if (K := K) (b := !decide (rs.length = n)) ?_ (fun hb H1 e1 => ?_) fun hb H1 e1 => ?_
    · apply tv_is
      · walk_at "TV"
      · show (false || !(((rs.length : Nat) : Int) == ((n : Nat) : Int))) = _
        rw [nat_eqB, Bool.false_or]
    · refine s_ret (K := K) (by walk_at "EV") fun u H2 e2 du => k u H2 (e1.trans e2) ?_
      have e : potB n m (.tuple rs) = false := by
        rw [Bool.not_eq_true'] at hb
        rw [potB_tup, hb, Bool.false_and]
      rw [e]
      exact du
    · rw [Bool.not_eq_false'] at hb
      walk_at "NX"
      refine s_for (K := K) (d := .tuple rs) (ds := rs) (yd_any (by walk_at "EV") rfl) fun H2 w2 e2 dw2 => ⟨fun k σ Hc => ∃ o3 o4, σ = [some v0, some v1, some v2, o3, o4] ∧ Same H Hc ∧ Dp K Hc w2 (.tuple rs) ∧ (rs.take k).all (rowB m) = true, ?_, ?_, ?_, ?_, ?_⟩
      · rintro i σ Ha Hb sm ⟨o3, o4, rfl, q1, q2, q3⟩
        exact ⟨o3, o4, rfl, q1.trans sm, dp_same sm q2, q3⟩
      · rintro i σ Ha ⟨o3, o4, rfl, q1, q2, q3⟩
        exact q2
      · exact ⟨_, _, rfl, e1.trans e2, dw2, rfl⟩
      · rintro i e v σ Hc he ⟨o3, o4, rfl, q1, q2, q3⟩ dv
        have ge := gdn_tup hg e (List.mem_of_getElem? he)
        refine s_if (K := K) (b := !rowB m e) ?_ (fun hb H3 e3 => ?_) fun hb H3 e3 => ?_
        · cases e with
          | tuple xs =>
            have hs' : sizedD (.tuple xs) := trivial
            apply tv_is
            · with_reducible apply tv_or
              · walk_at "TV"
              · intro _
                with_reducible apply tv_or
                · walk_at "TV"
                · intro hz
                  with_reducible apply tv_not
                  with_reducible apply tv_B
                  have hz2 : (!(((xs.length : Nat) : Int) == ((m : Nat) : Int))) = false := hz
                  rw [Bool.not_eq_false', nat_eqB, decide_eq_true_eq] at hz2
                  exact ev_cb (d := .bool ((xs.map isInt).all id)) (av_cons (ev_lc (p := fun _ => true) (f := fun d => PyData.bool (isInt d)) (yd_any (by walk_at "EV") rfl) (fun e' _ v' H4 k4 dv' R q => q _ wipe1 (fun _ _ _ q => q _ (Same.refl _)) fun _ => ⟨ev_call (by walk_at "AV") spd_isWhole, rfl⟩) (by omega)) av_nil) (whole_all ▸ rc_all)
            · show (false || ((!(((xs.length : Nat) : Int) == ((m : Nat) : Int))) || !(xs.map isInt).all id)) = !rowB m (.tuple xs)
              rw [nat_eqB, rowB_tup, Bool.not_and, Bool.false_or]
          | _ =>
            apply tv_is
            · with_reducible apply tv_or (b := false)
              · walk_at "TV"
              · intro z
                exact nomatch z
            · rfl
        · refine s_ret (K := K) (by walk_at "EV") fun u H4 e4 du => k u H4 (q1.trans (e3.trans e4)) ?_
          have e : potB n m (.tuple rs) = false := by
            rw [Bool.not_eq_true'] at hb
            rw [potB_tup, all_fail he hb, Bool.and_false]
          rw [e]
          exact du
        · rw [Bool.not_eq_false'] at hb
          exact ⟨_, _, rfl, q1.trans e3, dp_same e3 q2, all_step q3 he hb⟩
      · rintro σ Hc ⟨o3, o4, rfl, q1, q2, q3⟩
        rw [List.take_length] at q3
        walk_at "NX"
        refine s_ret (K := K) (by walk_at "EV") fun u H4 e4 du => k u H4 (q1.trans e4) ?_
        have e : potB n m (.tuple rs) = true := by
          rw [potB_tup, hb, q3]
          rfl
        rw [e]
        exact du
  | _ =>
    apply s_if (K := K)
    · with_reducible apply tv_or (b := false)
      · walk_at "TV"
      · intro z
        exact nomatch z
    · intro hb H1 e1
      apply s_ret (K := K)
      · walk_at "EV"
      · exact fun u H2 e2 du => k u H2 (e1.trans e2) du
    · intro z
      exact nomatch z
end
end K5
set_option Elab.async false
set_option linter.all false
set_option maxRecDepth 100000
set_option maxHeartbeats 4000000
/-! Limits; whether all holds. -/
namespace K5
open PySem L2 PySem.Spec PyProof.Rows
local macro_rules | `(tactic| walk_at "DP") => `(tactic| first | with_reducible assumption | with_reducible exact Dp.int _ | with_reducible exact Dp.str _ | with_reducible exact Dp.bl _ | with_reducible exact Dp.non | with_reducible exact dp_up (by assumption) (by assumption))
local macro_rules | `(tactic| walk_at "SH") => `(tactic| first | with_reducible assumption | rfl)
local macro_rules | `(tactic| walk_at "RD") => `(tactic| first | with_reducible assumption | exact rd_addI | exact rd_I0 fun _ => .int _ | exact rd_I0 fun _ => .bl _ | exact rd_ixL (by with_reducible assumption) | exact rd_ixT (by with_reducible assumption) | exact rd_ixS (by with_reducible assumption) (by with_reducible assumption) | exact rd_eqD (by walk_at "SH") (by walk_at "SH") | exact rd_neD (by walk_at "SH") (by walk_at "SH") | exact rd_inS | exact rd_notN | exact rd_isN | exact rd_addL (by with_reducible assumption) | exact rd_addT (by with_reducible assumption) | exact rd_addS (by with_reducible assumption))
local macro_rules | `(tactic| walk_at "OV") => `(tactic| first | with_reducible exact ov_no | ((with_reducible apply ov_some); walk_at "EV"))
local macro_rules | `(tactic| walk_at "AV") => `(tactic| first | with_reducible assumption | with_reducible exact av_nil | ((with_reducible apply av_cons); walk_at "EV"; walk_at "AV"))
local macro_rules | `(tactic| walk_at "RC") => `(tactic| first | with_reducible assumption | exact rc_len (by (first | with_reducible assumption | trivial)) | exact rc_tupL | exact rc_tupT | exact rc_lstL | exact rc_lstT | exact rc_all | exact rc_sum | exact rc_min2 | exact rc_min3)
local macro_rules | `(tactic| walk_at "KIT") => `(tactic| first | with_reducible exact kit_int _ | with_reducible exact kit_bool _ | with_reducible exact kit_str _ | with_reducible exact kit_tuple _)
local macro_rules | `(tactic| walk_at "EV") => `(tactic| first | with_reducible assumption | with_reducible exact ev_int | with_reducible exact ev_str | with_reducible exact ev_bl | with_reducible exact ev_non | ((with_reducible apply ev_var); exact sl_mk rfl (by walk_at "DP")) | ((with_reducible apply ev_op); walk_at "EV"; walk_at "EV"; walk_at "RD") | ((with_reducible apply ev_neg); walk_at "EV") | ((with_reducible apply ev_tup); walk_at "AV"; (first | (with_reducible assumption) | decide)) | ((with_reducible apply ev_lst); walk_at "AV"; (first | (with_reducible assumption) | decide)) | ((with_reducible apply ev_call); walk_at "AV"; with_reducible assumption) | ((with_reducible apply ev_isi2); exact rfl; walk_at "EV"; walk_at "KIT") | ((with_reducible apply ev_cb); walk_at "AV"; walk_at "RC") | ((with_reducible apply ev_chain); walk_at "EV"; walk_at "EV"; walk_at "RD"; intro _; walk_at "EV"; intro _; walk_at "RD") | ((with_reducible apply ev_andV); walk_at "EV"; intro _; walk_at "EV") | ((with_reducible apply ev_orV); walk_at "EV"; intro _; walk_at "EV") | ((with_reducible apply ev_notV); walk_at "EV") | ((with_reducible apply ev_sl2); exact rfl; walk_at "EV"; walk_at "OV"; walk_at "OV"; walk_at "SLD") | ((with_reducible apply ev_rev2); exact rfl; walk_at "EV"))
local macro_rules | `(tactic| walk_at "SLD") => `(tactic| first | with_reducible exact SlD.l | with_reducible exact SlD.t | with_reducible exact SlD.s (by with_reducible assumption))
local macro_rules | `(tactic| walk_at "TV") => `(tactic| first | with_reducible assumption | ((with_reducible apply tv_and); walk_at "TV"; intro _; walk_at "TV") | ((with_reducible apply tv_or); walk_at "TV"; intro _; walk_at "TV") | ((with_reducible apply tv_not); walk_at "TV") | ((with_reducible apply tv_B); walk_at "EV") | ((with_reducible apply tv_T); walk_at "EV"))
local macro_rules | `(tactic| walk_at "NX") => `(tactic| ((try dsimp only); (try with_reducible apply s_next); (try dsimp only); (try with_reducible apply s_seq)))

structure A4 where
  (p : PP) (one other : List Str) (R : Nat → Nat → Int) (i j : Nat)
def A4.ok (a : A4) : Prop := okW a.one ∧ okW a.other ∧ a.i ≤ a.one.length ∧ a.j ≤ a.other.length
def pairD (one other : List Str) : D := .tuple [wordsD one, wordsD other]
def A4.l (a : A4) : List D := [a.p.d, pairD a.one a.other, tab a.R (a.one.length + 1) (a.other.length + 1), .tuple [.int (a.i : Nat), .int (a.j : Nat)]]
def lims (p2 p3 p4 : Int) (one other : List Str) (R : Nat → Nat → Int) (i j : Nat) : List Int :=
  ((if decide ((0 : Int) < (i : Nat)) = true then [R (i - 1) j + p2] else []) ++ (if decide ((0 : Int) < (j : Nat)) = true then [R i (j - 1) + p3] else [])) ++ (if (decide ((0 : Int) < (i : Nat)) && decide ((0 : Int) < (j : Nat))) = true then [R (i - 1) (j - 1) + al p4 one other (i - 1) (j - 1)] else [])
theorem lims_hold {p2 p3 p4 : Int} {one other : List Str} {R : Nat → Nat → Int} {i j : Nat} : ((lims p2 p3 p4 one other R i j).any fun y => decide (y < R i j)) = !holdB p2 p3 p4 one other R i j := by
  unfold lims holdB
  have e1 : decide ((0 : Int) < ((i : Nat) : Int)) = decide (0 < i) := by
    by_cases h : 0 < i
    · rw [decide_eq_true h, decide_eq_true (by omega)]
    · rw [decide_eq_false h, decide_eq_false (by omega)]
  have e2 : decide ((0 : Int) < ((j : Nat) : Int)) = decide (0 < j) := by
    by_cases h : 0 < j
    · rw [decide_eq_true h, decide_eq_true (by omega)]
    · rw [decide_eq_false h, decide_eq_false (by omega)]
  rw [e1, e2, List.any_append, List.any_append]
  cases decide (0 < i) <;> cases decide (0 < j) <;> simp
section
variable {P : Program} {w : World} {K : PySem.W.Frag} {mg : Str → Option Value} {base : Heap}
abbrev s_limits_at : Stmt := topS 44
abbrev N_limits_at : List Str := ["prices", "pair", "rows", "spot", "one", "other", "at", "place", "found"]
theorem sc_limits_at : FnScope N_limits_at ["prices", "pair", "rows", "spot"] (defScope s_limits_at) := ⟨rfl, rfl, rfl, by decide +kernel, rfl, by decide +kernel, by decide +kernel⟩
abbrev spLimits (K : PySem.W.Frag) : Sp := spR K A4.l A4.ok fun a => .list ((lims a.p.p2 a.p.p3 a.p.p4 a.one a.other a.R a.i a.j).map .int)
theorem map_if {b : Bool} {x : Int} : (if b = true then [x] else []).map PyData.int = if b = true then [PyData.int x] else [] := by cases b <;> rfl
theorem c_limits_at (T : Txt w K mg) (d : DefAt K mg "limits_at" s_limits_at) : KCal P w K mg base CX0 1 "limits_at" ["prices", "pair", "rows", "spot"] (spLimits K) := by
  refine d.cal (fun _ _ _ _ _ _ us hl => match us, hl with | [_, _, _, _], _ => rfl) fun f fd F => F.ok sc_limits_at (fun vs H Q E h => spr_len (fun _ => rfl) h) (fun cdv A outer s H vs Q E hr h => ?_)
  have hu := hr.units
  refine ⟨_, (pss_cons (ps_asg (pe_tup (pa_cons (pv 1) (pa_cons (pv 3) pa_nil))) (pg_tup rfl (pgs_cons (pg_tup rfl (pgs_cons (pg_name (i := 4) sc_limits_at.nd rfl (Or.inl rfl)) (pgs_cons (pg_name (i := 5) sc_limits_at.nd rfl (Or.inl rfl)) pgs_nil))) (pgs_cons (pg_tup rfl (pgs_cons (pg_name (i := 6) sc_limits_at.nd rfl (Or.inl rfl)) (pgs_cons (pg_name (i := 7) sc_limits_at.nd rfl (Or.inl rfl)) pgs_nil))) pgs_nil))))
  (pss_cons (ps_set (i := 8) sc_limits_at.nd rfl (Or.inl rfl) (pe_lst pa_nil))
  (pss_cons (ps_if (pt_cmpR op_gt (pv 6) pe_int (nomark _)) (pss_one (ps_expr (pe_bm PySem.F.plainAttrs_list PySem.F.slot_list_append PySem.F.type_list_append mt_append (pv 8) (pa_cons (pe_op opAddU (pe_ix ix_seq (pe_ix ix_seq (pv 2) (pe_op op_sub (pv 6) pe_int) (fun _ _ => rfl)) (pv 7) (fun _ _ => rfl)) (pe_ix ix_seq (pv 0) pe_int (fun _ _ => rfl))) pa_nil)))) pss_nil)
  (pss_cons (ps_if (pt_cmpR op_gt (pv 7) pe_int (nomark _)) (pss_one (ps_expr (pe_bm PySem.F.plainAttrs_list PySem.F.slot_list_append PySem.F.type_list_append mt_append (pv 8) (pa_cons (pe_op opAddU (pe_ix ix_seq (pe_ix ix_seq (pv 2) (pv 6) (fun _ _ => rfl)) (pe_op op_sub (pv 7) pe_int) (fun _ _ => rfl)) (pe_ix ix_seq (pv 0) pe_int (fun _ _ => rfl))) pa_nil)))) pss_nil)
  (pss_cons (ps_if (PW.pt (pw_and (pt_cmpR op_gt (pv 6) pe_int (nomark _)) (pw_and1 (pt_cmpR op_gt (pv 7) pe_int (nomark _))))) (pss_one (ps_expr (pe_bm PySem.F.plainAttrs_list PySem.F.slot_list_append PySem.F.type_list_append mt_append (pv 8) (pa_cons (pe_op opAddU (pe_ix ix_seq (pe_ix ix_seq (pv 2) (pe_op op_sub (pv 6) pe_int) (fun _ _ => rfl)) (pe_op op_sub (pv 7) pe_int) (fun _ _ => rfl)) (pe_ifExp (pt_cmpR (op_eqD hu) (pe_ix ix_seq (pv 4) (pe_op op_sub (pv 6) pe_int) (fun _ _ => rfl)) (pe_ix ix_seq (pv 5) (pe_op op_sub (pv 7) pe_int) (fun _ _ => rfl)) (nomark _)) pe_int (pe_ix ix_seq (pv 0) pe_int (fun _ _ => rfl)))) pa_nil)))) pss_nil)
  (pss_one (ps_ret (pv 8)))))))), ?_⟩
  obtain ⟨⟨⟨p0, p1, p2, p3, p4, p5⟩, one, other, R, i, j⟩, h1, ⟨ok1, ok2, hi, hj⟩, k⟩ := h
  obtain ⟨v0, d0, v1, d1, v2, d2, v3, d3, rfl, e, hd0, hd1, hd2, hd3⟩ := dps4 h1 rfl
  cases e
  replace k : ∀ u H', Same H H' → Dp K H' u (.list ((lims p2 p3 p4 one other R i j).map .int)) → Q u H' := k
  replace hd0 : Dp K H v0 (.tuple [.int p0, .int p1, .int p2, .int p3, .int p4, .int p5]) := hd0
  replace hd1 : Dp K H v1 (.tuple [.tuple (one.map .str), .tuple (other.map .str)]) := hd1
  replace hd2 : Dp K H v2 (.tuple ((List.range (one.length + 1)).map fun i => .tuple ((List.range (other.length + 1)).map fun j => .int (R i j)))) := hd2
  replace hd3 : Dp K H v3 (.tuple [.int (i : Nat), .int (j : Nat)]) := hd3
  replace ok1 : okW one := ok1
  replace ok2 : okW other := ok2
  replace hi : i ≤ one.length := hi
  replace hj : j ≤ other.length := hj
  have c2 : atI [PyData.int p0, .int p1, .int p2, .int p3, .int p4, .int p5] 2 = some (.int p2) := rfl
  have c3 : atI [PyData.int p0, .int p1, .int p2, .int p3, .int p4, .int p5] 3 = some (.int p3) := rfl
  have c4 : atI [PyData.int p0, .int p1, .int p2, .int p3, .int p4, .int p5] 4 = some (.int p4) := rfl
  walk_at "NX"
  refine Ev.go (K := K) (c := .tuple [.tuple [.tuple (one.map .str), .tuple (other.map .str)], .tuple [.int (i : Nat), .int (j : Nat)]]) (ev_tup (by walk_at "AV") (by show 2 ≤ 100000; decide)) fun v H1 e1 dv => ?_
  obtain ⟨a, xs, rfl, t1, t2⟩ := dp_tup dv
  obtain ⟨w1, f1, w2, f2, rfl, e, g1, g2⟩ := dps2 t2 rfl
  cases e
  refine ⟨a, _, rfl, t1, rfl, w1, _, rfl, g_pair (K := K) g1 fun x1 x2 dx1 dx2 => ⟨w2, _, rfl, g_pair (K := K) g2 fun x3 x4 dx3 dx4 => ⟨rfl, ?_⟩⟩⟩
  obtain rfl := dp_int dx3
  obtain rfl := dp_int dx4
  walk_at "NX"
  refine s_new (K := K) (ds := []) av_nil (by show 0 ≤ 100000; decide) fun l ys H2 hl e2 el dys => ?_
  have hl0 : H l = none := none_of e1 hl
  have s2 := e1.trans e2
  walk_at "NX"
  refine s_ifApp (K := K) (H0 := H1) (l := l) (b := decide ((0 : Int) < (i : Nat))) (d := .int (R (i - 1) j + p2)) rfl hl e2 el dys rfl (by show 0 < 1000; decide) (by walk_at "TV") (fun hb => ⟨?_, rfl⟩) rfl fun H3 zs e3 el3 dzs => ?_
  · rw [decide_eq_true_eq] at hb
    have z1 := atI_tab (R := R) (m := other.length + 1) (n := one.length + 1) (x := (i : Int) - 1) (i := i - 1) (by omega) (by omega)
    have z2 := atI_row (R := R) (m := other.length + 1) (i := i - 1) (x := (j : Int)) (j := j) rfl (by omega)
    walk_at "EV"
  have s3 := e1.trans e3
  rw [← map_if] at dzs
  have n3 : noLs ((if decide ((0 : Int) < (i : Nat)) = true then [R (i - 1) j + p2] else []).map PyData.int) = true := noLs_all fun d hd => by
    obtain ⟨j, _, rfl⟩ := List.mem_map.mp hd
    rfl
  have n3l : ((if decide ((0 : Int) < (i : Nat)) = true then [R (i - 1) j + p2] else []).map PyData.int).length ≤ 1 := by
    rw [List.length_map]
    split <;> simp
  walk_at "NX"
  refine s_ifApp (K := K) (H0 := H1) (l := l) (b := decide ((0 : Int) < (j : Nat))) (d := .int (R i (j - 1) + p3)) rfl hl e3 el3 dzs n3 (by exact Nat.lt_of_le_of_lt n3l (by decide)) (by walk_at "TV") (fun hb => ⟨?_, rfl⟩) rfl fun H4 zs4 e4 el4 dzs4 => ?_
  · rw [decide_eq_true_eq] at hb
    have z1 := atI_tab (R := R) (m := other.length + 1) (n := one.length + 1) (x := (i : Int)) (i := i) rfl (by omega)
    have z2 := atI_row (R := R) (m := other.length + 1) (i := i) (x := (j : Int) - 1) (j := j - 1) (by omega) (by omega)
    walk_at "EV"
  have s4 := e1.trans e4
  rw [← map_if] at dzs4
  have e0 : ([] : List D) ++ (if decide ((0 : Int) < (i : Nat)) = true then [R (i - 1) j + p2] else []).map PyData.int = (if decide ((0 : Int) < (i : Nat)) = true then [R (i - 1) j + p2] else []).map PyData.int := List.nil_append _
  rw [e0, ← List.map_append] at dzs4
  have n4 : noLs (((if decide ((0 : Int) < (i : Nat)) = true then [R (i - 1) j + p2] else []) ++ (if decide ((0 : Int) < (j : Nat)) = true then [R i (j - 1) + p3] else [])).map PyData.int) = true := noLs_all fun d hd => by
    obtain ⟨j, _, rfl⟩ := List.mem_map.mp hd
    rfl
  have n4l : (((if decide ((0 : Int) < (i : Nat)) = true then [R (i - 1) j + p2] else []) ++ (if decide ((0 : Int) < (j : Nat)) = true then [R i (j - 1) + p3] else [])).map PyData.int).length < 1000 := by
    rw [List.length_map, List.length_append]
    split <;> split <;> simp
  walk_at "NX"
  refine s_ifApp (K := K) (H0 := H1) (l := l) (b := (decide ((0 : Int) < (i : Nat)) && decide ((0 : Int) < (j : Nat)))) (d := .int (R (i - 1) (j - 1) + al p4 one other (i - 1) (j - 1))) rfl hl e4 el4 dzs4 n4 n4l (by walk_at "TV") (fun hb => ⟨?_, rfl⟩) rfl fun H5 zs5 e5 el5 dzs5 => ?_
  · rw [Bool.and_eq_true, decide_eq_true_eq, decide_eq_true_eq] at hb
    have z1 := atI_tab (R := R) (m := other.length + 1) (n := one.length + 1) (x := (i : Int) - 1) (i := i - 1) (by omega) (by omega)
    have z2 := atI_row (R := R) (m := other.length + 1) (i := i - 1) (x := (j : Int) - 1) (j := j - 1) (by omega) (by omega)
    have y1 := atI_words (ws := one) (j := (i : Int) - 1) (i := i - 1) (by omega) (by omega)
    have y2 := atI_words (ws := other) (j := (j : Int) - 1) (i := j - 1) (by omega) (by omega)
    have sh1 := (name_shape (ok1.nm (k := i - 1) (by omega))).1
    have sh2 := (name_shape (ok2.nm (k := j - 1) (by omega))).1
    refine ev_op (by walk_at "EV") (ev_if (b := wd one (i - 1) == wd other (j - 1)) (d := .int (al p4 one other (i - 1) (j - 1))) ?_ ?_ ?_) rd_addI
    · refine tv_is ?_ (eqv_strs (a := wd one (i - 1)) (b := wd other (j - 1)))
      walk_at "TV"
    · intro hb
      refine ev_is ev_int ?_
      unfold al
      rw [if_pos hb]
    · intro hb
      refine ev_is (d := .int p4) (by walk_at "EV") ?_
      unfold al
      rw [hb]
      rfl
  rw [← map_if, ← List.map_append] at dzs5
  try dsimp only
  refine s_ret (K := K) (d := .list ((lims p2 p3 p4 one other R i j).map .int)) (ev_var ⟨.ref l, rfl, .lst (SqL.of el5) dzs5⟩) fun u H8 e8 du => k u H8 (e1.trans (e5.trans e8)) du

abbrev s_all_hold : Stmt := topS 45
abbrev N_all_hold : List Str := ["prices", "pair", "rows", "at", "row", "place", "number"]
theorem sc_all_hold : FnScope N_all_hold ["prices", "pair", "rows"] (defScope s_all_hold) := ⟨rfl, rfl, rfl, by decide +kernel, rfl, by decide +kernel, by decide +kernel⟩
structure A5 where
  (p : PP) (one other : List Str) (R : Nat → Nat → Int)
def A5.ok (a : A5) : Prop := okW a.one ∧ okW a.other
def A5.l (a : A5) : List D := [a.p.d, pairD a.one a.other, tab a.R (a.one.length + 1) (a.other.length + 1)]
abbrev spAllHold (K : PySem.W.Frag) : Sp := spR K A5.l A5.ok fun a => .bool (holdAll a.p.p2 a.p.p3 a.p.p4 a.one a.other a.R)
theorem rows_get {R : Nat → Nat → Int} {n m k : Nat} {e : D} (h : ((List.range n).map fun i => PyData.tuple ((List.range m).map fun j => .int (R i j)))[k]? = some e) : k < n ∧ e = .tuple ((List.range m).map fun j => .int (R k j)) := by
  rw [List.getElem?_map] at h
  by_cases hk : k < n
  · rw [List.getElem?_range hk] at h
    cases h
    exact ⟨hk, rfl⟩
  · rw [List.getElem?_eq_none (by rw [List.length_range]; omega)] at h
    cases h
theorem row_get {f : Nat → Int} {m k : Nat} {e : D} (h : ((List.range m).map fun j => PyData.int (f j))[k]? = some e) : k < m ∧ e = .int (f k) := by
  rw [List.getElem?_map] at h
  by_cases hk : k < m
  · rw [List.getElem?_range hk] at h
    cases h
    exact ⟨hk, rfl⟩
  · rw [List.getElem?_eq_none (by rw [List.length_range]; omega)] at h
    cases h
theorem rall_step {p : Nat → Bool} {k : Nat} (h : (List.range k).all p = true) (q : p k = true) : (List.range (k + 1)).all p = true := by
  rw [List.range_succ, List.all_append, h, List.all_cons, q]
  rfl
theorem rall_fail {p : Nat → Bool} {n k : Nat} (hk : k < n) (q : p k = false) : (List.range n).all p = false := by
  cases h : (List.range n).all p with
  | false => rfl
  | true =>
    have := List.all_eq_true.mp h k (List.mem_range.mpr hk)
    rw [q] at this
    cases this
theorem c_all_hold (T : Txt w K mg) (d : DefAt K mg "all_hold" s_all_hold) (G_limits_at : KCal P w K mg base CX0 1 "limits_at" ["prices", "pair", "rows", "spot"] (spLimits K)) : KCal P w K mg base CX0 2 "all_hold" ["prices", "pair", "rows"] (spAllHold K) := by
  refine d.cal (fun _ _ _ _ _ _ us hl => match us, hl with | [_, _, _], _ => rfl) fun f fd F => F.ok sc_all_hold (fun vs H Q E h => spr_len (fun _ => rfl) h) (fun cdv A outer s H vs Q E hr h => ?_)
  have hu := hr.units
  refine ⟨_, (pss_cons (ps_for PassesOwn.never rfl (pi_enumU (by rfl) T.n_enumerate (pa_cons (pv 2) pa_nil)) (pg_tup rfl (pgs_cons (pg_name (i := 3) sc_all_hold.nd rfl (Or.inl rfl)) (pgs_cons (pg_name (i := 4) sc_all_hold.nd rfl (Or.inl rfl)) pgs_nil)))
  (pss_one (ps_for PassesOwn.never rfl (pi_enumU (by rfl) T.n_enumerate (pa_cons (pv 4) pa_nil)) (pg_tup rfl (pgs_cons (pg_name (i := 5) sc_all_hold.nd rfl (Or.inl rfl)) (pgs_cons (pg_name (i := 6) sc_all_hold.nd rfl (Or.inl rfl)) pgs_nil)))
  (pss_one (ps_if (pt_cmpR op_gt (pv 6) (pe_callBK (call_minDef rfl) (by rfl) T.n_min (by decide +kernel) (pa_cons (pc0 G_limits_at hr (by decide) (by rfl) (pa_cons (pv 0) (pa_cons (pv 1) (pa_cons (pv 2) (pa_cons (pe_tup (pa_cons (pv 3) (pa_cons (pv 5) pa_nil))) pa_nil))))) pa_nil) (pk_cons (pv 6) pk_nil)) (nomark _)) (pss_one (ps_ret pe_bl)) pss_nil)))))
  (pss_one (ps_ret pe_bl))), ?_⟩
  obtain ⟨⟨pp, one, other, R⟩, h1, ⟨ok1, ok2⟩, k⟩ := h
  obtain ⟨v0, d0, v1, d1, v2, d2, rfl, e, hd0, hd1, hd2⟩ := dps3 h1 rfl
  cases e
  replace k : ∀ u H', Same H H' → Dp K H' u (.bool (holdAll pp.p2 pp.p3 pp.p4 one other R)) → Q u H' := k
  replace hd0 : Dp K H v0 pp.d := hd0
  replace hd1 : Dp K H v1 (pairD one other) := hd1
  replace hd2 : Dp K H v2 (.tuple ((List.range (one.length + 1)).map fun i => .tuple ((List.range (other.length + 1)).map fun j => .int (R i j)))) := hd2
  replace ok1 : okW one := ok1
  replace ok2 : okW other := ok2
  walk_at "NX"
  refine s_for (K := K) (d := .tuple ((List.range (one.length + 1)).map fun i => .tuple ((List.range (other.length + 1)).map fun j => .int (R i j)))) (yd_enum (by walk_at "AV") (.inr rfl)) fun H2 w2 e2 dw2 => ⟨fun k σ Hc => ∃ o3 o4 o5 o6, σ = [some v0, some v1, some v2, o3, o4, o5, o6] ∧ Same H Hc ∧ Dp K Hc w2 (.tuple ((List.range (one.length + 1)).map fun i => .tuple ((List.range (other.length + 1)).map fun j => .int (R i j)))) ∧
      ((List.range k).all fun i => (List.range (other.length + 1)).all fun j => holdB pp.p2 pp.p3 pp.p4 one other R i j) = true, ?_, ?_, ?_, ?_, ?_⟩
  · rintro i σ Ha Hb sm ⟨o3, o4, o5, o6, rfl, q1, q2, q3⟩
    exact ⟨o3, o4, o5, o6, rfl, q1.trans sm, dp_same sm q2, q3⟩
  · rintro i σ Ha ⟨o3, o4, o5, o6, rfl, q1, q2, q3⟩
    exact q2
  · exact ⟨_, _, _, _, rfl, e2, dw2, rfl⟩
  · rintro i e v σ Hc he ⟨o3, o4, o5, o6, rfl, q1, q2, q3⟩ dv
    obtain ⟨d', hd', rfl⟩ := enumD_of he
    obtain ⟨hi, rfl⟩ := rows_get hd'
    refine g_pair (K := K) dv fun vi vr di dr => ?_
    obtain rfl := dp_int di
    refine s_for (K := K) (d := .tuple ((List.range (other.length + 1)).map fun j => .int (R i j))) (yd_enum (by walk_at "AV") (.inr rfl)) fun H3 w3 e3 dw3 => ⟨fun k σ Hd => ∃ o5 o6, σ = [some v0, some v1, some v2, some (.int (i : Nat)), some vr, o5, o6] ∧ Same H Hd ∧ Same Hc Hd ∧ Dp K Hd w3 (.tuple ((List.range (other.length + 1)).map fun j => .int (R i j))) ∧
        ((List.range k).all fun j => holdB pp.p2 pp.p3 pp.p4 one other R i j) = true, ?_, ?_, ?_, ?_, ?_⟩
    · rintro j σ Ha Hb sm ⟨o5, o6, rfl, r1, r0, r2, r3⟩
      exact ⟨o5, o6, rfl, r1.trans sm, r0.trans sm, dp_same sm r2, r3⟩
    · rintro j σ Ha ⟨o5, o6, rfl, r1, r0, r2, r3⟩
      exact r2
    · exact ⟨_, _, rfl, q1.trans e3, e3, dw3, rfl⟩
    · rintro j e v σ Hd he ⟨o5, o6, rfl, r1, r0, r2, r3⟩ dv
      obtain ⟨d', hd', rfl⟩ := enumD_of he
      obtain ⟨hj, rfl⟩ := row_get hd'
      refine g_pair (K := K) dv fun vj vn dj dn => ?_
      obtain rfl := dp_int dj
      obtain rfl := dp_int dn
      have c : SpD K (spLimits K) Hd [pp.d, pairD one other, .tuple ((List.range (one.length + 1)).map fun i => .tuple ((List.range (other.length + 1)).map fun j => .int (R i j))), .tuple [.int (i : Nat), .int (j : Nat)]] (.list ((lims pp.p2 pp.p3 pp.p4 one other R i j).map .int)) := spr_of ⟨pp, one, other, R, i, j⟩ ⟨ok1, ok2, Nat.le_of_lt_succ hi, Nat.le_of_lt_succ hj⟩
      have lt2 : (2 : Nat) ≤ 100000 := by decide
      try dsimp only
      refine s_if (K := K) (b := !holdB pp.p2 pp.p3 pp.p4 one other R i j) ?_ (fun hb H4 e4 => ?_) fun hb H4 e4 => ?_
      · refine tv_is (tv_T (ev_op (a := .int (R i j)) (b := .int (lmin (R i j) (lims pp.p2 pp.p3 pp.p4 one other R i j))) (by walk_at "EV") (ev_min rfl (av_cons (ev_call (av_cons (by walk_at "EV") (av_cons (by walk_at "EV") (av_cons (by walk_at "EV") (av_cons (ev_tup (by walk_at "AV") (by show 2 ≤ 100000; decide)) av_nil)))) c) av_nil) (by walk_at "AV")) (rd_I0 fun _ => .bl _))) ?_
        rw [lmin_lt, lims_hold]
      · refine s_ret (K := K) (by walk_at "EV") fun u H5 e5 du => k u H5 (r1.trans (e4.trans e5)) ?_
        rw [Bool.not_eq_true'] at hb
        have e : holdAll pp.p2 pp.p3 pp.p4 one other R = false := by
          unfold holdAll
          exact rall_fail hi (rall_fail hj hb)
        rw [e]
        exact du
      · rw [Bool.not_eq_false'] at hb
        exact ⟨_, _, rfl, r1.trans e4, r0.trans e4, dp_same e4 r2, rall_step r3 hb⟩
    · rintro σ Hd ⟨o5, o6, rfl, r1, r0, r2, r3⟩
      rw [enumD_len, List.length_map, List.length_range] at r3
      exact ⟨_, _, _, _, rfl, r1, dp_same r0 q2, rall_step q3 r3⟩
  · rintro σ Hc ⟨o3, o4, o5, o6, rfl, q1, q2, q3⟩
    rw [enumD_len, List.length_map, List.length_range] at q3
    try dsimp only
    refine s_ret (K := K) (by walk_at "EV") fun u H5 e5 du => k u H5 (q1.trans e5) ?_
    have e : holdAll pp.p2 pp.p3 pp.p4 one other R = true := q3
    rw [e]
    exact du
end
end K5
set_option Elab.async false
set_option linter.all false
set_option maxRecDepth 100000
set_option maxHeartbeats 4000000
/-! The law's own checks: a word, rows. -/
namespace K5
open PySem L2 PySem.Spec PyProof.Rows
local macro_rules | `(tactic| walk_at "DP") => `(tactic| first | with_reducible assumption | with_reducible exact Dp.int _ | with_reducible exact Dp.str _ | with_reducible exact Dp.bl _ | with_reducible exact Dp.non | with_reducible exact dp_up (by assumption) (by assumption))
local macro_rules | `(tactic| walk_at "SH") => `(tactic| first | with_reducible assumption | rfl)
local macro_rules | `(tactic| walk_at "RD") => `(tactic| first | with_reducible assumption | exact rd_addI | exact rd_I0 fun _ => .int _ | exact rd_I0 fun _ => .bl _ | exact rd_ixL (by with_reducible assumption) | exact rd_ixT (by with_reducible assumption) | exact rd_ixS (by with_reducible assumption) (by with_reducible assumption) | exact rd_eqD (by walk_at "SH") (by walk_at "SH") | exact rd_neD (by walk_at "SH") (by walk_at "SH") | exact rd_inS | exact rd_notN | exact rd_isN | exact rd_addL (by with_reducible assumption) | exact rd_addT (by with_reducible assumption) | exact rd_addS (by with_reducible assumption))
local macro_rules | `(tactic| walk_at "OV") => `(tactic| first | with_reducible exact ov_no | ((with_reducible apply ov_some); walk_at "EV"))
local macro_rules | `(tactic| walk_at "AV") => `(tactic| first | with_reducible assumption | with_reducible exact av_nil | ((with_reducible apply av_cons); walk_at "EV"; walk_at "AV"))
local macro_rules | `(tactic| walk_at "RC") => `(tactic| first | with_reducible assumption | exact rc_len (by (first | with_reducible assumption | trivial)) | exact rc_tupL | exact rc_tupT | exact rc_lstL | exact rc_lstT | exact rc_all | exact rc_sum | exact rc_min2 | exact rc_min3)
local macro_rules | `(tactic| walk_at "KIT") => `(tactic| first | with_reducible exact kit_int _ | with_reducible exact kit_bool _ | with_reducible exact kit_str _ | with_reducible exact kit_tuple _)
local macro_rules | `(tactic| walk_at "EV") => `(tactic| first | with_reducible assumption | with_reducible exact ev_int | with_reducible exact ev_str | with_reducible exact ev_bl | with_reducible exact ev_non | ((with_reducible apply ev_var); exact sl_mk rfl (by walk_at "DP")) | ((with_reducible apply ev_op); walk_at "EV"; walk_at "EV"; walk_at "RD") | ((with_reducible apply ev_neg); walk_at "EV") | ((with_reducible apply ev_tup); walk_at "AV"; (first | (with_reducible assumption) | decide)) | ((with_reducible apply ev_lst); walk_at "AV"; (first | (with_reducible assumption) | decide)) | ((with_reducible apply ev_call); walk_at "AV"; with_reducible assumption) | ((with_reducible apply ev_isi2); exact rfl; walk_at "EV"; walk_at "KIT") | ((with_reducible apply ev_cb); walk_at "AV"; walk_at "RC") | ((with_reducible apply ev_chain); walk_at "EV"; walk_at "EV"; walk_at "RD"; intro _; walk_at "EV"; intro _; walk_at "RD") | ((with_reducible apply ev_andV); walk_at "EV"; intro _; walk_at "EV") | ((with_reducible apply ev_orV); walk_at "EV"; intro _; walk_at "EV") | ((with_reducible apply ev_notV); walk_at "EV") | ((with_reducible apply ev_sl2); exact rfl; walk_at "EV"; walk_at "OV"; walk_at "OV"; walk_at "SLD") | ((with_reducible apply ev_rev2); exact rfl; walk_at "EV"))
local macro_rules | `(tactic| walk_at "SLD") => `(tactic| first | with_reducible exact SlD.l | with_reducible exact SlD.t | with_reducible exact SlD.s (by with_reducible assumption))
local macro_rules | `(tactic| walk_at "TV") => `(tactic| first | with_reducible assumption | ((with_reducible apply tv_and); walk_at "TV"; intro _; walk_at "TV") | ((with_reducible apply tv_or); walk_at "TV"; intro _; walk_at "TV") | ((with_reducible apply tv_not); walk_at "TV") | ((with_reducible apply tv_B); walk_at "EV") | ((with_reducible apply tv_T); walk_at "EV"))
local macro_rules | `(tactic| walk_at "NX") => `(tactic| ((try dsimp only); (try with_reducible apply s_next); (try dsimp only); (try with_reducible apply s_seq)))

theorem rd_notInS {K : PySem.W.Frag} {H : Hp} {c : Nat} {z : Str} : RD K (fun x y H Q => ∃ (c : Nat) (z : Str), x = .str ⟨#[c]⟩ ∧ y = .str z ∧ Q (.bl (!decide (c ∈ z.cps.toList))) H) H (.str ⟨#[c]⟩) (.str z) (.bool (!decide (c ∈ z.cps.toList))) := fun H1 x y _ dx dy Q q => ⟨c, z, dp_str dx, dp_str dy, q _ H1 (Same.refl _) (.bl _)⟩
theorem eqv_nil {xs : List D} : PyData.eqv (.list xs) (.list []) = xs.isEmpty := by cases xs <;> rfl
theorem eqv_nilT {xs : List D} : PyData.eqv (.tuple xs) (.tuple []) = xs.isEmpty := by cases xs <;> rfl
theorem sh_list {n : Nat} {xs : List D} (h : ∀ x ∈ xs, gdn n x = true) (hn : n ≤ 50) : SeqAt.shaped (.list xs) = true := gdn_ok (n := n + 1) (List.all_eq_true.mpr h) (by omega)
theorem sh_tup {n : Nat} {xs : List D} (h : ∀ x ∈ xs, gdn n x = true) (hn : n ≤ 50) : SeqAt.shaped (.tuple xs) = true := gdn_ok (n := n + 1) (List.all_eq_true.mpr h) (by omega)
theorem filter_isEmpty {α : Type} {p : α → Bool} : ∀ {xs : List α}, (xs.filter p).isEmpty = xs.all fun x => !p x
  | [] => rfl
  | x :: xs => by
    cases h : p x with
    | true => rw [List.filter_cons_of_pos h, List.all_cons, h]; rfl
    | false => rw [List.filter_cons_of_neg (by simp [h]), List.all_cons, h, filter_isEmpty]; rfl
theorem gdn_cps {n : Nat} {z : Str} (h : gdn n (.str z) = true) : ∀ c ∈ z.cps.toList, c < 0x110000 := by
  have h' : (z.cps.all (· < 0x110000) && decide (z.length ≤ 1000)) = true := by cases n <;> exact h
  have h2 := (Bool.and_eq_true_iff.mp h').1
  rw [← Array.all_toList] at h2
  exact fun c hc => of_decide_eq_true (List.all_eq_true.mp h2 c hc)
section
variable {P : Program} {w : World} {K : PySem.W.Frag} {mg : Str → Option Value} {base : Heap}
abbrev s_L_is_word : Stmt := topS 55
abbrev N_L_is_word : List Str := ["_law_thing", "_law_sign"]
theorem sc_L_is_word : FnScope N_L_is_word ["_law_thing"] (defScope s_L_is_word) := ⟨rfl, rfl, rfl, by decide +kernel, rfl, by decide +kernel, by decide +kernel⟩
abbrev spIsWord (K : PySem.W.Frag) : Sp := spR K (fun a : D => [a]) (fun a => gdn 6 a = true) fun a => .bool (nameD a)
theorem spd_isWord {H : Hp} {d : D} (h : gdn 6 d = true) : SpD K (spIsWord K) H [d] (.bool (nameD d)) := spr_of d h
def badCh : D → Bool
  | .str z => !(z.cps.toList.all letB) | _ => false
theorem c_L_is_word (T : Txt w K mg) (d : DefAt K mg "_law_is_word" s_L_is_word) : KCal P w K mg base CX0 1 "_law_is_word" ["_law_thing"] (spIsWord K) := by
  refine d.cal (fun _ _ _ _ _ _ us hl => match us, hl with | [_], _ => rfl) fun f fd F => F.ok sc_L_is_word (fun vs H Q E h => spr_len (fun _ => rfl) h) (fun cdv A outer s H vs Q E hr h => ?_)
  have hu := hr.units
  refine ⟨_, (pss_cons (ps_if (PW.pt (pw_or (pt_not (pt_val (pe_callB call_isi (by rfl) T.n_isinstance (by decide +kernel) (pa_cons (pv 0) (pa_cons (pe_bltn (v := .ty "str") rfl T.n_str (by decide +kernel) rfl) pa_nil))))) (pw_or1 (pt_not (pt_chain op_lt op_lt pe_int (pe_callB call_len (by rfl) T.n_len (by decide +kernel) (pa_cons (pv 0) pa_nil)) pe_int))))) (pss_one (ps_ret pe_bl)) pss_nil)
  (pss_one (ps_ret (pe_cmpR (op_eqD hu) (pe_lc (own := [("_law_sign", 1)]) rfl sc_L_is_word.nd (pi_any (pv 0)) (blkOk_by (N := N_L_is_word) (sc := defScope s_L_is_word) (by decide +kernel)) (fun _ _ _ _ _ => (pg_name (i := 1) sc_L_is_word.nd rfl (Or.inl rfl))) (fun _ _ _ _ _ => (pts_one (pt_cmpR op_notIn_sign (pv 1) pe_str (by rfl)))) (fun _ _ _ _ _ => (pv 1))) (pe_lst pa_nil) (nomark _))))), ?_⟩
  obtain ⟨d, h1, hg, k⟩ := h
  obtain ⟨v, d', rfl, e, hd⟩ := dps1 h1 rfl
  cases e
  walk_at "NX"
  cases d with
  | str z =>
    have hz : z.length ≤ 1000 := gdn_short hg
    have hs : sizedD (.str z) := Nat.le_trans hz (by decide)
    replace k : ∀ u H', Same H H' → Dp K H' u (.bool (nameS z)) → Q u H' := k
    have ln : (decide ((0 : Int) < (z.length : Nat)) && decide (((z.length : Nat) : Int) < 9)) = (decide ((1 : Int) ≤ (z.length : Nat)) && decide (((z.length : Nat) : Int) ≤ 8)) := by
      congr 1 <;> exact decide_eq_decide.mpr (by omega)
    apply s_if (K := K)
    · walk_at "TV"
    · intro hb H1 e1
      have hb' : (!(decide ((0 : Int) < (z.length : Nat)) && decide (((z.length : Nat) : Int) < 9))) = true := hb
      rw [ln, Bool.not_eq_true'] at hb'
      refine s_ret (K := K) (by walk_at "EV") fun u H2 e2 du => k u H2 (e1.trans e2) ?_
      unfold nameS
      rw [hb', Bool.false_and]
      exact du
    · intro hb H1 e1
      have hb' : (!(decide ((0 : Int) < (z.length : Nat)) && decide (((z.length : Nat) : Int) < 9))) = false := hb
      rw [ln, Bool.not_eq_false'] at hb'
      walk_at "NX"
      have hsub : ∀ e ∈ ((z.cps.toList.map fun c => (PyData.str ⟨#[c]⟩ : D)).filter badCh).map id, gdn 1 e = true := fun e he => by
        rw [List.map_id] at he
        obtain ⟨c, hc, rfl⟩ := List.mem_map.mp (List.mem_filter.mp he).1
        have := gdn_cps hg c hc
        show ((#[c].all (· < 0x110000)) && decide ((⟨#[c]⟩ : Str).length ≤ 1000)) = true
        simp [this]
        show 1 ≤ 1000
        omega
      have sh1 := sh_list hsub (by decide)
      have sh2 : SeqAt.shaped (.list []) = true := rfl
      refine s_ret (K := K) (d := .bool (PyData.eqv (.list (((z.cps.toList.map fun c => (PyData.str ⟨#[c]⟩ : D)).filter badCh).map id)) (.list []))) (ev_op (ev_lc (p := badCh) (f := id) (yd_any (by walk_at "EV") rfl) ?_ (by rw [List.length_map, Array.length_toList]; exact Nat.le_trans hz (by decide))) (by walk_at "EV") (rd_eqD sh1 sh2)) fun u H2 e2 du => k u H2 (e1.trans e2) ?_
      · intro e he v2 H2 k2 dv R q
        obtain ⟨c, hc, rfl⟩ := List.mem_map.mp he
        refine q _ wipe1 ?_ fun _ => ⟨?_, rfl⟩
        · refine tv_is (a := !decide (c ∈ alph.cps.toList)) (tv_T (ev_op (by walk_at "EV") (ev_str (x := alph)) rd_notInS)) ?_
          rw [let_alph]
          show (!letB c) = !([c].all letB)
          simp
        · exact ev_var ⟨_, rfl, dv⟩
      · rw [eqv_nil, List.map_id, filter_isEmpty, List.all_map] at du
        unfold nameS
        rw [hb', Bool.true_and]
        have e : (z.cps.toList.all ((fun x => !badCh x) ∘ fun c => (PyData.str ⟨#[c]⟩ : D))) = z.cps.toList.all letB := by
          congr 1
          funext c
          show (!!([c].all letB)) = letB c
          simp
        rw [← e]
        exact du
  | _ =>
    apply s_if (K := K)
    · with_reducible apply tv_or (b := false)
      · walk_at "TV"
      · intro z
        exact nomatch z
    · intro hb H1 e1
      apply s_ret (K := K)
      · walk_at "EV"
      · exact fun u H2 e2 du => k u H2 (e1.trans e2) du
    · intro z
      exact nomatch z

abbrev s_L_are_rows : Stmt := topS 57
abbrev N_L_are_rows : List Str := ["_law_thing", "_law_rows", "_law_width", "_law_row", "_law_one"]
theorem sc_L_are_rows : FnScope N_L_are_rows ["_law_thing", "_law_rows", "_law_width"] (defScope s_L_are_rows) := ⟨rfl, rfl, rfl, by decide +kernel, rfl, by decide +kernel, by decide +kernel⟩
/-- within rows that are tuples no list -/
def okR (d : D) : Prop := ∀ rs, d = .tuple rs → ∀ xs, PyData.tuple xs ∈ rs → noLs xs = true
abbrev spRows (K : PySem.W.Frag) : Sp := spR K (fun a : D × Nat × Nat => [a.1, .int (a.2.1 : Nat), .int (a.2.2 : Nat)]) (fun a => gdn 6 a.1 = true ∧ okR a.1 ∧ a.2.1 ≤ 100 ∧ a.2.2 ≤ 100) fun a => .bool (potB a.2.1 a.2.2 a.1)
theorem c_L_are_rows (T : Txt w K mg) (d : DefAt K mg "_law_are_rows" s_L_are_rows) : KCal P w K mg base CX0 1 "_law_are_rows" ["_law_thing", "_law_rows", "_law_width"] (spRows K) := by
  refine d.cal (fun _ _ _ _ _ _ us hl => match us, hl with | [_, _, _], _ => rfl) fun f fd F => F.ok sc_L_are_rows (fun vs H Q E h => spr_len (fun _ => rfl) h) (fun cdv A outer s H vs Q E hr h => ?_)
  have hu := hr.units
  refine ⟨_, (pss_cons (ps_if (PW.pt (pw_or (pt_not (pt_val (pe_callB call_isi (by rfl) T.n_isinstance (by decide +kernel) (pa_cons (pv 0) (pa_cons (pe_bltn (v := .ty "tuple") rfl T.n_tuple (by decide +kernel) rfl) pa_nil))))) (pw_or1 (pt_cmpR (op_neD hu) (pe_callB call_len (by rfl) T.n_len (by decide +kernel) (pa_cons (pv 0) pa_nil)) (pv 1) (nomark _))))) (pss_one (ps_ret pe_bl)) pss_nil)
  (pss_cons (ps_for PassesOwn.never rfl (pi_any (pv 0)) (pg_name (i := 3) sc_L_are_rows.nd rfl (Or.inl rfl))
  (pss_cons (ps_if (PW.pt (pw_or (pt_not (pt_val (pe_callB call_isi (by rfl) T.n_isinstance (by decide +kernel) (pa_cons (pv 3) (pa_cons (pe_bltn (v := .ty "tuple") rfl T.n_tuple (by decide +kernel) rfl) pa_nil))))) (pw_or1 (pt_cmpR (op_neD hu) (pe_callB call_len (by rfl) T.n_len (by decide +kernel) (pa_cons (pv 3) pa_nil)) (pv 2) (nomark _))))) (pss_one (ps_ret pe_bl)) pss_nil)
  (pss_one (ps_if (pt_cmpR (op_neD hu) (pe_lc (own := [("_law_one", 4)]) rfl sc_L_are_rows.nd (pi_any (pv 3)) (blkOk_by (N := N_L_are_rows) (sc := defScope s_L_are_rows) (by decide +kernel)) (fun _ _ _ _ _ => (pg_name (i := 4) sc_L_are_rows.nd rfl (Or.inl rfl))) (fun _ _ _ _ _ => (pts_one (PW.pt (pw_or (pt_not (pt_val (pe_callB (show CallR _ _ (rIsi K) from call_isi) (by rfl) T.n_isinstance (by decide +kernel) (pa_cons (pv 4) (pa_cons (pe_bltn (v := .ty "int") rfl T.n_int (by decide +kernel) rfl) pa_nil))))) (pw_or1 (pt_val (pe_callB (show CallR _ _ (rIsi K) from call_isi) (by rfl) T.n_isinstance (by decide +kernel) (pa_cons (pv 4) (pa_cons (pe_bltn (v := .ty "bool") rfl T.n_bool (by decide +kernel) rfl) pa_nil))))))))) (fun _ _ _ _ _ => (pv 4))) (pe_lst pa_nil) (nomark _)) (pss_one (ps_ret pe_bl)) pss_nil))))
  (pss_one (ps_ret pe_bl)))), ?_⟩
  obtain ⟨⟨d, n, m⟩, h1, ⟨hg, hR, hn100, hm100⟩, k⟩ := h
  obtain ⟨v0, d0, v1, d1, v2, d2, rfl, e, hd0, hd1, hd2⟩ := dps3 h1 rfl
  cases e
  replace hg : gdn 6 d = true := hg
  replace hm100 : m ≤ 100 := hm100
  replace hR : okR d := hR
  replace hd0 : Dp K H v0 d := hd0
  replace hd1 : Dp K H v1 (.int (n : Nat)) := hd1
  replace hd2 : Dp K H v2 (.int (m : Nat)) := hd2
  replace k : ∀ u H', Same H H' → Dp K H' u (.bool (potB n m d)) → Q u H' := k
  walk_at "NX"
  cases d with
  | tuple rs =>
    have hs : sizedD (.tuple rs) := trivial
    refine s_if (K := K) (b := !decide (rs.length = n)) ?_ (fun hb H1 e1 => ?_) fun hb H1 e1 => ?_
    · apply tv_is
      · walk_at "TV"
      · show (false || !(((rs.length : Nat) : Int) == ((n : Nat) : Int))) = _
        rw [nat_eqB, Bool.false_or]
    · refine s_ret (K := K) (by walk_at "EV") fun u H2 e2 du => k u H2 (e1.trans e2) ?_
      have e : potB n m (.tuple rs) = false := by
        rw [Bool.not_eq_true'] at hb
        rw [potB_tup, hb, Bool.false_and]
      rw [e]
      exact du
    · rw [Bool.not_eq_false'] at hb
      walk_at "NX"
      refine s_for (K := K) (d := .tuple rs) (ds := rs) (yd_any (by walk_at "EV") rfl) fun H2 w2 e2 dw2 => ⟨fun k σ Hc => ∃ o3 o4, σ = [some v0, some v1, some v2, o3, o4] ∧ Same H Hc ∧ Dp K Hc w2 (.tuple rs) ∧ (rs.take k).all (rowB m) = true, ?_, ?_, ?_, ?_, ?_⟩
      · rintro i σ Ha Hb sm ⟨o3, o4, rfl, q1, q2, q3⟩
        exact ⟨o3, o4, rfl, q1.trans sm, dp_same sm q2, q3⟩
      · rintro i σ Ha ⟨o3, o4, rfl, q1, q2, q3⟩
        exact q2
      · exact ⟨_, _, rfl, e1.trans e2, dw2, rfl⟩
      · rintro i e v σ Hc he ⟨o3, o4, rfl, q1, q2, q3⟩ dv
        have ge := gdn_tup hg e (List.mem_of_getElem? he)
        have bad : rowB m e = false → ∀ u H', Same H H' → Dp K H' u (.bool false) → Q u H' := fun hb u H' e' du => k u H' e' (by
          rw [potB_tup, all_fail he hb, Bool.and_false]
          exact du)
        cases e with
        | tuple xs =>
          have hs' : sizedD (.tuple xs) := trivial
          walk_at "NX"
          refine s_if (K := K) (b := !decide (xs.length = m)) ?_ (fun hb H3 e3 => ?_) fun hb H3 e3 => ?_
          · apply tv_is
            · walk_at "TV"
            · show (false || !(((xs.length : Nat) : Int) == ((m : Nat) : Int))) = _
              rw [nat_eqB, Bool.false_or]
          · rw [Bool.not_eq_true'] at hb
            refine s_ret (K := K) (by walk_at "EV") fun u H4 e4 du => bad ?_ u H4 (q1.trans (e3.trans e4)) du
            rw [rowB_tup, hb, Bool.false_and]
          · rw [Bool.not_eq_false'] at hb
            have q13 := q1.trans e3
            have hxm : xs.length = m := of_decide_eq_true hb
            walk_at "NX"
            have nl := hR rs rfl xs (List.mem_of_getElem? he)
            have gx := gdn_tup ge
            have sh1 : SeqAt.shaped (.list ((xs.filter fun d => !isInt d).map id)) = true := sh_list (n := 6) (fun x hx => gx x (List.mem_filter.mp (by rwa [List.map_id] at hx)).1) (by decide)
            have sh2 : SeqAt.shaped (.list []) = true := rfl
            refine s_if (K := K) (b := !(xs.map isInt).all id) ?_ (fun hb2 H5 e5 => ?_) fun hb2 H5 e5 => ?_
            · refine tv_is (tv_T (ev_op (a := .list ((xs.filter fun d => !isInt d).map id)) (b := .list []) (ev_lc (p := fun d => !isInt d) (f := id) (yd_any (by walk_at "EV") rfl) ?_ (by omega)) (by walk_at "EV") (rd_neD sh1 sh2))) ?_
              · intro e' he' v' H6 k6 dv' R q
                refine q _ wipe1 ?_ fun _ => ⟨ev_var ⟨_, rfl, dv'⟩, noLs_mem nl e' he'⟩
                apply tv_is
                · walk_at "TV"
                · cases e' <;> rfl
              · rw [eqv_nil, List.map_id, filter_isEmpty, List.all_map]
                congr 2
                funext x
                show (!!isInt x) = isInt x
                rw [Bool.not_not]
            · rw [Bool.not_eq_true'] at hb2
              refine s_ret (K := K) (by walk_at "EV") fun u H4 e4 du => bad ?_ u H4 (q13.trans (e5.trans e4)) du
              rw [rowB_tup, hb2, Bool.and_false]
            · rw [Bool.not_eq_false'] at hb2
              exact ⟨_, _, rfl, q13.trans e5, dp_same (e3.trans e5) q2, all_step q3 he (by rw [rowB_tup, hb, hb2]; rfl)⟩
        | _ =>
          walk_at "NX"
          apply s_if (K := K)
          · with_reducible apply tv_or (b := false)
            · walk_at "TV"
            · intro z
              exact nomatch z
          · intro hb H3 e3
            refine s_ret (K := K) (by walk_at "EV") fun u H4 e4 du => bad rfl u H4 (q1.trans (e3.trans e4)) du
          · intro z
            exact nomatch z
      · rintro σ Hc ⟨o3, o4, rfl, q1, q2, q3⟩
        rw [List.take_length] at q3
        walk_at "NX"
        refine s_ret (K := K) (by walk_at "EV") fun u H4 e4 du => k u H4 (q1.trans e4) ?_
        have e : potB n m (.tuple rs) = true := by
          rw [potB_tup, hb, q3]
          rfl
        rw [e]
        exact du
  | _ =>
    apply s_if (K := K)
    · with_reducible apply tv_or (b := false)
      · walk_at "TV"
      · intro z
        exact nomatch z
    · intro hb H1 e1
      apply s_ret (K := K)
      · walk_at "EV"
      · exact fun u H2 e2 du => k u H2 (e1.trans e2) du
    · intro z
      exact nomatch z
end
end K5
set_option Elab.async false
set_option linter.all false
set_option maxRecDepth 100000
set_option maxHeartbeats 4000000
/-! The law's walk over the steps. -/
namespace K5
open PySem L2 PySem.Spec PyProof.Rows
local macro_rules | `(tactic| walk_at "DP") => `(tactic| first | with_reducible assumption | with_reducible exact Dp.int _ | with_reducible exact Dp.str _ | with_reducible exact Dp.bl _ | with_reducible exact Dp.non | with_reducible exact dp_up (by assumption) (by assumption))
local macro_rules | `(tactic| walk_at "SH") => `(tactic| first | with_reducible assumption | rfl)
local macro_rules | `(tactic| walk_at "RD") => `(tactic| first | with_reducible assumption | exact rd_addI | exact rd_I0 fun _ => .int _ | exact rd_I0 fun _ => .bl _ | exact rd_ixL (by with_reducible assumption) | exact rd_ixT (by with_reducible assumption) | exact rd_ixS (by with_reducible assumption) (by with_reducible assumption) | exact rd_eqD (by walk_at "SH") (by walk_at "SH") | exact rd_neD (by walk_at "SH") (by walk_at "SH") | exact rd_inS | exact rd_notN | exact rd_isN | exact rd_addL (by with_reducible assumption) | exact rd_addT (by with_reducible assumption) | exact rd_addS (by with_reducible assumption))
local macro_rules | `(tactic| walk_at "OV") => `(tactic| first | with_reducible exact ov_no | ((with_reducible apply ov_some); walk_at "EV"))
local macro_rules | `(tactic| walk_at "AV") => `(tactic| first | with_reducible assumption | with_reducible exact av_nil | ((with_reducible apply av_cons); walk_at "EV"; walk_at "AV"))
local macro_rules | `(tactic| walk_at "RC") => `(tactic| first | with_reducible assumption | exact rc_len (by (first | with_reducible assumption | trivial)) | exact rc_tupL | exact rc_tupT | exact rc_lstL | exact rc_lstT | exact rc_all | exact rc_sum | exact rc_min2 | exact rc_min3)
local macro_rules | `(tactic| walk_at "KIT") => `(tactic| first | with_reducible exact kit_int _ | with_reducible exact kit_bool _ | with_reducible exact kit_str _ | with_reducible exact kit_tuple _)
local macro_rules | `(tactic| walk_at "EV") => `(tactic| first | with_reducible assumption | with_reducible exact ev_int | with_reducible exact ev_str | with_reducible exact ev_bl | with_reducible exact ev_non | ((with_reducible apply ev_var); exact sl_mk rfl (by walk_at "DP")) | ((with_reducible apply ev_op); walk_at "EV"; walk_at "EV"; walk_at "RD") | ((with_reducible apply ev_neg); walk_at "EV") | ((with_reducible apply ev_tup); walk_at "AV"; (first | (with_reducible assumption) | decide)) | ((with_reducible apply ev_lst); walk_at "AV"; (first | (with_reducible assumption) | decide)) | ((with_reducible apply ev_call); walk_at "AV"; with_reducible assumption) | ((with_reducible apply ev_isi2); exact rfl; walk_at "EV"; walk_at "KIT") | ((with_reducible apply ev_cb); walk_at "AV"; walk_at "RC") | ((with_reducible apply ev_chain); walk_at "EV"; walk_at "EV"; walk_at "RD"; intro _; walk_at "EV"; intro _; walk_at "RD") | ((with_reducible apply ev_andV); walk_at "EV"; intro _; walk_at "EV") | ((with_reducible apply ev_orV); walk_at "EV"; intro _; walk_at "EV") | ((with_reducible apply ev_notV); walk_at "EV") | ((with_reducible apply ev_sl2); exact rfl; walk_at "EV"; walk_at "OV"; walk_at "OV"; walk_at "SLD") | ((with_reducible apply ev_rev2); exact rfl; walk_at "EV"))
local macro_rules | `(tactic| walk_at "SLD") => `(tactic| first | with_reducible exact SlD.l | with_reducible exact SlD.t | with_reducible exact SlD.s (by with_reducible assumption))
local macro_rules | `(tactic| walk_at "TV") => `(tactic| first | with_reducible assumption | ((with_reducible apply tv_and); walk_at "TV"; intro _; walk_at "TV") | ((with_reducible apply tv_or); walk_at "TV"; intro _; walk_at "TV") | ((with_reducible apply tv_not); walk_at "TV") | ((with_reducible apply tv_B); walk_at "EV") | ((with_reducible apply tv_T); walk_at "EV"))
local macro_rules | `(tactic| walk_at "NX") => `(tactic| ((try dsimp only); (try with_reducible apply s_next); (try dsimp only); (try with_reducible apply s_seq)))

def kindD : D → D
  | .tuple (k :: _) => k | _ => .none
def wordE : D → D
  | .tuple [k, w] => if (!isN k && nameD w) = true then w else .none
  | _ => .none
theorem decS_name {d : D} {s : Step} (h : decS d = some s) : stepOk s := by
  unfold decS at h
  split at h
  · split at h
    · cases h; trivial
    · split at h
      · cases h; trivial
      · cases h
  · split at h
    · rename_i hn
      split at h
      · split at h
        · cases h; exact hn
        · split at h
          · cases h; exact hn
          · cases h
      · cases h
    · cases h
  · cases h
section
variable {p2 p3 p4 : Int} {one : List Str} {i : Nat} {ws : List Str} {cost : Int} {e : D}
def lfB (one : List Str) (i : Nat) : Bool := decide ((i : Int) < ((one.length : Nat) : Int))
theorem lfB_iff : lfB one i = true ↔ i < one.length := by
  unfold lfB
  rw [decide_eq_true_eq]
  omega
def c1B (e : D) : Bool := PyData.eqv (kindD e) (.str "put") && !isN (wordE e)
def c2B (one : List Str) (i : Nat) (e : D) : Bool := PyData.eqv (kindD e) (.str "other") && (!isN (wordE e) && (lfB one i && !PyData.eqv (wordE e) (.str (wd one i))))
def c3B (one : List Str) (i : Nat) (e : D) : Bool := PyData.eqv (kindD e) (.str "kept") && (PyData.eqv (.int ((lenD e : Nat) : Int)) (.int 1) && lfB one i)
def c4B (one : List Str) (i : Nat) (e : D) : Bool := PyData.eqv (kindD e) (.str "left") && (PyData.eqv (.int ((lenD e : Nat) : Int)) (.int 1) && lfB one i)
theorem kind_tup {z : Str} (h : PyData.eqv (kindD e) (.str z) = true) : ∃ r, e = .tuple (.str z :: r) := by
  have h := eqv_str.mp h
  unfold kindD at h
  split at h
  · subst h
    exact ⟨_, rfl⟩
  · cases h
theorem word_tup {z : Str} (h1 : PyData.eqv (kindD e) (.str z) = true) (h2 : (!isN (wordE e)) = true) : ∃ y, e = .tuple [.str z, .str y] ∧ nameS y = true ∧ wordE e = .str y := by
  obtain ⟨r, rfl⟩ := kind_tup h1
  match r, h2 with
  | [], h => exact nomatch h
  | [w], h =>
    have h3 : (!isN (if (!isN (.str z) && nameD w) = true then w else .none)) = true := h
    split at h3
    · rename_i hn
      have hw : nameD w = true := hn
      cases w with
      | str y => exact ⟨y, rfl, hw, if_pos hn⟩
      | _ => exact nomatch hw
    · exact nomatch h3
  | _ :: _ :: _, h => exact nomatch h
theorem go1 (h : c1B e = true) : ∃ y, wordE e = .str y ∧ nameS y = true ∧ goD p2 p3 p4 one (i, ws, cost) e = some (i, ws ++ [y], cost + p3) := by
  obtain ⟨h1, h2⟩ := Bool.and_eq_true_iff.mp h
  obtain ⟨y, rfl, hy, hw⟩ := word_tup h1 h2
  refine ⟨y, hw, hy, ?_⟩
  have e : decS (.tuple [.str "put", .str y]) = some (.put y) := decS_step (s := .put y) fun w hw => by rcases hw with hw | hw <;> cases hw; exact hy
  unfold goD
  rw [e]
  rfl
theorem go2 (h : c2B one i e = true) : ∃ y, wordE e = .str y ∧ nameS y = true ∧ i < one.length ∧ goD p2 p3 p4 one (i, ws, cost) e = some (i + 1, ws ++ [y], cost + p4) := by
  unfold c2B at h
  rw [Bool.and_eq_true, Bool.and_eq_true, Bool.and_eq_true] at h
  obtain ⟨h1, h2, h3, h4⟩ := h
  obtain ⟨y, rfl, hy, hw⟩ := word_tup h1 h2
  have hi := lfB_iff.mp h3
  refine ⟨y, hw, hy, hi, ?_⟩
  have e : decS (.tuple [.str "other", .str y]) = some (.other y) := decS_step (s := .other y) fun w hw => by rcases hw with hw | hw <;> cases hw; exact hy
  rw [hw, eqv_strs] at h4
  unfold goD
  rw [e]
  show (if i < one.length ∧ y ≠ wd one i then _ else _) = _
  rw [if_pos ⟨hi, fun z => by rw [z] at h4; simp at h4⟩]
theorem len1 {r : List D} {z : Str} (h : PyData.eqv (.int ((lenD (.tuple (.str z :: r)) : Nat) : Int)) (.int 1) = true) : r = [] := by
  have h : (((r.length + 1 : Nat) : Int) == 1) = true := h
  have h := eq_of_beq h
  cases r with
  | nil => rfl
  | cons _ _ => simp only [List.length_cons] at h; omega
theorem go3 (h : c3B one i e = true) : i < one.length ∧ goD p2 p3 p4 one (i, ws, cost) e = some (i + 1, ws ++ [wd one i], cost) := by
  obtain ⟨h1, h2⟩ := Bool.and_eq_true_iff.mp h
  obtain ⟨h2, h3⟩ := Bool.and_eq_true_iff.mp h2
  have hi := lfB_iff.mp h3
  obtain ⟨r, rfl⟩ := kind_tup h1
  have := len1 h2
  subst this
  refine ⟨hi, ?_⟩
  have e : decS (.tuple [.str "kept"]) = some .kept := rfl
  unfold goD
  rw [e]
  show (if i < one.length then _ else _) = _
  rw [if_pos hi]
theorem go4 (h : c4B one i e = true) : i < one.length ∧ goD p2 p3 p4 one (i, ws, cost) e = some (i + 1, ws, cost + p2) := by
  obtain ⟨h1, h2⟩ := Bool.and_eq_true_iff.mp h
  obtain ⟨h2, h3⟩ := Bool.and_eq_true_iff.mp h2
  have hi := lfB_iff.mp h3
  obtain ⟨r, rfl⟩ := kind_tup h1
  have := len1 h2
  subst this
  refine ⟨hi, ?_⟩
  have e : decS (.tuple [.str "left"]) = some .left := rfl
  unfold goD
  rw [e]
  show (if i < one.length then _ else _) = _
  rw [if_pos hi]
theorem go5 (h1 : c1B e = false) (h2 : c2B one i e = false) (h3 : c3B one i e = false) (h4 : c4B one i e = false) : goD p2 p3 p4 one (i, ws, cost) e = none := by
  unfold goD
  cases hd : decS e with
  | none => rfl
  | some s =>
    have he := decS_some hd
    have ok := decS_name hd
    subst he
    have nw : ∀ y k, nameS y = true → wordE (.tuple [.str k, .str y]) = .str y := fun y k hy => if_pos hy
    show go p2 p3 p4 one (i, ws, cost) s = none
    cases s with
    | kept =>
      have : lfB one i = false := h3
      show (if i < one.length then _ else _) = _
      rw [if_neg (fun z => by rw [lfB_iff.mpr z] at this; cases this)]
    | left =>
      have : lfB one i = false := h4
      show (if i < one.length then _ else _) = _
      rw [if_neg (fun z => by rw [lfB_iff.mpr z] at this; cases this)]
    | put y =>
      unfold c1B at h1
      rw [show wordE (stepD (.put y)) = .str y from nw y "put" ok] at h1
      exact nomatch (show (PyData.eqv (.str "put") (.str "put") && !false) = false from h1)
    | other y =>
      unfold c2B at h2
      rw [show wordE (stepD (.other y)) = .str y from nw y "other" ok, eqv_strs] at h2
      have h2 : (lfB one i && !(y == wd one i)) = false := h2
      show (if i < one.length ∧ y ≠ wd one i then _ else _) = _
      rw [if_neg fun ⟨z1, z2⟩ => by rw [lfB_iff.mpr z1, beq_eq_false_iff_ne.mpr z2] at h2; cases h2]
theorem run_step {ss : List D} {k : Nat} {s : Nat × List Str × Int} (h : runD p2 p3 p4 one (0, [], 0) (ss.take k) = some s) (he : ss[k]? = some e) : runD p2 p3 p4 one (0, [], 0) (ss.take (k + 1)) = goD p2 p3 p4 one s e := by
  rw [take_step he, runD_app, h]
  show (goD p2 p3 p4 one s e).bind (fun s' => some s') = _
  cases goD p2 p3 p4 one s e <;> rfl
theorem run_fail {ss : List D} {k : Nat} {s : Nat × List Str × Int} (h : runD p2 p3 p4 one (0, [], 0) (ss.take k) = some s) (he : ss[k]? = some e) (hg : goD p2 p3 p4 one s e = none) : runD p2 p3 p4 one (0, [], 0) ss = none := by
  have h1 := run_step h he
  rw [hg] at h1
  rw [← List.take_append_drop (k + 1) ss, runD_app, h1]
  rfl
end
def walkD (p : PP) (one : List Str) (d : D) : D := match made p.p2 p.p3 p.p4 one d with
  | some (ws, c) => .tuple [.tuple (ws.map .str), .int c] | none => .none
section
variable {P : Program} {w : World} {K : PySem.W.Frag} {mg : Str → Option Value} {base : Heap}
abbrev s_L_walk : Stmt := topS 56
abbrev N_L_walk : List Str := ["_law_prices", "_law_one", "_law_steps", "_law_at", "_law_words", "_law_cost", "_law_step", "_law_is_left", "_law_kind", "_law_word"]
theorem sc_L_walk : FnScope N_L_walk ["_law_prices", "_law_one", "_law_steps"] (defScope s_L_walk) := ⟨rfl, rfl, rfl, by decide +kernel, rfl, by decide +kernel, by decide +kernel⟩
abbrev spWalk (K : PySem.W.Frag) : Sp := spR K (fun a : PP × List Str × D => [a.1.d, wordsD a.2.1, a.2.2]) (fun a => okW a.2.1 ∧ gdn 6 a.2.2 = true) fun a => walkD a.1 a.2.1 a.2.2
theorem made_long {p2 p3 p4 : Int} {one : List Str} {ss : List D} (h : ¬ ss.length ≤ 12) : made p2 p3 p4 one (.tuple ss) = none := by
  unfold made
  simp only
  rw [if_neg h]
theorem made_short {p2 p3 p4 : Int} {one : List Str} {ss : List D} (h : ss.length ≤ 12) : made p2 p3 p4 one (.tuple ss) = (runD p2 p3 p4 one (0, [], 0) ss).bind fun s => if s.1 = one.length then some (s.2.1, s.2.2) else none := by
  unfold made
  simp only
  rw [if_pos h]
theorem gdn_kind {e : D} (h : gdn 6 e = true) : gdn 6 (kindD e) = true := by
  unfold kindD
  split
  · exact gdn_tup h _ (by simp)
  · rfl
theorem gdn_word {e : D} (h : gdn 6 e = true) : gdn 6 (wordE e) = true := by
  unfold wordE
  split
  · split
    · exact gdn_tup h _ (by simp)
    · rfl
  · rfl
theorem wordE_none {e : D} (h : isN (kindD e) = true) : wordE e = .none := by
  unfold wordE
  split
  · rename_i k w
    have : isN k = true := h
    rw [this]
    rfl
  · rfl
theorem kind_cons {e : D} (h : isN (kindD e) = false) : ∃ x r, e = .tuple (x :: r) := by
  unfold kindD at h
  split at h
  · exact ⟨_, _, rfl⟩
  · cases h
theorem nameD_sh {n : Nat} {d : D} (h : gdn n d = true) (hn : n ≤ 60) : SeqAt.shaped d = true := gdn_ok h hn
theorem c_L_walk (T : Txt w K mg) (d : DefAt K mg "_law_walk" s_L_walk) (G_L_is_word : KCal P w K mg base CX0 1 "_law_is_word" ["_law_thing"] (spIsWord K)) : KCal P w K mg base CX0 2 "_law_walk" ["_law_prices", "_law_one", "_law_steps"] (spWalk K) := by
  refine d.cal (fun _ _ _ _ _ _ us hl => match us, hl with | [_, _, _], _ => rfl) fun f fd F => F.ok sc_L_walk (fun vs H Q E h => spr_len (fun _ => rfl) h) (fun cdv A outer s H vs Q E hr h => ?_)
  have hu := hr.units
  refine ⟨_, (pss_cons (ps_if (PW.pt (pw_or (pt_not (pt_val (pe_callB call_isi (by rfl) T.n_isinstance (by decide +kernel) (pa_cons (pv 2) (pa_cons (pe_bltn (v := .ty "tuple") rfl T.n_tuple (by decide +kernel) rfl) pa_nil))))) (pw_or1 (pt_cmpR op_gt (pe_callB call_len (by rfl) T.n_len (by decide +kernel) (pa_cons (pv 2) pa_nil)) pe_int (nomark _))))) (pss_one (ps_ret pe_non)) pss_nil)
  (pss_cons (ps_asg (pe_tup (pa_cons pe_int (pa_cons (pe_tup pa_nil) (pa_cons pe_int pa_nil)))) (pg_tup rfl (pgs_cons (pg_name (i := 3) sc_L_walk.nd rfl (Or.inl rfl)) (pgs_cons (pg_name (i := 4) sc_L_walk.nd rfl (Or.inl rfl)) (pgs_cons (pg_name (i := 5) sc_L_walk.nd rfl (Or.inl rfl)) pgs_nil)))))
  (pss_cons (ps_for PassesOwn.never rfl (pi_any (pv 2)) (pg_name (i := 6) sc_L_walk.nd rfl (Or.inl rfl))
  (pss_cons (ps_par (i := 7) (j := 8) rfl sc_L_walk.nd rfl rfl (by decide) rfl rfl (pa_cons (pe_cmpR op_lt (pv 3) (pe_callB call_len (by rfl) T.n_len (by decide +kernel) (pa_cons (pv 1) pa_nil)) (nomark _)) (pa_cons (pe_ifExp (PW.pt (pw_and (pt_val (pe_callB call_isi (by rfl) T.n_isinstance (by decide +kernel) (pa_cons (pv 6) (pa_cons (pe_bltn (v := .ty "tuple") rfl T.n_tuple (by decide +kernel) rfl) pa_nil)))) (pw_and1 (pt_cmpR (op_neD hu) (pv 6) (pe_tup pa_nil) (nomark _))))) (pe_ix ix_seq (pv 6) pe_int (fun _ _ => rfl)) pe_non) pa_nil)) (by rfl))
  (pss_cons (ps_set (i := 9) sc_L_walk.nd rfl (Or.inl rfl) (pe_ifExp (PW.pt (pw_and (pt_cmpR op_notN (pv 8) pe_non (nomark _)) (pw_and (pt_cmpR (op_eqD hu) (pe_callB call_len (by rfl) T.n_len (by decide +kernel) (pa_cons (pv 6) pa_nil)) pe_int (nomark _)) (pw_and1 (pt_val (pc0 G_L_is_word hr (by decide) (by rfl) (pa_cons (pe_ix ix_seq (pv 6) pe_int (fun _ _ => rfl)) pa_nil))))))) (pe_ix ix_seq (pv 6) pe_int (fun _ _ => rfl)) pe_non))
  (pss_one (ps_if (PW.pt (pw_and (pt_cmpR (op_eqD hu) (pv 8) pe_str (nomark _)) (pw_and1 (pt_cmpR op_notN (pv 9) pe_non (nomark _))))) (pss_one (ps_par (i := 4) (j := 5) rfl sc_L_walk.nd rfl rfl (by decide) rfl rfl (pa_cons (pe_op opAddU (pv 4) (pe_tup (pa_cons (pv 9) pa_nil))) (pa_cons (pe_op opAddU (pv 5) (pe_ix ix_seq (pv 0) pe_int (fun _ _ => rfl))) pa_nil)) (by rfl))) (pss_one (ps_if (PW.pt (pw_and (pt_cmpR (op_eqD hu) (pv 8) pe_str (nomark _)) (pw_and (pt_cmpR op_notN (pv 9) pe_non (nomark _)) (pw_and (pt_val (pv 7)) (pw_and1 (pt_cmpR (op_neD hu) (pv 9) (pe_ix ix_seq (pv 1) (pv 3) (fun _ _ => rfl)) (nomark _))))))) (pss_one (ps_par3 (i := 4) (j := 3) (l := 5) rfl sc_L_walk.nd rfl rfl rfl (by decide) (by decide) (by decide) rfl rfl rfl (pa_cons (pe_op opAddU (pv 4) (pe_tup (pa_cons (pv 9) pa_nil))) (pa_cons (pe_op opAddU (pv 3) pe_int) (pa_cons (pe_op opAddU (pv 5) (pe_ix ix_seq (pv 0) pe_int (fun _ _ => rfl))) pa_nil))) (by rfl))) (pss_one (ps_if (PW.pt (pw_and (pt_cmpR (op_eqD hu) (pv 8) pe_str (nomark _)) (pw_and (pt_cmpR (op_eqD hu) (pe_callB call_len (by rfl) T.n_len (by decide +kernel) (pa_cons (pv 6) pa_nil)) pe_int (nomark _)) (pw_and1 (pt_val (pv 7)))))) (pss_one (ps_par (i := 4) (j := 3) rfl sc_L_walk.nd rfl rfl (by decide) rfl rfl (pa_cons (pe_op opAddU (pv 4) (pe_tup (pa_cons (pe_ix ix_seq (pv 1) (pv 3) (fun _ _ => rfl)) pa_nil))) (pa_cons (pe_op opAddU (pv 3) pe_int) pa_nil)) (by rfl))) (pss_one (ps_if (PW.pt (pw_and (pt_cmpR (op_eqD hu) (pv 8) pe_str (nomark _)) (pw_and (pt_cmpR (op_eqD hu) (pe_callB call_len (by rfl) T.n_len (by decide +kernel) (pa_cons (pv 6) pa_nil)) pe_int (nomark _)) (pw_and1 (pt_val (pv 7)))))) (pss_one (ps_par (i := 3) (j := 5) rfl sc_L_walk.nd rfl rfl (by decide) rfl rfl (pa_cons (pe_op opAddU (pv 3) pe_int) (pa_cons (pe_op opAddU (pv 5) (pe_ix ix_seq (pv 0) pe_int (fun _ _ => rfl))) pa_nil)) (by rfl))) (pss_one (ps_ret pe_non)))))))))))))
  (pss_one (ps_ret (pe_ifExp (pt_cmpR (op_eqD hu) (pv 3) (pe_callB call_len (by rfl) T.n_len (by decide +kernel) (pa_cons (pv 1) pa_nil)) (nomark _)) (pe_tup (pa_cons (pv 4) (pa_cons (pv 5) pa_nil))) pe_non)))))), ?_⟩
  obtain ⟨⟨⟨p0, p1, p2, p3, p4, p5⟩, one, d⟩, h1, ⟨ok1, hg⟩, k⟩ := h
  obtain ⟨v0, d0, v1, d1, v2, d2, rfl, e, hd0, hd1, hd2⟩ := dps3 h1 rfl
  cases e
  replace hg : gdn 6 d = true := hg
  replace ok1 : okW one := ok1
  replace hd0 : Dp K H v0 (.tuple [.int p0, .int p1, .int p2, .int p3, .int p4, .int p5]) := hd0
  replace hd1 : Dp K H v1 (.tuple (one.map .str)) := hd1
  replace hd2 : Dp K H v2 d := hd2
  replace k : ∀ u H', Same H H' → Dp K H' u (walkD ⟨p0, p1, p2, p3, p4, p5⟩ one d) → Q u H' := k
  have c2 : atI [PyData.int p0, .int p1, .int p2, .int p3, .int p4, .int p5] 2 = some (.int p2) := rfl
  have c3 : atI [PyData.int p0, .int p1, .int p2, .int p3, .int p4, .int p5] 3 = some (.int p3) := rfl
  have c4 : atI [PyData.int p0, .int p1, .int p2, .int p3, .int p4, .int p5] 4 = some (.int p4) := rfl
  have hs1 : sizedD (.tuple (one.map PyData.str)) := trivial
  have el1 : lenD (.tuple (one.map PyData.str)) = one.length := List.length_map _
  have no : made p2 p3 p4 one d = none → ∀ u H', Same H H' → Dp K H' u .none → Q u H' := fun hm u H' e' du => k u H' e' (by
    have : walkD ⟨p0, p1, p2, p3, p4, p5⟩ one d = .none := by
      unfold walkD
      simp only [hm]
    rw [this]
    exact du)
  have t1 := sh_kept
  have t2 := sh_left
  have t3 := sh_put
  have t4 := sh_other
  walk_at "NX"
  cases d with
  | tuple ss =>
    have hs : sizedD (.tuple ss) := trivial
    refine s_if (K := K) (b := decide ((12 : Int) < ((ss.length : Nat) : Int))) ?_ (fun hb H1 e1 => ?_) fun hb H1 e1 => ?_
    · apply tv_is
      · walk_at "TV"
      · rfl
    · rw [decide_eq_true_eq] at hb
      refine s_ret (K := K) ev_non fun u H2 e2 du => no (made_long (by omega)) u H2 (e1.trans e2) du
    · rw [decide_eq_false_iff_not] at hb
      have hss : ss.length ≤ 12 := by omega
      walk_at "NX"
      refine Ev.go (K := K) (c := .tuple [.int 0, .tuple [], .int 0]) (ev_tup (av_cons ev_int (av_cons (ev_tup av_nil (by show 0 ≤ 100000; decide)) (av_cons ev_int av_nil))) (by show 3 ≤ 100000; decide)) fun v3 H2 e2 dv3 => g_triple (K := K) dv3 fun va vw vc da dw dc => ?_
      obtain rfl := dp_int da
      obtain rfl := dp_int dc
      have s2 := e1.trans e2
      walk_at "NX"
      refine s_for (K := K) (d := .tuple ss) (ds := ss) (yd_any (by walk_at "EV") rfl) fun H3 w3 e3 dw3 => ⟨fun k σ Hc => ∃ (i : Nat) (ws : List Str) (cost : Int) (vw : V) (o6 o7 o8 o9 : Option V), σ = [some v0, some v1, some v2, some (.int (i : Nat)), some vw, some (.int cost), o6, o7, o8, o9] ∧ Same H Hc ∧ Dp K Hc w3 (.tuple ss) ∧ Dp K Hc vw (.tuple (ws.map .str)) ∧ ws.length ≤ k ∧ runD p2 p3 p4 one (0, [], 0) (ss.take k) = some (i, ws, cost), ?_, ?_, ?_, ?_, ?_⟩
      · rintro k σ Ha Hb sm ⟨i, ws, cost, vw, o6, o7, o8, o9, rfl, q1, q2, q3, q4, q5⟩
        exact ⟨i, ws, cost, vw, o6, o7, o8, o9, rfl, q1.trans sm, dp_same sm q2, dp_same sm q3, q4, q5⟩
      · rintro k σ Ha ⟨i, ws, cost, vw, o6, o7, o8, o9, rfl, q1, q2, q3, q4, q5⟩
        exact q2
      · exact ⟨0, [], 0, vw, _, _, _, _, rfl, s2.trans e3, dw3, dp_same e3 dw, Nat.le_refl _, rfl⟩
      · rintro k e ve σ Hc he ⟨i, ws, cost, vw, o6, o7, o8, o9, rfl, q1, q2, q3, q4, q5⟩ dve
        have hk : k < ss.length := (List.getElem?_eq_some_iff.mp he).1
        have ge := gdn_tup hg e (List.mem_of_getElem? he)
        have she := gdn_ok ge (by decide)
        have she0 : SeqAt.shaped (.tuple []) = true := rfl
        have lf : Ev K (tOp (rI0 fun i j => .bl (decide (i < j))) (tVar 3) (tCB (fun xs H Q => ∃ x n, xs = [x] ∧ LenV K x H n ∧ Q (.int n) H) (tCons (tVar 1) tNil))) [some v0, some v1, some v2, some (.int (i : Nat)), some vw, some (.int cost), some ve, o7, o8, o9] Hc (.bool (lfB one i)) := ev_is (by walk_at "EV") (by rw [el1]; rfl)
        show tSeq _ _ _ [some v0, some v1, some v2, some (.int (i : Nat)), some vw, some (.int cost), some ve, o7, o8, o9] Hc
        walk_at "NX"
        refine s_par (K := K) (d := .bool (lfB one i)) (e := kindD e) (av_cons lf (av_cons ?_ av_nil)) fun vl vk H4 e4 dl dk => ?_
        · cases e with
          | tuple xs =>
            cases xs with
            | nil =>
              refine ev_if (b := false) ?_ (fun z => nomatch z) fun _ => ev_non
              apply tv_is
              · walk_at "TV"
              · rfl
            | cons x r =>
              have i0 : atI (x :: r) 0 = some x := by
                unfold atI ixN
                rw [if_pos (by decide), if_pos (by rw [List.length_cons]; omega)]
                rfl
              refine ev_if (b := true) ?_ (fun _ => ?_) fun z => nomatch z
              · apply tv_is
                · walk_at "TV"
                · rfl
              · show Ev K _ _ _ x
                walk_at "EV"
          | _ =>
            refine ev_if (b := false) ?_ (fun z => nomatch z) fun _ => ev_non
            apply tv_is
            · with_reducible apply tv_and (b := false)
              · walk_at "TV"
              · intro z
                exact nomatch z
            · rfl
        obtain rfl := dp_bool dl
        have s4 := q1.trans e4
        have gk : gdn 6 (kindD e) = true := gdn_kind ge
        have shk := gdn_ok gk (by decide)
        have shw := gdn_ok (gdn_word ge) (by decide)
        have dve4 := dp_same e4 dve
        walk_at "NX"
        refine s_asg (K := K) (d := wordE e) ?_ fun vx H5 e5 dx => ?_
        · cases hn : isN (kindD e) with
          | true =>
            refine ev_if (b := false) ?_ (fun z => nomatch z) fun _ => ev_is ev_non (wordE_none hn).symm
            apply tv_is
            · with_reducible apply tv_and (b := false)
              · walk_at "TV"
              · intro z
                rw [hn] at z
                exact nomatch z
            · rw [hn]
              rfl
          | false =>
            obtain ⟨x, r, rfl⟩ := kind_cons hn
            have hx : isN x = false := hn
            have hsz : sizedD (.tuple (x :: r)) := trivial
            match r, ge, dve4, hsz with
            | [], ge, dve4, hsz =>
              refine ev_if (b := false) ?_ (fun z => nomatch z) fun _ => ev_non
              apply tv_is
              · with_reducible apply tv_and
                · walk_at "TV"
                · intro _
                  with_reducible apply tv_and (b := false)
                  · walk_at "TV"
                  · intro z
                    exact nomatch z
              · show (_ && (false && false)) = false
                rw [Bool.false_and, Bool.and_false]
            | [y], ge, dve4, hsz =>
              have i1 : atI [x, y] 1 = some y := rfl
              have gy := gdn_tup ge y (by simp)
              have c := spd_isWord (K := K) (H := H4) gy
              refine ev_if (b := nameD y) ?_ (fun hb => ?_) fun hb => ?_
              · apply tv_is
                · with_reducible apply tv_and
                  · walk_at "TV"
                  · intro _
                    with_reducible apply tv_and
                    · walk_at "TV"
                    · intro _
                      exact tv_B (ev_call (by walk_at "AV") c)
                · show ((!isN x) && (true && nameD y)) = nameD y
                  rw [hx, Bool.true_and]
                  rfl
              · refine ev_is (d := y) (by walk_at "EV") ?_
                show y = if (!isN x && nameD y) = true then y else .none
                rw [hx, hb]
                rfl
              · refine ev_is ev_non ?_
                show _ = if (!isN x && nameD y) = true then y else .none
                rw [hx, hb]
                rfl
            | y :: z :: r, ge, dve4, hsz =>
              refine ev_if (b := false) ?_ (fun z => nomatch z) fun _ => ev_non
              have h3 : PyData.eqv (.int ((lenD (.tuple (x :: y :: z :: r)) : Nat) : Int)) (.int 2) = false := by
                show ((((r.length + 1 + 1 + 1 : Nat) : Int)) == 2) = false
                exact beq_eq_false_iff_ne.mpr (by omega)
              apply tv_is
              · with_reducible apply tv_and
                · walk_at "TV"
                · intro _
                  with_reducible apply tv_and (b := false)
                  · walk_at "TV"
                  · intro z
                    rw [h3] at z
                    exact nomatch z
              · rw [h3, Bool.false_and, Bool.and_false]
        have s5 := s4.trans e5
        have dve5 := dp_same e5 dve4
        have q35 := dp_same (e4.trans e5) q3
        have dk5 := dp_same e5 dk
        have ei : (i : Int) + 1 = ((i + 1 : Nat) : Int) := by omega
        have le1 : ∀ z : Str, (ws.map PyData.str).length + [PyData.str z].length ≤ 100000 := fun z => by
          rw [List.length_map]
          show ws.length + 1 ≤ 100000
          omega
        have dn : ∀ H', Same H5 H' → Dp K H' w3 (.tuple ss) := fun H' e' => dp_same (e4.trans (e5.trans e')) q2
        try dsimp only
        refine s_if (K := K) (b := c1B e) ?_ (fun hb H6 e6 => ?_) fun hb1 H6 e6 => ?_
        · apply tv_is
          · walk_at "TV"
          · rfl
        · obtain ⟨y, hw, hy, hgo⟩ := go1 (p2 := p2) (p3 := p3) (p4 := p4) (one := one) (i := i) (ws := ws) (cost := cost) hb
          rw [hw] at dx
          have s6 := s5.trans e6
          refine s_par (K := K) (d := .tuple (ws.map .str ++ [.str y])) (e := .int (cost + p3)) (av_cons (ev_op (by walk_at "EV") (ev_tup (by walk_at "AV") (by show 1 ≤ 100000; decide)) (rd_addT (xs := ws.map .str) (le1 _))) (av_cons (by walk_at "EV") av_nil)) fun va vb H7 e7 da db => ?_
          obtain rfl := dp_int db
          exact ⟨i, ws ++ [y], cost + p3, va, _, _, _, _, rfl, s6.trans e7, dn _ (e6.trans e7), by rw [List.map_append]; exact da, by rw [List.length_append, List.length_singleton]; omega, (run_step q5 he).trans hgo⟩
        · try dsimp only
          refine s_if (K := K) (b := c2B one i e) ?_ (fun hb H7 e7 => ?_) fun hb2 H7 e7 => ?_
          · have s6 := s5.trans e6
            refine tv_and (by walk_at "TV") fun _ => tv_and (by walk_at "TV") fun _ => tv_and (by walk_at "TV") fun hl => ?_
            have hi := lfB_iff.mp hl
            have i2 := atI_words (ws := one) (j := (i : Int)) (i := i) rfl hi
            have shn := (name_shape (ok1.nm hi)).1
            walk_at "TV"
          · obtain ⟨y, hw, hy, hi, hgo⟩ := go2 (p2 := p2) (p3 := p3) (p4 := p4) (ws := ws) (cost := cost) hb
            rw [hw] at dx
            have e67 := e6.trans e7
            have s7 := s5.trans e67
            refine s_par3 (K := K) (d := .tuple (ws.map .str ++ [.str y])) (e := .int ((i : Int) + 1)) (f := .int (cost + p4)) (av_cons (ev_op (by walk_at "EV") (ev_tup (by walk_at "AV") (by show 1 ≤ 100000; decide)) (rd_addT (xs := ws.map .str) (le1 _))) (av_cons (by walk_at "EV") (av_cons (by walk_at "EV") av_nil))) fun va vb vc H8 e8 da db dc => ?_
            rw [ei] at db
            obtain rfl := dp_int db
            obtain rfl := dp_int dc
            exact ⟨i + 1, ws ++ [y], cost + p4, va, _, _, _, _, rfl, s7.trans e8, dn _ (e67.trans e8), by rw [List.map_append]; exact da, by rw [List.length_append, List.length_singleton]; omega, (run_step q5 he).trans hgo⟩
          · try dsimp only
            refine s_if (K := K) (b := c3B one i e) ?_ (fun hb H8 e8 => ?_) fun hb3 H8 e8 => ?_
            · have e67 := e6.trans e7
              refine tv_and (by walk_at "TV") fun hk' => ?_
              have hsz : sizedD e := by
                obtain ⟨r, rfl⟩ := kind_tup hk'
                trivial
              walk_at "TV"
            · obtain ⟨hi, hgo⟩ := go3 (p2 := p2) (p3 := p3) (p4 := p4) (ws := ws) (cost := cost) hb
              have e68 := e6.trans (e7.trans e8)
              have s8 := s5.trans e68
              have i2 := atI_words (ws := one) (j := (i : Int)) (i := i) rfl hi
              refine s_par (K := K) (d := .tuple (ws.map .str ++ [.str (wd one i)])) (e := .int ((i : Int) + 1)) (av_cons (ev_op (by walk_at "EV") (ev_tup (by walk_at "AV") (by show 1 ≤ 100000; decide)) (rd_addT (xs := ws.map .str) (le1 _))) (av_cons (by walk_at "EV") av_nil)) fun va vb H9 e9 da db => ?_
              rw [ei] at db
              obtain rfl := dp_int db
              exact ⟨i + 1, ws ++ [wd one i], cost, va, _, _, _, _, rfl, s8.trans e9, dn _ (e68.trans e9), by rw [List.map_append]; exact da, by rw [List.length_append, List.length_singleton]; omega, (run_step q5 he).trans hgo⟩
            · try dsimp only
              refine s_if (K := K) (b := c4B one i e) ?_ (fun hb H9 e9 => ?_) fun hb4 H9 e9 => ?_
              · have e68 := e6.trans (e7.trans e8)
                refine tv_and (by walk_at "TV") fun hk' => ?_
                have hsz : sizedD e := by
                  obtain ⟨r, rfl⟩ := kind_tup hk'
                  trivial
                walk_at "TV"
              · obtain ⟨hi, hgo⟩ := go4 (p2 := p2) (p3 := p3) (p4 := p4) (ws := ws) (cost := cost) hb
                have e69 := e6.trans (e7.trans (e8.trans e9))
                have s9 := s5.trans e69
                refine s_par (K := K) (d := .int ((i : Int) + 1)) (e := .int (cost + p2)) (by walk_at "AV") fun va vb H10 e10 da db => ?_
                rw [ei] at da
                obtain rfl := dp_int da
                obtain rfl := dp_int db
                exact ⟨i + 1, ws, cost + p2, vw, _, _, _, _, rfl, s9.trans e10, dn _ (e69.trans e10), dp_same (e69.trans e10) q35, by omega, (run_step q5 he).trans hgo⟩
              · have bad : made p2 p3 p4 one (.tuple ss) = none := by
                  rw [made_short hss, run_fail q5 he (go5 hb1 hb2 hb3 hb4)]
                  rfl
                exact s_ret (K := K) ev_non fun u H10 e10 du => no bad u H10 (s5.trans (e6.trans (e7.trans (e8.trans (e9.trans e10))))) du
      · rintro σ Hc ⟨i, ws, cost, vw, o6, o7, o8, o9, rfl, q1, q2, q3, q4, q5⟩
        rw [List.take_length] at q5
        walk_at "NX"
        have em := made_short (p2 := p2) (p3 := p3) (p4 := p4) (one := one) hss
        rw [q5] at em
        have em : made p2 p3 p4 one (.tuple ss) = if i = one.length then some (ws, cost) else none := em
        refine s_ret (K := K) (d := walkD ⟨p0, p1, p2, p3, p4, p5⟩ one (.tuple ss)) (ev_if (b := decide (i = one.length)) ?_ (fun hb => ?_) fun hb => ?_) fun u H4 e4 du => k u H4 (q1.trans e4) du
        · apply tv_is
          · walk_at "TV"
          · rw [el1]
            exact nat_eqB
        · rw [decide_eq_true_eq] at hb
          rw [if_pos hb] at em
          refine ev_is (ev_tup (by walk_at "AV") (by show 2 ≤ 100000; decide)) ?_
          unfold walkD
          simp only [em]
        · rw [decide_eq_false_iff_not] at hb
          rw [if_neg hb] at em
          refine ev_is ev_non ?_
          unfold walkD
          simp only [em]
  | _ =>
    apply s_if (K := K)
    · with_reducible apply tv_or (b := false)
      · walk_at "TV"
      · intro z
        exact nomatch z
    · intro hb H1 e1
      exact s_ret (K := K) ev_non fun u H2 e2 du => no rfl u H2 (e1.trans e2) du
    · intro z
      exact nomatch z
end
end K5
set_option Elab.async false
set_option linter.all false
set_option maxRecDepth 100000
set_option maxHeartbeats 4000000
/-! The law's own check of a paper. -/
namespace K5
open PySem L2 PySem.Spec PyProof.Rows
local macro_rules | `(tactic| walk_at "DP") => `(tactic| first | with_reducible assumption | with_reducible exact Dp.int _ | with_reducible exact Dp.str _ | with_reducible exact Dp.bl _ | with_reducible exact Dp.non | with_reducible exact dp_up (by assumption) (by assumption))
local macro_rules | `(tactic| walk_at "SH") => `(tactic| first | with_reducible assumption | rfl)
local macro_rules | `(tactic| walk_at "RD") => `(tactic| first | with_reducible assumption | exact rd_addI | exact rd_I0 fun _ => .int _ | exact rd_I0 fun _ => .bl _ | exact rd_ixL (by with_reducible assumption) | exact rd_ixT (by with_reducible assumption) | exact rd_ixS (by with_reducible assumption) (by with_reducible assumption) | exact rd_eqD (by walk_at "SH") (by walk_at "SH") | exact rd_neD (by walk_at "SH") (by walk_at "SH") | exact rd_inS | exact rd_notN | exact rd_isN | exact rd_addL (by with_reducible assumption) | exact rd_addT (by with_reducible assumption) | exact rd_addS (by with_reducible assumption))
local macro_rules | `(tactic| walk_at "OV") => `(tactic| first | with_reducible exact ov_no | ((with_reducible apply ov_some); walk_at "EV"))
local macro_rules | `(tactic| walk_at "AV") => `(tactic| first | with_reducible assumption | with_reducible exact av_nil | ((with_reducible apply av_cons); walk_at "EV"; walk_at "AV"))
local macro_rules | `(tactic| walk_at "RC") => `(tactic| first | with_reducible assumption | exact rc_len (by (first | with_reducible assumption | trivial)) | exact rc_tupL | exact rc_tupT | exact rc_lstL | exact rc_lstT | exact rc_all | exact rc_sum | exact rc_min2 | exact rc_min3)
local macro_rules | `(tactic| walk_at "KIT") => `(tactic| first | with_reducible exact kit_int _ | with_reducible exact kit_bool _ | with_reducible exact kit_str _ | with_reducible exact kit_tuple _)
local macro_rules | `(tactic| walk_at "EV") => `(tactic| first | with_reducible assumption | with_reducible exact ev_int | with_reducible exact ev_str | with_reducible exact ev_bl | with_reducible exact ev_non | ((with_reducible apply ev_var); exact sl_mk rfl (by walk_at "DP")) | ((with_reducible apply ev_op); walk_at "EV"; walk_at "EV"; walk_at "RD") | ((with_reducible apply ev_neg); walk_at "EV") | ((with_reducible apply ev_tup); walk_at "AV"; (first | (with_reducible assumption) | decide)) | ((with_reducible apply ev_lst); walk_at "AV"; (first | (with_reducible assumption) | decide)) | ((with_reducible apply ev_call); walk_at "AV"; with_reducible assumption) | ((with_reducible apply ev_isi2); exact rfl; walk_at "EV"; walk_at "KIT") | ((with_reducible apply ev_cb); walk_at "AV"; walk_at "RC") | ((with_reducible apply ev_chain); walk_at "EV"; walk_at "EV"; walk_at "RD"; intro _; walk_at "EV"; intro _; walk_at "RD") | ((with_reducible apply ev_andV); walk_at "EV"; intro _; walk_at "EV") | ((with_reducible apply ev_orV); walk_at "EV"; intro _; walk_at "EV") | ((with_reducible apply ev_notV); walk_at "EV") | ((with_reducible apply ev_sl2); exact rfl; walk_at "EV"; walk_at "OV"; walk_at "OV"; walk_at "SLD") | ((with_reducible apply ev_rev2); exact rfl; walk_at "EV"))
local macro_rules | `(tactic| walk_at "SLD") => `(tactic| first | with_reducible exact SlD.l | with_reducible exact SlD.t | with_reducible exact SlD.s (by with_reducible assumption))
local macro_rules | `(tactic| walk_at "TV") => `(tactic| first | with_reducible assumption | ((with_reducible apply tv_and); walk_at "TV"; intro _; walk_at "TV") | ((with_reducible apply tv_or); walk_at "TV"; intro _; walk_at "TV") | ((with_reducible apply tv_not); walk_at "TV") | ((with_reducible apply tv_B); walk_at "EV") | ((with_reducible apply tv_T); walk_at "EV"))
local macro_rules | `(tactic| walk_at "NX") => `(tactic| ((try dsimp only); (try with_reducible apply s_next); (try dsimp only); (try with_reducible apply s_seq)))

section
variable {p2 p3 p4 : Int} {one other : List Str}
theorem go_names (h1 : okW one) {s s' : Nat × List Str × Int} {e : D} (h : goD p2 p3 p4 one s e = some s') (hs : ∀ w ∈ s.2.1, nameS w = true) : ∀ w ∈ s'.2.1, nameS w = true := by
  unfold goD at h
  cases hd : decS e with
  | none => rw [hd] at h; cases h
  | some st =>
    have ok := decS_name hd
    rw [hd] at h
    have h : go p2 p3 p4 one s st = some s' := h
    have app : ∀ y, nameS y = true → ∀ w ∈ s.2.1 ++ [y], nameS w = true := fun y hy w hw => by
      rcases List.mem_append.mp hw with hw | hw
      · exact hs w hw
      · rw [List.mem_singleton.mp hw]; exact hy
    cases st with
    | kept =>
      have h : (if s.1 < one.length then some (s.1 + 1, s.2.1 ++ [wd one s.1], s.2.2) else none) = some s' := h
      split at h
      · rename_i hi
        cases h
        exact app _ (h1.nm hi)
      · cases h
    | left =>
      have h : (if s.1 < one.length then some (s.1 + 1, s.2.1, s.2.2 + p2) else none) = some s' := h
      split at h
      · cases h
        exact hs
      · cases h
    | put y =>
      have h : some (s.1, s.2.1 ++ [y], s.2.2 + p3) = some s' := h
      cases h
      exact app _ ok
    | other y =>
      have h : (if s.1 < one.length ∧ y ≠ wd one s.1 then some (s.1 + 1, s.2.1 ++ [y], s.2.2 + p4) else none) = some s' := h
      split at h
      · cases h
        exact app _ ok
      · cases h
theorem run_names (h1 : okW one) : ∀ {ds : List D} {s s' : Nat × List Str × Int}, runD p2 p3 p4 one s ds = some s' → (∀ w ∈ s.2.1, nameS w = true) → ∀ w ∈ s'.2.1, nameS w = true
  | [], s, s', h, hs => by
    cases h
    exact hs
  | d :: ds, s, s', h, hs => by
    have h : (goD p2 p3 p4 one s d).bind (fun s' => runD p2 p3 p4 one s' ds) = some s' := h
    cases hg : goD p2 p3 p4 one s d with
    | none => rw [hg] at h; cases h
    | some s1 =>
      rw [hg] at h
      exact run_names h1 (ds := ds) h (go_names h1 hg hs)
theorem made_names (h1 : okW one) {d : D} {ws : List Str} {c : Int} (h : made p2 p3 p4 one d = some (ws, c)) : ∀ w ∈ ws, nameS w = true := by
  cases d with
  | tuple ss =>
    by_cases hl : ss.length ≤ 12
    · rw [made_short hl] at h
      cases hr : runD p2 p3 p4 one (0, [], 0) ss with
      | none => rw [hr] at h; cases h
      | some s =>
        rw [hr] at h
        have h : (if s.1 = one.length then some (s.2.1, s.2.2) else none) = some (ws, c) := h
        split at h
        · cases h
          exact run_names h1 hr (fun w hw => absurd hw List.not_mem_nil)
        · cases h
    · rw [made_long hl] at h
      cases h
  | _ => cases h
theorem sh_words {ws : List Str} (h : ∀ w ∈ ws, nameS w = true) : SeqAt.shaped (.tuple (ws.map .str)) = true := by
  refine sh_tup (n := 0) (fun x hx => ?_) (by decide)
  obtain ⟨y, hy, rfl⟩ := List.mem_map.mp hx
  obtain ⟨_, h2, _⟩ := name_shape (h y hy)
  have h3 := h y hy
  unfold nameS at h3
  have h4 := (Bool.and_eq_true_iff.mp h3).2
  show (y.cps.all (· < 0x110000) && decide (y.length ≤ 1000)) = true
  rw [Bool.and_eq_true]
  refine ⟨?_, decide_eq_true (by omega)⟩
  rw [← Array.all_toList]
  refine List.all_eq_true.mpr fun c hc => decide_eq_true ?_
  have := of_decide_eq_true (List.all_eq_true.mp h4 c hc)
  simp at this
  omega
theorem eqv_words {xs ys : List Str} : PyData.eqv (.tuple (xs.map .str)) (.tuple (ys.map .str)) = (xs == ys) := eqvAll_strs
def b1Z (p2 p3 : Int) (R : Nat → Nat → Int) (i j : Nat) : Bool := (decide ((0 : Int) < (i : Nat)) && decide (R (i - 1) j + p2 < R i j)) || (decide ((0 : Int) < (j : Nat)) && decide (R i (j - 1) + p3 < R i j))
def b2Z (p4 : Int) (one other : List Str) (R : Nat → Nat → Int) (i j : Nat) : Bool := (decide ((0 : Int) < (i : Nat)) && decide ((0 : Int) < (j : Nat))) && decide (R (i - 1) (j - 1) + al p4 one other (i - 1) (j - 1) < R i j)
theorem holdZ {R : Nat → Nat → Int} {i j : Nat} : holdB p2 p3 p4 one other R i j = (!b1Z p2 p3 R i j && !b2Z p4 one other R i j) := by
  unfold holdB b1Z b2Z
  have e1 : decide ((0 : Int) < ((i : Nat) : Int)) = decide (0 < i) := decide_eq_decide.mpr (by omega)
  have e2 : decide ((0 : Int) < ((j : Nat) : Int)) = decide (0 < j) := decide_eq_decide.mpr (by omega)
  rw [e1, e2, Bool.not_or]
end
section
variable {P : Program} {w : World} {K : PySem.W.Frag} {mg : Str → Option Value} {base : Heap}
abbrev s_L_is_paper : Stmt := topS 58
abbrev N_L_is_paper : List Str := ["_law_prices", "_law_one", "_law_other_here", "_law_thing", "_law_made", "_law_rows", "_law_at", "_law_row", "_law_place", "_law_number", "_law_along"]
theorem sc_L_is_paper : FnScope N_L_is_paper ["_law_prices", "_law_one", "_law_other_here", "_law_thing"] (defScope s_L_is_paper) := ⟨rfl, rfl, rfl, by decide +kernel, rfl, by decide +kernel, by decide +kernel⟩
/-- within steps no list -/
def okS (d : D) : Prop := ∀ ss, d = .tuple ss → noLs ss = true
def okT (d : D) : Prop := gdn 6 d = true ∧ (∀ s r, d = .tuple [s, r] → okR r) ∧ ∀ s r, d = .tuple [s, r] → okS s
structure A6 where
  (p : PP) (one other : List Str) (d : D)
def A6.ok (a : A6) : Prop := okW a.one ∧ okW a.other ∧ okT a.d
def A6.l (a : A6) : List D := [a.p.d, wordsD a.one, wordsD a.other, a.d]
abbrev spPaper (K : PySem.W.Frag) : Sp := spR K A6.l A6.ok fun a => .bool (paperOk a.p.p2 a.p.p3 a.p.p4 a.one a.other a.d)
theorem paper_two {p2 p3 p4 : Int} {one other : List Str} {xs : List D} (h : decide (xs.length = 2) = false) : paperOk p2 p3 p4 one other (.tuple xs) = false := by
  match xs, h with
  | [], _ => rfl
  | [_], _ => rfl
  | [_, _], h => exact nomatch h
  | _ :: _ :: _ :: _, _ => rfl
theorem paper_none {p2 p3 p4 : Int} {one other : List Str} {s r : D} (h : made p2 p3 p4 one s = none) : paperOk p2 p3 p4 one other (.tuple [s, r]) = false := by
  unfold paperOk
  simp only [h]
theorem paper_some {p2 p3 p4 : Int} {one other : List Str} {s r : D} {ws : List Str} {c : Int} (h : made p2 p3 p4 one s = some (ws, c)) :
    paperOk p2 p3 p4 one other (.tuple [s, r]) = ((ws == other) && potB (one.length + 1) (other.length + 1) r && (cellD r 0 0 == 0) && (cellD r one.length other.length == c) && holdAll p2 p3 p4 one other (cellD r)) := by
  conv => lhs; unfold paperOk
  simp only [h]
theorem c_L_is_paper (T : Txt w K mg) (d : DefAt K mg "_law_is_paper" s_L_is_paper) (G_L_walk : KCal P w K mg base CX0 2 "_law_walk" ["_law_prices", "_law_one", "_law_steps"] (spWalk K)) (G_L_are_rows : KCal P w K mg base CX0 1 "_law_are_rows" ["_law_thing", "_law_rows", "_law_width"] (spRows K)) : KCal P w K mg base CX0 3 "_law_is_paper" ["_law_prices", "_law_one", "_law_other_here", "_law_thing"] (spPaper K) := by
  refine d.cal (fun _ _ _ _ _ _ us hl => match us, hl with | [_, _, _, _], _ => rfl) fun f fd F => F.ok sc_L_is_paper (fun vs H Q E h => spr_len (fun _ => rfl) h) (fun cdv A outer s H vs Q E hr h => ?_)
  have hu := hr.units
  refine ⟨_, (pss_cons (ps_if (PW.pt (pw_or (pt_not (pt_val (pe_callB call_isi (by rfl) T.n_isinstance (by decide +kernel) (pa_cons (pv 3) (pa_cons (pe_bltn (v := .ty "tuple") rfl T.n_tuple (by decide +kernel) rfl) pa_nil))))) (pw_or1 (pt_cmpR (op_neD hu) (pe_callB call_len (by rfl) T.n_len (by decide +kernel) (pa_cons (pv 3) pa_nil)) pe_int (nomark _))))) (pss_one (ps_ret pe_bl)) pss_nil)
  (pss_cons (ps_par (i := 4) (j := 5) rfl sc_L_is_paper.nd rfl rfl (by decide) rfl rfl (pa_cons (pc0 G_L_walk hr (by decide) (by rfl) (pa_cons (pv 0) (pa_cons (pv 1) (pa_cons (pe_ix ix_seq (pv 3) pe_int (fun _ _ => rfl)) pa_nil)))) (pa_cons (pe_ix ix_seq (pv 3) pe_int (fun _ _ => rfl)) pa_nil)) (by rfl))
  (pss_cons (ps_if (PW.pt (pw_or (pt_cmpR op_isN (pv 4) pe_non (nomark _)) (pw_or (pt_cmpR (op_neD hu) (pe_ix ix_seq (pv 4) pe_int (fun _ _ => rfl)) (pv 2) (nomark _)) (pw_or1 (pt_not (pt_val (pc0 G_L_are_rows hr (by decide) (by rfl) (pa_cons (pv 5) (pa_cons (pe_op opAddU (pe_callB call_len (by rfl) T.n_len (by decide +kernel) (pa_cons (pv 1) pa_nil)) pe_int) (pa_cons (pe_op opAddU (pe_callB call_len (by rfl) T.n_len (by decide +kernel) (pa_cons (pv 2) pa_nil)) pe_int) pa_nil)))))))))) (pss_one (ps_ret pe_bl)) pss_nil)
  (pss_cons (ps_if (PW.pt (pw_or (pt_cmpR (op_neD hu) (pe_ix ix_seq (pe_ix ix_seq (pv 5) pe_int (fun _ _ => rfl)) pe_int (fun _ _ => rfl)) pe_int (nomark _)) (pw_or1 (pt_cmpR (op_neD hu) (pe_ix ix_seq (pe_ix ix_seq (pv 5) (pe_callB call_len (by rfl) T.n_len (by decide +kernel) (pa_cons (pv 1) pa_nil)) (fun _ _ => rfl)) (pe_callB call_len (by rfl) T.n_len (by decide +kernel) (pa_cons (pv 2) pa_nil)) (fun _ _ => rfl)) (pe_ix ix_seq (pv 4) pe_int (fun _ _ => rfl)) (nomark _))))) (pss_one (ps_ret pe_bl)) pss_nil)
  (pss_cons (ps_for PassesOwn.never rfl (pi_enumU (by rfl) T.n_enumerate (pa_cons (pv 5) pa_nil)) (pg_tup rfl (pgs_cons (pg_name (i := 6) sc_L_is_paper.nd rfl (Or.inl rfl)) (pgs_cons (pg_name (i := 7) sc_L_is_paper.nd rfl (Or.inl rfl)) pgs_nil)))
  (pss_one (ps_for PassesOwn.never rfl (pi_enumU (by rfl) T.n_enumerate (pa_cons (pv 7) pa_nil)) (pg_tup rfl (pgs_cons (pg_name (i := 8) sc_L_is_paper.nd rfl (Or.inl rfl)) (pgs_cons (pg_name (i := 9) sc_L_is_paper.nd rfl (Or.inl rfl)) pgs_nil)))
  (pss_cons (ps_if (PW.pt (pw_or (PW.pt (pw_and (pt_cmpR op_gt (pv 6) pe_int (nomark _)) (pw_and1 (pt_cmpR op_gt (pv 9) (pe_op opAddU (pe_ix ix_seq (pe_ix ix_seq (pv 5) (pe_op op_sub (pv 6) pe_int) (fun _ _ => rfl)) (pv 8) (fun _ _ => rfl)) (pe_ix ix_seq (pv 0) pe_int (fun _ _ => rfl))) (nomark _))))) (pw_or1 (PW.pt (pw_and (pt_cmpR op_gt (pv 8) pe_int (nomark _)) (pw_and1 (pt_cmpR op_gt (pv 9) (pe_op opAddU (pe_ix ix_seq (pv 7) (pe_op op_sub (pv 8) pe_int) (fun _ _ => rfl)) (pe_ix ix_seq (pv 0) pe_int (fun _ _ => rfl))) (nomark _)))))))) (pss_one (ps_ret pe_bl)) pss_nil)
  (pss_one (ps_if (PW.pt (pw_and (pt_cmpR op_gt (pv 6) pe_int (nomark _)) (pw_and1 (pt_cmpR op_gt (pv 8) pe_int (nomark _))))) (pss_cons (ps_set (i := 10) sc_L_is_paper.nd rfl (Or.inl rfl) (pe_ifExp (pt_cmpR (op_eqD hu) (pe_ix ix_seq (pv 1) (pe_op op_sub (pv 6) pe_int) (fun _ _ => rfl)) (pe_ix ix_seq (pv 2) (pe_op op_sub (pv 8) pe_int) (fun _ _ => rfl)) (nomark _)) pe_int (pe_ix ix_seq (pv 0) pe_int (fun _ _ => rfl))))
  (pss_one (ps_if (pt_cmpR op_gt (pv 9) (pe_op opAddU (pe_ix ix_seq (pe_ix ix_seq (pv 5) (pe_op op_sub (pv 6) pe_int) (fun _ _ => rfl)) (pe_op op_sub (pv 8) pe_int) (fun _ _ => rfl)) (pv 10)) (nomark _)) (pss_one (ps_ret pe_bl)) pss_nil))) pss_nil))))))
  (pss_one (ps_ret pe_bl))))))), ?_⟩
  obtain ⟨⟨⟨p0, p1, p2, p3, p4, p5⟩, one, other, d⟩, h1, ⟨ok1, ok2, hg, hR, _⟩, k⟩ := h
  obtain ⟨v0, d0, v1, d1, v2, d2, v3, d3, rfl, e, hd0, hd1, hd2, hd3⟩ := dps4 h1 rfl
  cases e
  replace hg : gdn 6 d = true := hg
  replace hR : ∀ s r, d = .tuple [s, r] → okR r := hR
  replace ok1 : okW one := ok1
  replace ok2 : okW other := ok2
  have hm6 : other.length ≤ 6 := ok2.1
  have hn6 : one.length ≤ 6 := ok1.1
  have hdp : Dp K H v0 (PP.d ⟨p0, p1, p2, p3, p4, p5⟩) := hd0
  replace hd0 : Dp K H v0 (.tuple [.int p0, .int p1, .int p2, .int p3, .int p4, .int p5]) := hd0
  have hdw : Dp K H v1 (wordsD one) := hd1
  replace hd1 : Dp K H v1 (.tuple (one.map .str)) := hd1
  replace hd2 : Dp K H v2 (.tuple (other.map .str)) := hd2
  replace hd3 : Dp K H v3 d := hd3
  replace k : ∀ u H', Same H H' → Dp K H' u (.bool (paperOk p2 p3 p4 one other d)) → Q u H' := k
  have c2 : atI [PyData.int p0, .int p1, .int p2, .int p3, .int p4, .int p5] 2 = some (.int p2) := rfl
  have c3 : atI [PyData.int p0, .int p1, .int p2, .int p3, .int p4, .int p5] 3 = some (.int p3) := rfl
  have c4 : atI [PyData.int p0, .int p1, .int p2, .int p3, .int p4, .int p5] 4 = some (.int p4) := rfl
  have hs1 : sizedD (.tuple (one.map PyData.str)) := trivial
  have hs2 : sizedD (.tuple (other.map PyData.str)) := trivial
  have el1 : lenD (.tuple (one.map PyData.str)) = one.length := List.length_map _
  have el2 : lenD (.tuple (other.map PyData.str)) = other.length := List.length_map _
  have no : paperOk p2 p3 p4 one other d = false → ∀ u H', Same H H' → Dp K H' u (.bool false) → Q u H' := fun hm u H' e' du => k u H' e' (by rw [hm]; exact du)
  walk_at "NX"
  cases d with
  | tuple xs =>
    have hs : sizedD (.tuple xs) := trivial
    refine s_if (K := K) (b := !decide (xs.length = 2)) ?_ (fun hb H1 e1 => ?_) fun hb H1 e1 => ?_
    · apply tv_is
      · walk_at "TV"
      · show (false || !(((xs.length : Nat) : Int) == ((2 : Nat) : Int))) = _
        rw [nat_eqB, Bool.false_or]
    · rw [Bool.not_eq_true'] at hb
      exact s_ret (K := K) (by walk_at "EV") fun u H2 e2 du => no (paper_two hb) u H2 (e1.trans e2) du
    · rw [Bool.not_eq_false', decide_eq_true_eq] at hb
      obtain ⟨s, r, rfl⟩ : ∃ s r, xs = [s, r] := by
        match xs, hb with
        | [s, r], _ => exact ⟨s, r, rfl⟩
      have gs := gdn_tup hg s (by simp)
      have gr := gdn_tup hg r (by simp)
      have hRr := hR s r rfl
      have i0 : atI [s, r] 0 = some s := rfl
      have i1 : atI [s, r] 1 = some r := rfl
      have cw : SpD K (spWalk K) H1 [PP.d ⟨p0, p1, p2, p3, p4, p5⟩, wordsD one, s] (walkD ⟨p0, p1, p2, p3, p4, p5⟩ one s) := spr_of (⟨p0, p1, p2, p3, p4, p5⟩, one, s) ⟨ok1, gs⟩
      walk_at "NX"
      refine s_par (K := K) (d := walkD ⟨p0, p1, p2, p3, p4, p5⟩ one s) (e := r) (av_cons (ev_call (av_cons (ev_var ⟨_, rfl, dp_same e1 hdp⟩) (av_cons (ev_var ⟨_, rfl, dp_same e1 hdw⟩) (by walk_at "AV"))) cw) (by walk_at "AV")) fun vm vr H2 e2 dm dr => ?_
      have s2 := e1.trans e2
      have cr : SpD K (spRows K) H2 [r, .int ((one.length + 1 : Nat) : Int), .int ((other.length + 1 : Nat) : Int)] (.bool (potB (one.length + 1) (other.length + 1) r)) := spr_of (r, one.length + 1, other.length + 1) ⟨gr, hRr, by show one.length + 1 ≤ 100; omega, by show other.length + 1 ≤ 100; omega⟩
      walk_at "NX"
      cases hmade : made p2 p3 p4 one s with
      | none =>
        have em : walkD ⟨p0, p1, p2, p3, p4, p5⟩ one s = .none := by
          unfold walkD
          simp only [hmade]
        rw [em] at dm
        apply s_if (K := K)
        · with_reducible apply tv_or (b := false)
          · walk_at "TV"
          · intro z
            exact nomatch z
        · intro hb H3 e3
          exact s_ret (K := K) (by walk_at "EV") fun u H4 e4 du => no (paper_none hmade) u H4 (s2.trans (e3.trans e4)) du
        · intro z
          exact nomatch z
      | some wc =>
        obtain ⟨ws, cost⟩ := wc
        have em : walkD ⟨p0, p1, p2, p3, p4, p5⟩ one s = .tuple [.tuple (ws.map .str), .int cost] := by
          unfold walkD
          simp only [hmade]
        rw [em] at dm
        have ep := paper_some (other := other) (r := r) hmade
        have j0 : atI [PyData.tuple (ws.map .str), .int cost] 0 = some (.tuple (ws.map .str)) := rfl
        have j1 : atI [PyData.tuple (ws.map .str), .int cost] 1 = some (.int cost) := rfl
        have shw := sh_words (made_names ok1 hmade)
        have sho := sh_words ok2.2
        refine s_if (K := K) (b := !(ws == other) || !potB (one.length + 1) (other.length + 1) r) ?_ (fun hb H3 e3 => ?_) fun hb H3 e3 => ?_
        · apply tv_is
          · with_reducible apply tv_or
            · walk_at "TV"
            · intro _
              with_reducible apply tv_or
              · walk_at "TV"
              · intro _
                with_reducible apply tv_not
                refine tv_B (ev_call (av_cons (by walk_at "EV") (av_cons (ev_is (d := .int (((lenD (.tuple (one.map PyData.str)) : Nat) : Int) + 1)) (by walk_at "EV") (by rw [el1]; rfl)) (av_cons (ev_is (d := .int (((lenD (.tuple (other.map PyData.str)) : Nat) : Int) + 1)) (by walk_at "EV") (by rw [el2]; rfl)) av_nil))) cr)
          · rw [eqv_words]
            rfl
        · refine s_ret (K := K) (by walk_at "EV") fun u H4 e4 du => no ?_ u H4 (s2.trans (e3.trans e4)) du
          rw [ep]
          rw [Bool.or_eq_true, Bool.not_eq_true', Bool.not_eq_true'] at hb
          rcases hb with hb | hb <;> rw [hb] <;> simp
        · rw [Bool.or_eq_false_iff, Bool.not_eq_false', Bool.not_eq_false'] at hb
          obtain ⟨hb1, hb2⟩ := hb
          have et := potB_tab hb2
          obtain ⟨R, hRdef⟩ : ∃ R, R = cellD r := ⟨_, rfl⟩
          rw [← hRdef] at et ep
          rw [hb1, hb2, Bool.true_and, Bool.true_and] at ep
          have s3 := s2.trans e3
          have dr3 : Dp K H3 vr (.tuple ((List.range (one.length + 1)).map fun i => .tuple ((List.range (other.length + 1)).map fun j => .int (R i j)))) := by
            have := dp_same e3 dr
            rw [et] at this
            exact this
          have dm3 := dp_same e3 dm
          have z0 := atI_tab (R := R) (m := other.length + 1) (n := one.length + 1) (x := 0) (i := 0) rfl (by omega)
          have z1 := atI_row (R := R) (m := other.length + 1) (i := 0) (x := 0) (j := 0) rfl (by omega)
          have z2 := atI_tab (R := R) (m := other.length + 1) (n := one.length + 1) (x := ((lenD (.tuple (one.map PyData.str)) : Nat) : Int)) (i := one.length) (by rw [el1]) (by omega)
          have z3 := atI_row (R := R) (m := other.length + 1) (i := one.length) (x := ((lenD (.tuple (other.map PyData.str)) : Nat) : Int)) (j := other.length) (by rw [el2]) (by omega)
          walk_at "NX"
          refine s_if (K := K) (b := !(R 0 0 == 0) || !(R one.length other.length == cost)) ?_ (fun hb H4 e4 => ?_) fun hb H4 e4 => ?_
          · apply tv_is
            · walk_at "TV"
            · rfl
          · refine s_ret (K := K) (by walk_at "EV") fun u H5 e5 du => no ?_ u H5 (s3.trans (e4.trans e5)) du
            rw [ep]
            rw [Bool.or_eq_true, Bool.not_eq_true', Bool.not_eq_true'] at hb
            rcases hb with hb | hb <;> rw [hb] <;> simp
          · rw [Bool.or_eq_false_iff, Bool.not_eq_false', Bool.not_eq_false'] at hb
            rw [hb.1, hb.2, Bool.true_and, Bool.true_and] at ep
            have s4 := s3.trans e4
            walk_at "NX"
            refine s_for (K := K) (d := .tuple ((List.range (one.length + 1)).map fun i => .tuple ((List.range (other.length + 1)).map fun j => .int (R i j)))) (yd_enum (by walk_at "AV") (.inr rfl)) fun H5 w5 e5 dw5 => ⟨fun k σ Hc => ∃ o6 o7 o8 o9 o10, σ = [some v0, some v1, some v2, some v3, some vm, some vr, o6, o7, o8, o9, o10] ∧ Same H3 Hc ∧ Dp K Hc w5 (.tuple ((List.range (one.length + 1)).map fun i => .tuple ((List.range (other.length + 1)).map fun j => .int (R i j)))) ∧
                ((List.range k).all fun i => (List.range (other.length + 1)).all fun j => holdB p2 p3 p4 one other R i j) = true, ?_, ?_, ?_, ?_, ?_⟩
            · rintro i σ Ha Hb sm ⟨o6, o7, o8, o9, o10, rfl, q1, q2, q3⟩
              exact ⟨o6, o7, o8, o9, o10, rfl, q1.trans sm, dp_same sm q2, q3⟩
            · rintro i σ Ha ⟨o6, o7, o8, o9, o10, rfl, q1, q2, q3⟩
              exact q2
            · exact ⟨_, _, _, _, _, rfl, e4.trans e5, dw5, rfl⟩
            · rintro i e v σ Hc he ⟨o6, o7, o8, o9, o10, rfl, q1, q2, q3⟩ dv
              obtain ⟨d', hd', rfl⟩ := enumD_of he
              obtain ⟨hi, rfl⟩ := rows_get hd'
              refine g_pair (K := K) dv fun vi vw di dw => ?_
              obtain rfl := dp_int di
              refine s_for (K := K) (d := .tuple ((List.range (other.length + 1)).map fun j => .int (R i j))) (yd_enum (by walk_at "AV") (.inr rfl)) fun H6 w6 e6 dw6 => ⟨fun k σ Hd => ∃ o8 o9 o10, σ = [some v0, some v1, some v2, some v3, some vm, some vr, some (.int (i : Nat)), some vw, o8, o9, o10] ∧ Same H3 Hd ∧ Same Hc Hd ∧ Dp K Hd w6 (.tuple ((List.range (other.length + 1)).map fun j => .int (R i j))) ∧
                  ((List.range k).all fun j => holdB p2 p3 p4 one other R i j) = true, ?_, ?_, ?_, ?_, ?_⟩
              · rintro j σ Ha Hb sm ⟨o8, o9, o10, rfl, r1, r0, r2, r3⟩
                exact ⟨o8, o9, o10, rfl, r1.trans sm, r0.trans sm, dp_same sm r2, r3⟩
              · rintro j σ Ha ⟨o8, o9, o10, rfl, r1, r0, r2, r3⟩
                exact r2
              · exact ⟨_, _, _, rfl, q1.trans e6, e6, dw6, rfl⟩
              · rintro j e v σ Hd he ⟨o8, o9, o10, rfl, r1, r0, r2, r3⟩ dv
                obtain ⟨d', hd', rfl⟩ := enumD_of he
                obtain ⟨hj, rfl⟩ := row_get hd'
                refine g_pair (K := K) dv fun vj vn dj dn => ?_
                obtain rfl := dp_int dj
                obtain rfl := dp_int dn
                have dw0 := dp_same r0 dw
                have dr0 := dp_same r1 dr3
                have s0 := s3.trans r1
                have bad : holdB p2 p3 p4 one other R i j = false → paperOk p2 p3 p4 one other (.tuple [s, r]) = false := fun hb => by
                  rw [ep]
                  exact rall_fail hi (rall_fail hj hb)
                walk_at "NX"
                refine s_if (K := K) (b := b1Z p2 p3 R i j) ?_ (fun hb H7 e7 => ?_) fun hb1 H7 e7 => ?_
                · refine tv_or (tv_and (by walk_at "TV") fun h1 => ?_) fun _ => tv_and (by walk_at "TV") fun h1 => ?_
                  · rw [decide_eq_true_eq] at h1
                    have y1 := atI_tab (R := R) (m := other.length + 1) (n := one.length + 1) (x := (i : Int) - 1) (i := i - 1) (by omega) (by omega)
                    have y2 := atI_row (R := R) (m := other.length + 1) (i := i - 1) (x := (j : Int)) (j := j) rfl hj
                    walk_at "TV"
                  · rw [decide_eq_true_eq] at h1
                    have y2 := atI_row (R := R) (m := other.length + 1) (i := i) (x := (j : Int) - 1) (j := j - 1) (by omega) (by omega)
                    walk_at "TV"
                · refine s_ret (K := K) (by walk_at "EV") fun u H8 e8 du => no (bad ?_) u H8 (s0.trans (e7.trans e8)) du
                  rw [holdZ, hb]
                  rfl
                · have s7 := s0.trans e7
                  have dr7 := dp_same e7 dr0
                  walk_at "NX"
                  refine s_if (K := K) (b := (decide ((0 : Int) < (i : Nat)) && decide ((0 : Int) < (j : Nat)))) (by walk_at "TV") (fun hb H8 e8 => ?_) fun hb H8 e8 => ?_
                  · have hb' := hb
                    rw [Bool.and_eq_true, decide_eq_true_eq, decide_eq_true_eq] at hb'
                    have s8 := s7.trans e8
                    have y1 := atI_tab (R := R) (m := other.length + 1) (n := one.length + 1) (x := (i : Int) - 1) (i := i - 1) (by omega) (by omega)
                    have y2 := atI_row (R := R) (m := other.length + 1) (i := i - 1) (x := (j : Int) - 1) (j := j - 1) (by omega) (by omega)
                    have y3 := atI_words (ws := one) (j := (i : Int) - 1) (i := i - 1) (by omega) (by omega)
                    have y4 := atI_words (ws := other) (j := (j : Int) - 1) (i := j - 1) (by omega) (by omega)
                    have sh1 := (name_shape (ok1.nm (k := i - 1) (by omega))).1
                    have sh2 := (name_shape (ok2.nm (k := j - 1) (by omega))).1
                    walk_at "NX"
                    refine s_asg (K := K) (d := .int (al p4 one other (i - 1) (j - 1))) (ev_if (b := wd one (i - 1) == wd other (j - 1)) ?_ ?_ ?_) fun va H9 e9 dva => ?_
                    · refine tv_is ?_ (eqv_strs (a := wd one (i - 1)) (b := wd other (j - 1)))
                      walk_at "TV"
                    · intro hb
                      refine ev_is ev_int ?_
                      unfold al
                      rw [if_pos hb]
                    · intro hb
                      refine ev_is (d := .int p4) (by walk_at "EV") ?_
                      unfold al
                      rw [hb]
                      rfl
                    obtain rfl := dp_int dva
                    have dr9 := dp_same (e8.trans e9) dr7
                    have s9 := s8.trans e9
                    try dsimp only
                    refine s_if (K := K) (b := decide (R (i - 1) (j - 1) + al p4 one other (i - 1) (j - 1) < R i j)) (by walk_at "TV") (fun hb2 H10 e10 => ?_) fun hb2 H10 e10 => ?_
                    · refine s_ret (K := K) (by walk_at "EV") fun u H11 e11 du => no (bad ?_) u H11 (s9.trans (e10.trans e11)) du
                      rw [holdZ]
                      unfold b2Z
                      rw [hb, hb2]
                      simp
                    · have e710 := e7.trans (e8.trans (e9.trans e10))
                      refine ⟨_, _, _, rfl, r1.trans e710, r0.trans e710, dp_same e710 r2, rall_step r3 ?_⟩
                      rw [holdZ, hb1]
                      unfold b2Z
                      rw [hb, hb2]
                      rfl
                  · have e78 := e7.trans e8
                    refine ⟨_, _, _, rfl, r1.trans e78, r0.trans e78, dp_same e78 r2, rall_step r3 ?_⟩
                    rw [holdZ, hb1]
                    unfold b2Z
                    rw [hb]
                    rfl
              · rintro σ Hd ⟨o8, o9, o10, rfl, r1, r0, r2, r3⟩
                rw [enumD_len, List.length_map, List.length_range] at r3
                exact ⟨_, _, _, _, _, rfl, r1, dp_same r0 q2, rall_step q3 r3⟩
            · rintro σ Hc ⟨o6, o7, o8, o9, o10, rfl, q1, q2, q3⟩
              rw [enumD_len, List.length_map, List.length_range] at q3
              walk_at "NX"
              refine s_ret (K := K) (by walk_at "EV") fun u H5 e5 du => k u H5 (s3.trans (q1.trans e5)) ?_
              rw [ep]
              have e : holdAll p2 p3 p4 one other R = true := q3
              rw [e]
              exact du
  | _ =>
    apply s_if (K := K)
    · with_reducible apply tv_or (b := false)
      · walk_at "TV"
      · intro z
        exact nomatch z
    · intro hb H1 e1
      exact s_ret (K := K) (by walk_at "EV") fun u H2 e2 du => no rfl u H2 (e1.trans e2) du
    · intro z
      exact nomatch z
end
end K5
set_option Elab.async false
set_option linter.all false
set_option maxRecDepth 100000
set_option maxHeartbeats 4000000
/-! Exceptions of the program: what their class must be, how they are made, what a def promises that raises them. -/
namespace K5
open PySem L2 PySem.Spec PyProof.Rows
local macro_rules | `(tactic| walk_at "DP") => `(tactic| first | with_reducible assumption | with_reducible exact Dp.int _ | with_reducible exact Dp.str _ | with_reducible exact Dp.bl _ | with_reducible exact Dp.non | with_reducible exact dp_up (by assumption) (by assumption))
local macro_rules | `(tactic| walk_at "SH") => `(tactic| first | with_reducible assumption | rfl)
local macro_rules | `(tactic| walk_at "RD") => `(tactic| first | with_reducible assumption | exact rd_addI | exact rd_I0 fun _ => .int _ | exact rd_I0 fun _ => .bl _ | exact rd_ixL (by with_reducible assumption) | exact rd_ixT (by with_reducible assumption) | exact rd_ixS (by with_reducible assumption) (by with_reducible assumption) | exact rd_eqD (by walk_at "SH") (by walk_at "SH") | exact rd_neD (by walk_at "SH") (by walk_at "SH") | exact rd_inS | exact rd_notN | exact rd_isN | exact rd_addL (by with_reducible assumption) | exact rd_addT (by with_reducible assumption) | exact rd_addS (by with_reducible assumption))
local macro_rules | `(tactic| walk_at "OV") => `(tactic| first | with_reducible exact ov_no | ((with_reducible apply ov_some); walk_at "EV"))
local macro_rules | `(tactic| walk_at "AV") => `(tactic| first | with_reducible assumption | with_reducible exact av_nil | ((with_reducible apply av_cons); walk_at "EV"; walk_at "AV"))
local macro_rules | `(tactic| walk_at "RC") => `(tactic| first | with_reducible assumption | exact rc_len (by (first | with_reducible assumption | trivial)) | exact rc_tupL | exact rc_tupT | exact rc_lstL | exact rc_lstT | exact rc_all | exact rc_sum | exact rc_min2 | exact rc_min3)
local macro_rules | `(tactic| walk_at "KIT") => `(tactic| first | with_reducible exact kit_int _ | with_reducible exact kit_bool _ | with_reducible exact kit_str _ | with_reducible exact kit_tuple _)
local macro_rules | `(tactic| walk_at "EV") => `(tactic| first | with_reducible assumption | with_reducible exact ev_int | with_reducible exact ev_str | with_reducible exact ev_bl | with_reducible exact ev_non | ((with_reducible apply ev_var); exact sl_mk rfl (by walk_at "DP")) | ((with_reducible apply ev_op); walk_at "EV"; walk_at "EV"; walk_at "RD") | ((with_reducible apply ev_neg); walk_at "EV") | ((with_reducible apply ev_tup); walk_at "AV"; (first | (with_reducible assumption) | decide)) | ((with_reducible apply ev_lst); walk_at "AV"; (first | (with_reducible assumption) | decide)) | ((with_reducible apply ev_call); walk_at "AV"; with_reducible assumption) | ((with_reducible apply ev_isi2); exact rfl; walk_at "EV"; walk_at "KIT") | ((with_reducible apply ev_cb); walk_at "AV"; walk_at "RC") | ((with_reducible apply ev_chain); walk_at "EV"; walk_at "EV"; walk_at "RD"; intro _; walk_at "EV"; intro _; walk_at "RD") | ((with_reducible apply ev_andV); walk_at "EV"; intro _; walk_at "EV") | ((with_reducible apply ev_orV); walk_at "EV"; intro _; walk_at "EV") | ((with_reducible apply ev_notV); walk_at "EV") | ((with_reducible apply ev_sl2); exact rfl; walk_at "EV"; walk_at "OV"; walk_at "OV"; walk_at "SLD") | ((with_reducible apply ev_rev2); exact rfl; walk_at "EV"))
local macro_rules | `(tactic| walk_at "SLD") => `(tactic| first | with_reducible exact SlD.l | with_reducible exact SlD.t | with_reducible exact SlD.s (by with_reducible assumption))
local macro_rules | `(tactic| walk_at "TV") => `(tactic| first | with_reducible assumption | ((with_reducible apply tv_and); walk_at "TV"; intro _; walk_at "TV") | ((with_reducible apply tv_or); walk_at "TV"; intro _; walk_at "TV") | ((with_reducible apply tv_not); walk_at "TV") | ((with_reducible apply tv_B); walk_at "EV") | ((with_reducible apply tv_T); walk_at "EV"))
local macro_rules | `(tactic| walk_at "NX") => `(tactic| ((try dsimp only); (try with_reducible apply s_next); (try dsimp only); (try with_reducible apply s_seq)))

def initS (i : Nat) : Stmt := match topS i with
  | .ClassDef _ _ _ body _ _ _ _ _ _ _ => body.getD 0 (.Pass ⟨0, 0, 0, 0⟩) | _ => .Pass ⟨0, 0, 0, 0⟩
/-- RingError, as its __init__ is read off it -/
structure RingTxt (K : PySem.W.Frag) (mg : Str → Option Value) (C0 : Addr) : Prop where
  gC : mg "RingError" = some (.ref C0)
  c0 : PySem.W.findCls K (.ref C0) (.type "type") "__init__" = some (.val (.builtin "ValueError.__init__"))
  r0 : PySem.W.readsIn K C0 (.type "type") = true
  g0 : PySem.W.specialIn K (.ref C0) "__getattribute__" = some (some (.builtin "type.__getattribute__"))
section
variable {X : Cx} {e : Expr} {es : List Expr} {ta : TA} {p p1 p2 pos : Pos} {C0 : Addr}
/-- RingError.__init__(self, ..) -/
theorem pe_reinit {pl : Sem Bool} (T : RingTxt X.K X.mg C0) (hg : Gl X "RingError") (ha : PA X (e :: es) ta)
    (hc : eval (.Call (.Attribute (.Name "RingError" p1) "__init__" p2) (e :: es) [] pos) X.env = (do
      let ov ← eval (.Name "RingError" p1) X.env
      standAt p2.atName
      let (f, first) ← holding [ov] (getMethod ov "__init__" pl)
      callWith pos f first (backTo pos (starEach (e :: es) X.env)) (backToKw pos (keywordEach [] X.env))) := by rfl)
    (he : starEach (e :: es) X.env = (false, eval e X.env) :: starEach es X.env := by rfl) (hpl : (backTo pos (starEach es X.env)).any (·.1) = false := by rfl) :
    PE X (.Call (.Attribute (.Name "RingError" p1) "__init__" p2) (e :: es) [] pos) (tVeI X.K ta) := by
  refine ⟨fun pins s σ H Q I h => ?_⟩
  refine PySem.W.methodCall_KW (ld_glob I hg T.gC ?_ (by decide)) hc
  refine PySem.W.method_cls I.kIn T.g0 (PySem.W.cls_value I.kIn T.r0 T.c0 (by decide +kernel) ?_)
  show wpAny _ _ (callWith pos (Value.builtin "ValueError.__init__") [] (backTo pos (starEach (e :: es) X.env)) []) _ _ _
  refine PyProof.Rows.callWith_method1 (thn (ha.run pos pins _ σ H _ (I.tok _) h) fun us s1 hh => ?_) he hpl
  obtain ⟨vs, H1, I1, r1, a, C, ws, ev, hl, T', ea, q⟩ := hh
  subst ev
  cases r1 with
  | @cons _ u0 _ ur ra rw' =>
    obtain rfl : u0 = Value.ref a := ra
    have hlen : ur.length ≤ sizeLine := by
      rw [← Paired.length rw', sizeLine_eq]
      omega
    exact oinit_ok T' I1 ea hlen fun s' J => ⟨.non, H1, J, rfl, q⟩
/-- C() -/
theorem pmk_oex0 {CX : CXT} {x : Str} {C fI : Addr} {k : Nat} {fd : FuncData} {ps : List Str} {sp : Sp} {ds : List Value} {dvs : List V} (T : OexC X.K C) (iC : PySem.W.findIn X.K (.ref C) "__init__" = some (some (.ref fI))) (tI : PySem.W.typeIn X.K (.ref fI) = some (.type "function"))
    (F1 : FnOk X.prog X.w X.K X.mg X.base CX k fI fd ps sp) (hr : Room (k + 1) X.A) (hb : Binds X.K fd ps ds) (hd : Vals dvs ds) (hx : Passes CX X (fun _ _ _ => False)) (hg : Gl X x) (hm : X.mg x = some (.ref C))
    (hdb : (x == ("__debug__" : Str)) = false := by decide) :
    PMk X (.Call (.Name x p) [] [] pos) (tMkO C sp dvs tNil) := by
  intro pins s σ H Q I h
  obtain ⟨nm, q, N, bs, bm, sn, sub, ab, col, dd, k0, k1, k2, k3, k5, hC, hbm⟩ := T.cls
  refine wpAny_Call_Name_kw (ld_glob I hg hm ?_ hdb)
  refine PySem.W.callWith_K0 I.kIn T.kC ?_
  obtain ⟨hz, q1⟩ := (show ([] : List V).length ≤ 1000 ∧ ∀ a, H a = none → sp (.ref a :: ([] ++ dvs)) (upd H a (exo a C none)) _ _ from h)
  show wpAny _ _ (call (.ref C) []) _ _ _
  obtain ⟨hp, g, dr, tk, os⟩ := s
  have hsz : hp.objs.size ≤ hp.objs.size + 1 := Nat.le_succ _
  have hn : H (hp.objs.size + 1) = none := I.hok.fresh hsz
  have hq := q1 (hp.objs.size + 1) hn
  have kk : ∀ b o, hp.get? b = some o → ((hp.push (PySem.W.kdv_tup [])).push (PySem.HandSPX.excO C hp.objs.size)).get? b = some o := fun b o e => Heap.get?_push_of_some _ (Heap.get?_push_of_some _ e)
  have hget : ((hp.push (PySem.W.kdv_tup [])).push (PySem.HandSPX.excO C hp.objs.size)).get? (hp.objs.size + 1) = some (PySem.HandSPX.excO C hp.objs.size) := by heap_get
  have I2 : Inv X pins σ (upd H (hp.objs.size + 1) (exo (hp.objs.size + 1) C none)) ⟨(hp.push (PySem.W.kdv_tup [])).push (PySem.HandSPX.excO C hp.objs.size), g, dr, tk, os⟩ :=
    I.laid (t' := tk) (a := hp.objs.size + 1) (o := exo (hp.objs.size + 1) C none) (h' := (hp.push (PySem.W.kdv_tup [])).push (PySem.HandSPX.excO C hp.objs.size)) kk hsz (exo_ok hget)
  have r2 : Vals (V.ref (hp.objs.size + 1) :: ([] ++ dvs)) (Value.ref (hp.objs.size + 1) :: ([] ++ ds)) := .cons rfl hd
  have hl : (Value.ref (hp.objs.size + 1) :: [] ++ ds).length = ps.length := by
    have e := r2.length
    rw [F1.len _ _ _ _ hq] at e
    exact e.symm
  have hus : ([] : List Value).length ≤ sizeLine := Nat.zero_le _
  have eb : (Value.ref (hp.objs.size + 1) :: []) ++ ds = Value.ref (hp.objs.size + 1) :: ([] ++ ds) := rfl
  refine wpAny_call (PySem.HandSPX.call_own F.excBase_ValueError (fun Y => PySem.HandSPX.refsVE_contains Y bm hbm) (I.kIn _ _ hC) (PySem.W.looks_findIn I.kIn iC) (fun self => PySem.W.bind_fn I.kIn self tI) hus
    (codeAny_mono (F1.run _ X.stack _ _ ⟨Value.ref (hp.objs.size + 1) :: [], []⟩ (Value.ref (hp.objs.size + 1) :: ([] ++ ds)) _ _ (fun _ _ _ => False) (hr.make C [] []) (I2.env0.make C [] []) (eb ▸ hb _ (Value.ref (hp.objs.size + 1) :: []) I2.kIn hl) r2 hq) fun r s' hq' => ?_))
  cases r with
  | error er => exact hx pins σ _ _ er s' I2 hq'
  | ok fl =>
    cases fl with
    | ret u =>
      obtain ⟨v, H2, os2, bare2, un2, hok2, rv, ev, d, fs, ea, ed, hd1, q2⟩ := hq'
      subst ev
      obtain ⟨h2, g2, d2, t2, os'⟩ := s'
      exact ⟨rv, mk_end (raises_own T.exC T.tyC) I hsz kk un2 hok2 os2 bare2 ea ed hd1 q2⟩
    | next => exact False.elim hq'
    | brk => exact False.elim hq'
    | cont => exact False.elim hq'
end
/-- __init__(self, n): the field f is n -/
def spInit (K : PySem.W.Frag) (C : Addr) (f : Str) : Sp := fun vs H Q _ => ∃ (a : Addr) (n : V), vs = [.ref a, n] ∧ H a = some (exo a C none) ∧ ∀ dx, H dx = none → dx ≠ a → Q .non (upd (upd H dx (exd dx [(f, n)])) a (exo a C (some dx)))
/-- a class of the program whose __init__ keeps a field f, None by default -/
structure XTxt (P : Program) (w : World) (K : PySem.W.Frag) (mg : Str → Option Value) (base : Heap) (x : Str) (C : Addr) (f : Str) : Prop where
  gC : mg x = some (.ref C)
  T : OexC K C
  ini : ∃ (fI : Addr) (fd : FuncData), PySem.W.findIn K (.ref C) "__init__" = some (some (.ref fI)) ∧ PySem.W.typeIn K (.ref fI) = some (.type "function") ∧ FnOk P w K mg base CX0 1 fI fd ["self", f] (spInit K C f) ∧ Binds K fd ["self", f] [] ∧ ∃ ds, Vals [V.non] ds ∧ Binds K fd ["self", f] ds
section
variable {X : Cx} {x f : Str} {e : Expr} {es : List Expr} {ta : TA} {p pos : Pos} {C : Addr}
theorem pmk_bad (T : XTxt X.prog X.w X.K X.mg X.base x C f) (hr : Room 2 X.A) (hg : Gl X x) (ha : PA X (e :: es) ta) (hdb : (x == ("__debug__" : Str)) = false := by decide) (he : starEach (e :: es) X.env = (false, eval e X.env) :: starEach es X.env := by rfl) (hpl : (backTo pos (starEach es X.env)).any (·.1) = false := by rfl) :
    PMk X (.Call (.Name x p) (e :: es) [] pos) (tMkO C (spInit X.K C f) [] ta) := by
  obtain ⟨fI, fd, h1, h2, h3, h4, _⟩ := T.ini
  exact pmk_oex T.T h1 h2 h3 hr h4 .nil pass0 hg T.gC ha hdb he hpl
theorem pmk_bad0 (T : XTxt X.prog X.w X.K X.mg X.base x C f) (hr : Room 2 X.A) (hg : Gl X x) (hdb : (x == ("__debug__" : Str)) = false := by decide) : PMk X (.Call (.Name x p) [] [] pos) (tMkO C (spInit X.K C f) [.non] tNil) := by
  obtain ⟨fI, fd, h1, h2, h3, _, ds, h5, h6⟩ := T.ini
  exact pmk_oex0 T.T h1 h2 h3 hr h6 h5 pass0 hg T.gC hdb
end
/-- an exception of the class at C, its field f reads as nd -/
def Raised (K : PySem.W.Frag) (E : XK) (H : Hp) (C : Addr) (f : Str) (nd : D) : Prop := ∀ d v H', Same H H' → H d = none → H' d = some (.xd [(f, v)]) → Dp K H' v nd → E (.ref C) (some d) H'
theorem Raised.up {K : PySem.W.Frag} {E : XK} {H H1 : Hp} {C : Addr} {f : Str} {nd : D} (h : Raised K E H C f nd) (e : Same H H1) : Raised K E H1 C f nd := fun d v H' e' hd hx dv => h d v H' (e.trans e') (none_of e hd) hx dv
theorem made_heap {H : Hp} {a dx C : Addr} {f : Str} {n : V} (ha : H a = none) (hne : dx ≠ a) : upd (del (upd (upd (upd H a (exo a C none)) dx (exd dx [(f, n)])) a (exo a C (some dx))) a) dx (.xd [(f, n)]) = upd H dx (.xd [(f, n)]) := by
  funext b
  by_cases h1 : b = dx
  · subst h1
    rw [upd_same, upd_same]
  · rw [upd_ne h1, upd_ne h1]
    by_cases h2 : b = a
    · subst h2
      rw [del_same, ha]
    · rw [del_ne h2, upd_ne h2, upd_ne h1, upd_ne h2]
section
variable {K : PySem.W.Frag} {s : L2.St} {H : Hp} {ta : TA} {nd : D} {E : XK} {C : Addr} {f : Str} {De : Ends}
theorem mk_read {dvs : List V} {vs : List V} {n : V} (ev : vs ++ dvs = [n]) (hl : vs.length ≤ 1000) {Q : XK} (q : ∀ d, H d = none → Q (.ref C) (some d) (upd H d (.xd [(f, n)]))) :
    vs.length ≤ 1000 ∧ ∀ a, H a = none → spInit K C f (.ref a :: (vs ++ dvs)) (upd H a (exo a C none)) (fun v H2 => v = .non ∧ ∃ (d : Addr) (fs : List (Str × V)), H2 a = some (exo a C (some d)) ∧ H2 d = some (exd d fs) ∧ H d = none ∧ Q (.ref C) (some d) (upd (del H2 a) d (.xd fs))) (fun _ _ _ => False) := by
  refine ⟨hl, fun a ha => ?_⟩
  rw [ev]
  refine ⟨a, n, rfl, upd_same, fun dx hdx hne => ⟨rfl, dx, [(f, n)], upd_same, ?_, ?_, ?_⟩⟩
  · rw [upd_ne hne, upd_same]
  · rw [upd_ne hne] at hdx
    exact hdx
  · rw [upd_ne hne] at hdx
    rw [made_heap ha hne]
    exact q dx hdx
theorem s_raise1 (h : Av K ta s H [nd]) (r : Raised K E H C f nd) {K1 : PySem.W.Frag} (hk : K1 = K) : tMkO C (spInit K1 C f) [] ta s H E := by
  subst hk
  refine h H (Pr.refl H) _ fun vs H1 e1 dvs => ?_
  obtain ⟨v, d', rfl, e, hd⟩ := dps1 dvs rfl
  cases e
  exact mk_read (K := K1) (n := v) rfl (by show 1 ≤ 1000; decide) fun d hd0 => r d v _ (e1.trans (Same.new hd0)) (none_of e1 hd0) upd_same (dp_same (Same.new hd0) hd)
theorem s_raise0 (r : Raised K E H C f .none) {K1 : PySem.W.Frag} (hk : K1 = K) : tMkO C (spInit K1 C f) [.non] tNil s H E := by
  subst hk
  exact mk_read (K := K1) (n := .non) (vs := []) rfl (by show 0 ≤ 1000; decide) fun d hd0 => r d .non _ (Same.new hd0) hd0 upd_same .non
end
/-- what a def comes to that may raise -/
inductive Res where
  | ok (c : D) | bad (C : Addr) (f : Str) (nd : D)
def spX {α : Type} (K : PySem.W.Frag) (enc : α → List D) (ok : α → Prop) (res : α → Res) : Sp := fun vs H Q E => ∃ a : α, DpAll K H vs (enc a) ∧ ok a ∧
  match res a with | .ok c => ∀ u H', Same H H' → Dp K H' u c → Q u H' | .bad C f nd => Raised K E H C f nd
theorem spx_len {K : PySem.W.Frag} {α : Type} {enc : α → List D} {ok : α → Prop} {res : α → Res} {vs : List V} {n : Nat} {H : Hp} {Q : VK} {E : XK} (hn : ∀ a, (enc a).length = n) (h : spX K enc ok res vs H Q E) : vs.length = n := by
  obtain ⟨a, h1, _⟩ := h
  rw [dps_len h1, hn]
theorem spx_ok {K : PySem.W.Frag} {H : Hp} {α : Type} {enc : α → List D} {ok : α → Prop} {res : α → Res} {ds : List D} {c : D} (a : α) (h : ok a) (hr : res a = .ok c) (he : enc a = ds := by rfl) : SpD K (spX K enc ok res) H ds c := fun H1 vs _ dv Q E q => by
  subst he
  refine ⟨a, dv, h, ?_⟩
  rw [hr]
  exact q
section
variable {K : PySem.W.Frag} {s : L2.St} {H : Hp} {ta : TA} {E : XK} {De : Ends}
/-- a call that may raise, as a statement -/
theorem s_callX {α : Type} {enc : α → List D} {ok : α → Prop} {res : α → Res} {ds : List D} (h : Av K ta s H ds) (a : α) (he : enc a = ds) (ho : ok a) (k1 : ∀ c, res a = .ok c → ∀ H1, Same H H1 → De.nx s H1) (k2 : ∀ C f nd, res a = .bad C f nd → Raised K E H C f nd) :
    tDrop (tCall (spX K enc ok res) [] E ta) De s H := h H (Pr.refl H) _ fun vs H1 e1 dvs => by
  subst he
  rw [List.append_nil]
  refine ⟨a, dvs, ho, ?_⟩
  cases hr : res a with
  | ok c => exact fun u H' e' _ => k1 c hr H' (e1.trans e')
  | bad C f nd => exact (k2 C f nd hr).up e1
end
section
variable {X : Cx} {x : Str} {p pos : Pos} {e : Expr} {es : List Expr} {t : TA}
theorem pcX {k j : Nat} {ps : List Str} {sp : Sp} {E : XK} (G : KCal X.prog X.w X.K X.mg X.base (L2.CX X.prog X.w) k x ps sp) (hr : Room j X.A) (hk : k ≤ j) (hg : Gl X x) (tk : Takes X (fun cls d _ H => E cls d H)) (ha : PA X (e :: es) t)
    (hdb : (x == ("__debug__" : Str)) = false := by decide) (he : starEach (e :: es) X.env = (false, eval e X.env) :: starEach es X.env := by rfl) (hpl : (backTo pos (starEach es X.env)).any (·.1) = false := by rfl) :
    PE X (.Call (.Name x p) (e :: es) [] pos) (tCall sp [] E t) := pcE G hr hk hg (fun _ _ _ _ e s' I c => tk e s' (XE.of_call I (fun _ _ _ h => h) c)) ha hdb he hpl
theorem pcN {k j : Nat} {ps : List Str} {sp : Sp} (G : KCal X.prog X.w X.K X.mg X.base (L2.CX X.prog X.w) k x ps sp) (hr : Room j X.A) (hk : k ≤ j) (hg : Gl X x) (ha : PA X (e :: es) t)
    (hdb : (x == ("__debug__" : Str)) = false := by decide) (he : starEach (e :: es) X.env = (false, eval e X.env) :: starEach es X.env := by rfl) (hpl : (backTo pos (starEach es X.env)).any (·.1) = false := by rfl) :
    PE X (.Call (.Name x p) (e :: es) [] pos) (tCall sp [] E0 t) := pcE G hr hk hg passL ha hdb he hpl
theorem pcS {k j : Nat} {ps : List Str} {sp : Sp} {W : WX} (G : KCal X.prog X.w X.K X.mg X.base (L2.CX X.prog X.w) k x ps sp) (hr : Room j X.A) (hk : k ≤ j) (hg : Gl X x) (tk : Takes X W) (ha : PA X (e :: es) t)
    (hdb : (x == ("__debug__" : Str)) = false := by decide) (he : starEach (e :: es) X.env = (false, eval e X.env) :: starEach es X.env := by rfl) (hpl : (backTo pos (starEach es X.env)).any (·.1) = false := by rfl) :
    PE X (.Call (.Name x p) (e :: es) [] pos) (tCallS sp (WE W) t) := by
  obtain ⟨f, fd, h1, h2, h3, h4⟩ := G.ex
  exact pe_callS h4 (hr.mono hk) hg h1 h2 h3 (fun σ => passAt tk σ) ha hdb he hpl
end
theorem DefAt.calX {P : Program} {w : World} {K : PySem.W.Frag} {mg : Str → Option Value} {base : Heap} {CX : CXT} {x : Str} {k : Nat} {st : Stmt} {ps : List Str} {sp : Sp} (d : DefAt K mg x st)
    (hb : ∀ (kV doc pm : Value) (an : Option Addr) (cdv ct : Value) (us : List Value), us.length = ps.length → bindArgs (PySem.W.fnOf x x (defArgs st) (defBody st) (defScope st) .none kV doc pm an cdv ct) ⟨us, []⟩ = pure (ps.zip us))
    (ok : ∀ f fd, Fun K x x st f fd → FnOk P w K mg base CX k f fd ps sp) : KCal P w K mg base CX k x ps sp := d.cal hb ok
/-! ### the first that is bad -/
def firstBad (p : D → Bool) (k : Nat) : List D → Option Nat
  | [] => none | x :: xs => if p x = true then firstBad p (k + 1) xs else some k
theorem fb_none {p : D → Bool} : ∀ {xs : List D} {k : Nat}, firstBad p k xs = none ↔ xs.all p = true
  | [], k => by simp [firstBad]
  | x :: xs, k => by
    unfold firstBad
    rw [List.all_cons]
    cases p x with
    | true => rw [if_pos rfl, fb_none, Bool.true_and]
    | false => simp
theorem fb_at {p : D → Bool} : ∀ {xs : List D} {k i : Nat} {e : D}, (xs.take i).all p = true → xs[i]? = some e → p e = false → firstBad p k xs = some (k + i)
  | [], _, _, _, _, h, _ => by simp at h
  | x :: xs, k, 0, e, _, h, hp => by
    simp at h
    subst h
    unfold firstBad
    rw [if_neg (by rw [hp]; decide)]
    rfl
  | x :: xs, k, i + 1, e, ha, h, hp => by
    rw [List.take_succ_cons, List.all_cons, Bool.and_eq_true] at ha
    unfold firstBad
    rw [if_pos ha.1, fb_at (k := k + 1) ha.2 (by simpa using h) hp]
    congr 1
    omega
def needMsg (ws : List D) : Option D := if (decide ((1 : Int) ≤ (ws.length : Nat)) && decide (((ws.length : Nat) : Int) ≤ 6)) = true then (firstBad nameD 0 ws).map fun i => .int (i : Nat) else some .none
def priceB (d : D) : Bool := amongD d 0 9
def needPr (ps : List D) : Option D := if decide (ps.length = 6) = true then (firstBad priceB 0 ps).map fun i => .int (i : Nat) else some .none
def resOf (C : Addr) (f : Str) : Option D → Res
  | none => .ok .none | some nd => .bad C f nd
section
variable {P : Program} {w : World} {K : PySem.W.Frag} {mg : Str → Option Value} {base : Heap}
abbrev s_need_message : Stmt := topS 32
abbrev N_need_message : List Str := ["thing", "number", "word"]
theorem sc_need_message : FnScope N_need_message ["thing"] (defScope s_need_message) := ⟨rfl, rfl, rfl, by decide +kernel, rfl, by decide +kernel, by decide +kernel⟩
abbrev spNeedMsg (K : PySem.W.Frag) (CM : Addr) : Sp := spX K (fun a : List D => [.tuple a]) (fun a => gdn 6 (.tuple a) = true) fun a => resOf CM "number" (needMsg a)
theorem c_need_message (T : Txt w K mg) (d : DefAt K mg "need_message" s_need_message) {CM : Addr} (x_BadMessage : XTxt P w K mg base "BadMessage" CM "number") (G_is_name : KCal P w K mg base CX0 1 "is_name" ["thing"] (spIsName K)) : KCal P w K mg base (L2.CX P w) 3 "need_message" ["thing"] (spNeedMsg K CM) := by
  refine d.cal (fun _ _ _ _ _ _ us hl => match us, hl with | [_], _ => rfl) fun f fd F => F.okX sc_need_message (fun vs H Q E h => spx_len (fun _ => rfl) h) (fun cdv A outer s H vs Q E hr h => ?_)
  have hu := hr.units
  refine ⟨_, (pss_cons (ps_if (PW.pt (pw_or (pt_not (pt_val (pe_callB call_isi (by rfl) T.n_isinstance (by decide +kernel) (pa_cons (pv 0) (pa_cons (pe_bltn (v := .ty "tuple") rfl T.n_tuple (by decide +kernel) rfl) pa_nil))))) (pw_or1 (pt_not (pt_chain op_le op_le pe_int (pe_callB call_len (by rfl) T.n_len (by decide +kernel) (pa_cons (pv 0) pa_nil)) (pgl rfl T.g_MOST_WORDS)))))) (pss_one (ps_raise rfl (takes_of rfl rfl rfl rfl) (pmk_bad0 x_BadMessage (hr.mono (by decide)) (by rfl) ))) pss_nil)
  (pss_one (ps_for (passes_of rfl) rfl (pi_enumU (by rfl) T.n_enumerate (pa_cons (pv 0) pa_nil)) (pg_tup rfl (pgs_cons (pg_name (i := 1) sc_need_message.nd rfl (Or.inl rfl)) (pgs_cons (pg_name (i := 2) sc_need_message.nd rfl (Or.inl rfl)) pgs_nil)))
  (pss_one (ps_if (pt_not (pt_val (pc0 G_is_name hr (by decide) (by rfl) (pa_cons (pv 2) pa_nil)))) (pss_one (ps_raise rfl (takes_of rfl rfl rfl rfl) (pmk_bad x_BadMessage (hr.mono (by decide)) (by rfl) (pa_cons (pv 1) pa_nil)))) pss_nil))))), ?_⟩
  obtain ⟨ws, h1, hg, k⟩ := h
  obtain ⟨v, d', rfl, e, hd⟩ := dps1 h1 rfl
  cases e
  replace k : match resOf CM "number" (needMsg ws) with | .ok c => ∀ u H', Same H H' → Dp K H' u c → Q u H' | .bad C f nd => Raised K E H C f nd := k
  have hs : sizedD (.tuple ws) := trivial
  walk_at "NX"
  apply s_if (K := K)
  · walk_at "TV"
  · intro hb H1 e1
    have hb' : (!(decide ((1 : Int) ≤ (ws.length : Nat)) && decide (((ws.length : Nat) : Int) ≤ 6))) = true := hb
    rw [Bool.not_eq_true'] at hb'
    have em : needMsg ws = some .none := by
      unfold needMsg
      rw [if_neg (by rw [hb']; decide)]
    simp only [em, resOf] at k
    exact s_raise0 (K := K) (k.up e1) rfl
  · intro hb H1 e1
    have hb' : (!(decide ((1 : Int) ≤ (ws.length : Nat)) && decide (((ws.length : Nat) : Int) ≤ 6))) = false := hb
    rw [Bool.not_eq_false'] at hb'
    have em : needMsg ws = (firstBad nameD 0 ws).map fun i => .int (i : Nat) := by
      unfold needMsg
      rw [if_pos hb']
    walk_at "NX"
    refine s_for (K := K) (d := .tuple ws) (ds := enumD ws) (yd_enum (by walk_at "AV") (.inr rfl)) fun H2 w2 e2 dw2 => ⟨fun k σ Hc => ∃ o1 o2, σ = [some v, o1, o2] ∧ Same H Hc ∧ Dp K Hc w2 (.tuple ws) ∧ (ws.take k).all nameD = true, ?_, ?_, ?_, ?_, ?_⟩
    · rintro i σ Ha Hb sm ⟨o1, o2, rfl, q1, q2, q3⟩
      exact ⟨o1, o2, rfl, q1.trans sm, dp_same sm q2, q3⟩
    · rintro i σ Ha ⟨o1, o2, rfl, q1, q2, q3⟩
      exact q2
    · exact ⟨_, _, rfl, e1.trans e2, dw2, rfl⟩
    · rintro i e ve σ Hc he ⟨o1, o2, rfl, q1, q2, q3⟩ dve
      obtain ⟨d', hd', rfl⟩ := enumD_of he
      refine g_pair (K := K) dve fun vi vd di dd => ?_
      obtain rfl := dp_int di
      have c := spd_isName (K := K) (H := Hc) (short_of (gdn_tup hg d' (List.mem_of_getElem? hd')))
      refine s_if (K := K) (b := !nameD d') (tv_not (tv_B (ev_call (by walk_at "AV") c))) (fun hb H3 e3 => ?_) fun hb H3 e3 => ?_
      · rw [Bool.not_eq_true'] at hb
        have ef := fb_at (k := 0) q3 hd' hb
        rw [em, ef, Nat.zero_add] at k
        exact s_raise1 (K := K) (nd := .int (i : Nat)) (by walk_at "AV") (Raised.up (H := H) k (q1.trans e3)) rfl
      · rw [Bool.not_eq_false'] at hb
        exact ⟨_, _, rfl, q1.trans e3, dp_same e3 q2, all_step q3 hd' hb⟩
    · rintro σ Hc ⟨o1, o2, rfl, q1, q2, q3⟩
      rw [enumD_len, List.take_length] at q3
      rw [em, fb_none.mpr q3] at k
      exact k .non Hc q1 .non

abbrev s_need_prices : Stmt := topS 33
abbrev N_need_prices : List Str := ["thing", "number", "price"]
theorem sc_need_prices : FnScope N_need_prices ["thing"] (defScope s_need_prices) := ⟨rfl, rfl, rfl, by decide +kernel, rfl, by decide +kernel, by decide +kernel⟩
abbrev spNeedPr (K : PySem.W.Frag) (CP : Addr) : Sp := spX K (fun a : List D => [.tuple a]) (fun a => gdn 6 (.tuple a) = true) fun a => resOf CP "number" (needPr a)
theorem c_need_prices (T : Txt w K mg) (d : DefAt K mg "need_prices" s_need_prices) {CP : Addr} (x_BadPrices : XTxt P w K mg base "BadPrices" CP "number") (G_is_among : KCal P w K mg base CX0 2 "is_among" ["thing", "least", "most"] (spIsAmong K)) : KCal P w K mg base (L2.CX P w) 3 "need_prices" ["thing"] (spNeedPr K CP) := by
  refine d.cal (fun _ _ _ _ _ _ us hl => match us, hl with | [_], _ => rfl) fun f fd F => F.okX sc_need_prices (fun vs H Q E h => spx_len (fun _ => rfl) h) (fun cdv A outer s H vs Q E hr h => ?_)
  have hu := hr.units
  refine ⟨_, (pss_cons (ps_if (PW.pt (pw_or (pt_not (pt_val (pe_callB call_isi (by rfl) T.n_isinstance (by decide +kernel) (pa_cons (pv 0) (pa_cons (pe_bltn (v := .ty "tuple") rfl T.n_tuple (by decide +kernel) rfl) pa_nil))))) (pw_or1 (pt_cmpR (op_neD hu) (pe_callB call_len (by rfl) T.n_len (by decide +kernel) (pa_cons (pv 0) pa_nil)) (pgl rfl T.g_MANY_PRICES) (nomark _))))) (pss_one (ps_raise rfl (takes_of rfl rfl rfl rfl) (pmk_bad0 x_BadPrices (hr.mono (by decide)) (by rfl) ))) pss_nil)
  (pss_one (ps_for (passes_of rfl) rfl (pi_enumU (by rfl) T.n_enumerate (pa_cons (pv 0) pa_nil)) (pg_tup rfl (pgs_cons (pg_name (i := 1) sc_need_prices.nd rfl (Or.inl rfl)) (pgs_cons (pg_name (i := 2) sc_need_prices.nd rfl (Or.inl rfl)) pgs_nil)))
  (pss_one (ps_if (pt_not (pt_val (pc0 G_is_among hr (by decide) (by rfl) (pa_cons (pv 2) (pa_cons pe_int (pa_cons (pgl rfl T.g_MOST_PRICE) pa_nil)))))) (pss_one (ps_raise rfl (takes_of rfl rfl rfl rfl) (pmk_bad x_BadPrices (hr.mono (by decide)) (by rfl) (pa_cons (pv 1) pa_nil)))) pss_nil))))), ?_⟩
  obtain ⟨ws, h1, hg, k⟩ := h
  obtain ⟨v, d', rfl, e, hd⟩ := dps1 h1 rfl
  cases e
  replace k : match resOf CP "number" (needPr ws) with | .ok c => ∀ u H', Same H H' → Dp K H' u c → Q u H' | .bad C f nd => Raised K E H C f nd := k
  have hs : sizedD (.tuple ws) := trivial
  walk_at "NX"
  refine s_if (K := K) (b := !decide (ws.length = 6)) ?_ (fun hb H1 e1 => ?_) fun hb H1 e1 => ?_
  · apply tv_is
    · walk_at "TV"
    · show (false || !(((ws.length : Nat) : Int) == ((6 : Nat) : Int))) = _
      rw [nat_eqB, Bool.false_or]
  · rw [Bool.not_eq_true'] at hb
    have em : needPr ws = some .none := by
      unfold needPr
      rw [if_neg (by rw [hb]; decide)]
    simp only [em, resOf] at k
    exact s_raise0 (K := K) (k.up e1) rfl
  · rw [Bool.not_eq_false'] at hb
    have em : needPr ws = (firstBad priceB 0 ws).map fun i => .int (i : Nat) := by
      unfold needPr
      rw [if_pos hb]
    walk_at "NX"
    refine s_for (K := K) (d := .tuple ws) (ds := enumD ws) (yd_enum (by walk_at "AV") (.inr rfl)) fun H2 w2 e2 dw2 => ⟨fun k σ Hc => ∃ o1 o2, σ = [some v, o1, o2] ∧ Same H Hc ∧ Dp K Hc w2 (.tuple ws) ∧ (ws.take k).all priceB = true, ?_, ?_, ?_, ?_, ?_⟩
    · rintro i σ Ha Hb sm ⟨o1, o2, rfl, q1, q2, q3⟩
      exact ⟨o1, o2, rfl, q1.trans sm, dp_same sm q2, q3⟩
    · rintro i σ Ha ⟨o1, o2, rfl, q1, q2, q3⟩
      exact q2
    · exact ⟨_, _, rfl, e1.trans e2, dw2, rfl⟩
    · rintro i e ve σ Hc he ⟨o1, o2, rfl, q1, q2, q3⟩ dve
      obtain ⟨d', hd', rfl⟩ := enumD_of he
      refine g_pair (K := K) dve fun vi vd di dd => ?_
      obtain rfl := dp_int di
      have c : SpD K (spIsAmong K) Hc [d', .int 0, .int 9] (.bool (priceB d')) := spd_isAmong
      refine s_if (K := K) (b := !priceB d') (tv_not (tv_B (ev_call (by walk_at "AV") c))) (fun hb H3 e3 => ?_) fun hb H3 e3 => ?_
      · rw [Bool.not_eq_true'] at hb
        have ef := fb_at (k := 0) q3 hd' hb
        rw [em, ef, Nat.zero_add] at k
        exact s_raise1 (K := K) (nd := .int (i : Nat)) (by walk_at "AV") (Raised.up (H := H) k (q1.trans e3)) rfl
      · rw [Bool.not_eq_false'] at hb
        exact ⟨_, _, rfl, q1.trans e3, dp_same e3 q2, all_step q3 hd' hb⟩
    · rintro σ Hc ⟨o1, o2, rfl, q1, q2, q3⟩
      rw [enumD_len, List.take_length] at q3
      rw [em, fb_none.mpr q3] at k
      exact k .non Hc q1 .non
end
end K5
set_option Elab.async false
set_option linter.all false
set_option maxRecDepth 100000
set_option maxHeartbeats 4000000
/-! The defs that raise, but the first two. -/
namespace K5
open PySem L2 PySem.Spec PyProof.Rows
local macro_rules | `(tactic| walk_at "DP") => `(tactic| first | with_reducible assumption | with_reducible exact Dp.int _ | with_reducible exact Dp.str _ | with_reducible exact Dp.bl _ | with_reducible exact Dp.non | with_reducible exact dp_up (by assumption) (by assumption))
local macro_rules | `(tactic| walk_at "SH") => `(tactic| first | with_reducible assumption | rfl)
local macro_rules | `(tactic| walk_at "RD") => `(tactic| first | with_reducible assumption | exact rd_addI | exact rd_I0 fun _ => .int _ | exact rd_I0 fun _ => .bl _ | exact rd_ixL (by with_reducible assumption) | exact rd_ixT (by with_reducible assumption) | exact rd_ixS (by with_reducible assumption) (by with_reducible assumption) | exact rd_eqD (by walk_at "SH") (by walk_at "SH") | exact rd_neD (by walk_at "SH") (by walk_at "SH") | exact rd_inS | exact rd_notN | exact rd_isN | exact rd_addL (by with_reducible assumption) | exact rd_addT (by with_reducible assumption) | exact rd_addS (by with_reducible assumption))
local macro_rules | `(tactic| walk_at "OV") => `(tactic| first | with_reducible exact ov_no | ((with_reducible apply ov_some); walk_at "EV"))
local macro_rules | `(tactic| walk_at "AV") => `(tactic| first | with_reducible assumption | with_reducible exact av_nil | ((with_reducible apply av_cons); walk_at "EV"; walk_at "AV"))
local macro_rules | `(tactic| walk_at "RC") => `(tactic| first | with_reducible assumption | exact rc_len (by (first | with_reducible assumption | trivial)) | exact rc_tupL | exact rc_tupT | exact rc_lstL | exact rc_lstT | exact rc_all | exact rc_sum | exact rc_min2 | exact rc_min3)
local macro_rules | `(tactic| walk_at "KIT") => `(tactic| first | with_reducible exact kit_int _ | with_reducible exact kit_bool _ | with_reducible exact kit_str _ | with_reducible exact kit_tuple _)
local macro_rules | `(tactic| walk_at "EV") => `(tactic| first | with_reducible assumption | with_reducible exact ev_int | with_reducible exact ev_str | with_reducible exact ev_bl | with_reducible exact ev_non | ((with_reducible apply ev_var); exact sl_mk rfl (by walk_at "DP")) | ((with_reducible apply ev_op); walk_at "EV"; walk_at "EV"; walk_at "RD") | ((with_reducible apply ev_neg); walk_at "EV") | ((with_reducible apply ev_tup); walk_at "AV"; (first | (with_reducible assumption) | decide)) | ((with_reducible apply ev_lst); walk_at "AV"; (first | (with_reducible assumption) | decide)) | ((with_reducible apply ev_call); walk_at "AV"; with_reducible assumption) | ((with_reducible apply ev_isi2); exact rfl; walk_at "EV"; walk_at "KIT") | ((with_reducible apply ev_cb); walk_at "AV"; walk_at "RC") | ((with_reducible apply ev_chain); walk_at "EV"; walk_at "EV"; walk_at "RD"; intro _; walk_at "EV"; intro _; walk_at "RD") | ((with_reducible apply ev_andV); walk_at "EV"; intro _; walk_at "EV") | ((with_reducible apply ev_orV); walk_at "EV"; intro _; walk_at "EV") | ((with_reducible apply ev_notV); walk_at "EV") | ((with_reducible apply ev_sl2); exact rfl; walk_at "EV"; walk_at "OV"; walk_at "OV"; walk_at "SLD") | ((with_reducible apply ev_rev2); exact rfl; walk_at "EV"))
local macro_rules | `(tactic| walk_at "SLD") => `(tactic| first | with_reducible exact SlD.l | with_reducible exact SlD.t | with_reducible exact SlD.s (by with_reducible assumption))
local macro_rules | `(tactic| walk_at "TV") => `(tactic| first | with_reducible assumption | ((with_reducible apply tv_and); walk_at "TV"; intro _; walk_at "TV") | ((with_reducible apply tv_or); walk_at "TV"; intro _; walk_at "TV") | ((with_reducible apply tv_not); walk_at "TV") | ((with_reducible apply tv_B); walk_at "EV") | ((with_reducible apply tv_T); walk_at "EV"))
local macro_rules | `(tactic| walk_at "NX") => `(tactic| ((try dsimp only); (try with_reducible apply s_next); (try dsimp only); (try with_reducible apply s_seq)))

/-! ### __init__ of the three classes -/
section
variable {P : Program} {w : World} {K : PySem.W.Frag} {mg : Str → Option Value} {base : Heap} {C C0 fI : Addr} {fd : FuncData}
theorem sc_i6 : FnScope ["self", "number"] ["self", "number"] (defScope (initS 6)) := ⟨rfl, rfl, rfl, by decide +kernel, rfl, by decide +kernel, by decide +kernel⟩
theorem sc_i7 : FnScope ["self", "number"] ["self", "number"] (defScope (initS 7)) := ⟨rfl, rfl, rfl, by decide +kernel, rfl, by decide +kernel, by decide +kernel⟩
theorem sc_i9 : FnScope ["self", "place"] ["self", "place"] (defScope (initS 9)) := ⟨rfl, rfl, rfl, by decide +kernel, rfl, by decide +kernel, by decide +kernel⟩
theorem init_len {f : Str} {vs : List V} {H : Hp} {Q : VK} {E : XK} (h : spInit K C f vs H Q E) : vs.length = 2 := by
  obtain ⟨a, n, rfl, _⟩ := h
  rfl
theorem x_prices (gC : mg "BadPrices" = some (.ref C)) (R : RingTxt K mg C0) (T : OexC K C) (no : PySem.W.findIn K (.ref C) "number" = some none) (h1 : PySem.W.findIn K (.ref C) "__init__" = some (some (.ref fI))) (h2 : PySem.W.typeIn K (.ref fI) = some (.type "function"))
    (F : FunD K "__init__" "BadPrices.__init__" (defArgs (initS 6)) (defBody (initS 6)) (defScope (initS 6)) [.non] [] fI fd) : XTxt P w K mg base "BadPrices" C "number" := by
  refine ⟨gC, T, fI, fd, h1, h2, F.ok sc_i6 (fun vs H Q E h => init_len h) fun cdv A outer s H vs Q E hr h => ⟨_, pss_cons (ps_expr (pe_reinit R rfl (pa_cons (pv 0) (pa_cons pe_str pa_nil)))) (pss_one (ps_ost (pv 0) (pv 1))), ?_⟩, ?_, ?_⟩
  · obtain ⟨a, n, rfl, ha, k⟩ := h
    exact ⟨.ref a, rfl, a, C, _, rfl, by show 1 ≤ 1000; decide, T, ha, n, rfl, .ref a, rfl, a, C, rfl, T, no, .inl ⟨ha, fun dx e1 e2 => k dx e1 e2⟩⟩
  · obtain ⟨ds, v, b⟩ := F.binds1 (ps := ["self", "number"]) 2 1 (by decide) rfl fun T kV doc pm an cdv ct us its hu hi => match us, its, hu, hi with | [_, _], [_], _, _ => ⟨_, rfl, rfl⟩
    cases v
    exact b
  · exact F.binds1 (ps := ["self", "number"]) 1 0 (by decide) rfl fun T kV doc pm an cdv ct us its hu hi => match us, its, hu, hi with | [_], [_], _, _ => ⟨_, rfl, rfl⟩
theorem x_message (gC : mg "BadMessage" = some (.ref C)) (R : RingTxt K mg C0) (T : OexC K C) (no : PySem.W.findIn K (.ref C) "number" = some none) (h1 : PySem.W.findIn K (.ref C) "__init__" = some (some (.ref fI))) (h2 : PySem.W.typeIn K (.ref fI) = some (.type "function"))
    (F : FunD K "__init__" "BadMessage.__init__" (defArgs (initS 7)) (defBody (initS 7)) (defScope (initS 7)) [.non] [] fI fd) : XTxt P w K mg base "BadMessage" C "number" := by
  refine ⟨gC, T, fI, fd, h1, h2, F.ok sc_i7 (fun vs H Q E h => init_len h) fun cdv A outer s H vs Q E hr h => ⟨_, pss_cons (ps_expr (pe_reinit R rfl (pa_cons (pv 0) (pa_cons pe_str pa_nil)))) (pss_one (ps_ost (pv 0) (pv 1))), ?_⟩, ?_, ?_⟩
  · obtain ⟨a, n, rfl, ha, k⟩ := h
    exact ⟨.ref a, rfl, a, C, _, rfl, by show 1 ≤ 1000; decide, T, ha, n, rfl, .ref a, rfl, a, C, rfl, T, no, .inl ⟨ha, fun dx e1 e2 => k dx e1 e2⟩⟩
  · obtain ⟨ds, v, b⟩ := F.binds1 (ps := ["self", "number"]) 2 1 (by decide) rfl fun T kV doc pm an cdv ct us its hu hi => match us, its, hu, hi with | [_, _], [_], _, _ => ⟨_, rfl, rfl⟩
    cases v
    exact b
  · exact F.binds1 (ps := ["self", "number"]) 1 0 (by decide) rfl fun T kV doc pm an cdv ct us its hu hi => match us, its, hu, hi with | [_], [_], _, _ => ⟨_, rfl, rfl⟩
theorem x_paper (gC : mg "BadPaper" = some (.ref C)) (R : RingTxt K mg C0) (T : OexC K C) (no : PySem.W.findIn K (.ref C) "place" = some none) (h1 : PySem.W.findIn K (.ref C) "__init__" = some (some (.ref fI))) (h2 : PySem.W.typeIn K (.ref fI) = some (.type "function"))
    (F : FunD K "__init__" "BadPaper.__init__" (defArgs (initS 9)) (defBody (initS 9)) (defScope (initS 9)) [.non] [] fI fd) : XTxt P w K mg base "BadPaper" C "place" := by
  refine ⟨gC, T, fI, fd, h1, h2, F.ok sc_i9 (fun vs H Q E h => init_len h) fun cdv A outer s H vs Q E hr h => ⟨_, pss_cons (ps_expr (pe_reinit R rfl (pa_cons (pv 0) (pa_cons pe_str pa_nil)))) (pss_one (ps_ost (pv 0) (pv 1))), ?_⟩, ?_, ?_⟩
  · obtain ⟨a, n, rfl, ha, k⟩ := h
    exact ⟨.ref a, rfl, a, C, _, rfl, by show 1 ≤ 1000; decide, T, ha, n, rfl, .ref a, rfl, a, C, rfl, T, no, .inl ⟨ha, fun dx e1 e2 => k dx e1 e2⟩⟩
  · obtain ⟨ds, v, b⟩ := F.binds1 (ps := ["self", "place"]) 2 1 (by decide) rfl fun T kV doc pm an cdv ct us its hu hi => match us, its, hu, hi with | [_, _], [_], _, _ => ⟨_, rfl, rfl⟩
    cases v
    exact b
  · exact F.binds1 (ps := ["self", "place"]) 1 0 (by decide) rfl fun T kV doc pm an cdv ct us its hu hi => match us, its, hu, hi with | [_], [_], _, _ => ⟨_, rfl, rfl⟩
end
/-! ### the pair -/
inductive Bad where
  | none | prices (nd : D) | message (nd : D)
def pairBad (ps one other : List D) : Bad := match needPr ps with
  | some nd => .prices nd
  | none => match needMsg one with
    | some nd => .message nd
    | none => match needMsg other with
      | some nd => .message nd
      | none => .none
def badRes (CP CM : Addr) (c : D) : Bad → Res
  | .none => .ok c | .prices nd => .bad CP "number" nd | .message nd => .bad CM "number" nd
def intOf : D → Int
  | .int i => i | _ => 0
def strOf : D → Str
  | .str z => z | _ => Str.empty
def ppOf (ps : List D) : PP := ⟨intOf (ps.getD 0 .none), intOf (ps.getD 1 .none), intOf (ps.getD 2 .none), intOf (ps.getD 3 .none), intOf (ps.getD 4 .none), intOf (ps.getD 5 .none)⟩
def wordsOf (ws : List D) : List Str := ws.map strOf
theorem price_int {d : D} (h : priceB d = true) : d = .int (intOf d) := by
  cases d <;> first | rfl | exact nomatch h
theorem ok_prices {ps : List D} (h : needPr ps = none) : .tuple ps = (ppOf ps).d := by
  unfold needPr at h
  split at h
  · rename_i hl
    rw [decide_eq_true_eq] at hl
    have ha := fb_none.mp (Option.map_eq_none_iff.mp h)
    match ps, hl, ha with
    | [a, b, c, d, e, f], _, ha =>
      simp only [List.all_cons, List.all_nil, Bool.and_eq_true, Bool.and_true] at ha
      obtain ⟨h1, h2, h3, h4, h5, h6⟩ := ha
      show PyData.tuple [a, b, c, d, e, f] = .tuple [.int (intOf a), .int (intOf b), .int (intOf c), .int (intOf d), .int (intOf e), .int (intOf f)]
      rw [← price_int h1, ← price_int h2, ← price_int h3, ← price_int h4, ← price_int h5, ← price_int h6]
  · cases h
theorem ok_words {ws : List D} (h : needMsg ws = none) : .tuple ws = wordsD (wordsOf ws) ∧ okW (wordsOf ws) ∧ 1 ≤ (wordsOf ws).length := by
  unfold needMsg at h
  split at h
  · rename_i hl
    rw [Bool.and_eq_true, decide_eq_true_eq, decide_eq_true_eq] at hl
    have ha := List.all_eq_true.mp (fb_none.mp (Option.map_eq_none_iff.mp h))
    have hw : ws = (wordsOf ws).map .str := by
      unfold wordsOf
      rw [List.map_map]
      refine (List.map_id ws).symm.trans (List.map_congr_left fun x hx => ?_)
      have := ha x hx
      cases x <;> first | rfl | exact nomatch this
    have hlen : (wordsOf ws).length = ws.length := List.length_map _
    refine ⟨congrArg PyData.tuple hw, ⟨by omega, fun z hz => ?_⟩, by omega⟩
    obtain ⟨x, hx, rfl⟩ := List.mem_map.mp hz
    have := ha x hx
    cases x <;> first | exact this | exact nomatch this
  · cases h
theorem words_ok {ws : List Str} (h : okW ws) (h1 : 1 ≤ ws.length) : needMsg (ws.map .str) = none := by
  unfold needMsg
  have := h.1
  rw [if_pos (by rw [List.length_map, Bool.and_eq_true, decide_eq_true_eq, decide_eq_true_eq]; omega), fb_none.mpr]
  · rfl
  · rw [List.all_map]
    exact List.all_eq_true.mpr fun w hw => h.2 w hw
theorem wordsOf_map {ws : List Str} : wordsOf (ws.map .str) = ws := by
  unfold wordsOf
  rw [List.map_map]
  exact (List.map_congr_left fun _ _ => rfl).trans (List.map_id ws)
theorem pair_none {ps one other : List D} (h : pairBad ps one other = .none) : needPr ps = none ∧ needMsg one = none ∧ needMsg other = none := by
  unfold pairBad at h
  cases h1 : needPr ps with
  | some nd => rw [h1] at h; cases h
  | none =>
    rw [h1] at h
    cases h2 : needMsg one with
    | some nd => simp only [h2] at h; cases h
    | none =>
      simp only [h2] at h
      cases h3 : needMsg other with
      | some nd => rw [h3] at h; cases h
      | none => exact ⟨rfl, rfl, rfl⟩
structure A8 where
  (ps one other : List D)
def A8.ok (a : A8) : Prop := gdn 6 (.tuple a.ps) = true ∧ gdn 6 (.tuple a.one) = true ∧ gdn 6 (.tuple a.other) = true
def A8.l (a : A8) : List D := [.tuple a.ps, .tuple a.one, .tuple a.other]
section
variable {P : Program} {w : World} {K : PySem.W.Frag} {mg : Str → Option Value} {base : Heap}
abbrev s_need_pair : Stmt := topS 34
abbrev N_need_pair : List Str := ["prices", "one", "other"]
theorem sc_need_pair : FnScope N_need_pair ["prices", "one", "other"] (defScope s_need_pair) := ⟨rfl, rfl, rfl, by decide +kernel, rfl, by decide +kernel, by decide +kernel⟩
abbrev spPair (K : PySem.W.Frag) (CP CM : Addr) : Sp := spX K A8.l A8.ok fun a => badRes CP CM .none (pairBad a.ps a.one a.other)
theorem c_need_pair (T : Txt w K mg) (d : DefAt K mg "need_pair" s_need_pair) {CP CM : Addr} (G_need_message : KCal P w K mg base (L2.CX P w) 3 "need_message" ["thing"] (spNeedMsg K CM)) (G_need_prices : KCal P w K mg base (L2.CX P w) 3 "need_prices" ["thing"] (spNeedPr K CP)) :
    KCal P w K mg base (L2.CX P w) 4 "need_pair" ["prices", "one", "other"] (spPair K CP CM) := by
  refine d.cal (fun _ _ _ _ _ _ us hl => match us, hl with | [_, _, _], _ => rfl) fun f fd F => F.okX sc_need_pair (fun vs H Q E h => spx_len (fun _ => rfl) h) (fun cdv A outer s H vs Q E hr h => ?_)
  refine ⟨_, (pss_cons (ps_expr (pcX G_need_prices hr (by decide) (by rfl) (takes_of rfl rfl rfl rfl) (pa_cons (pv 0) pa_nil)))
  (pss_cons (ps_expr (pcX G_need_message hr (by decide) (by rfl) (takes_of rfl rfl rfl rfl) (pa_cons (pv 1) pa_nil)))
  (pss_one (ps_expr (pcX G_need_message hr (by decide) (by rfl) (takes_of rfl rfl rfl rfl) (pa_cons (pv 2) pa_nil)))))), ?_⟩
  obtain ⟨⟨ps, one, other⟩, h1, ⟨g1, g2, g3⟩, k⟩ := h
  obtain ⟨v0, d0, v1, d1, v2, d2, rfl, e, hd0, hd1, hd2⟩ := dps3 h1 rfl
  cases e
  replace hd0 : Dp K H v0 (.tuple ps) := hd0
  replace hd1 : Dp K H v1 (.tuple one) := hd1
  replace hd2 : Dp K H v2 (.tuple other) := hd2
  replace k : match badRes CP CM .none (pairBad ps one other) with | .ok c => ∀ u H', Same H H' → Dp K H' u c → Q u H' | .bad C f nd => Raised K E H C f nd := k
  unfold pairBad at k
  walk_at "NX"
  refine s_callX (K := K) (by walk_at "AV") ps rfl g1 (fun c hc H1 e1 => ?_) fun C f nd hb => ?_
  · cases e1p : needPr ps with
    | some nd =>
      have : resOf CP "number" (needPr ps) = .ok c := hc
      rw [e1p] at this
      cases this
    | none =>
      rw [e1p] at k
      walk_at "NX"
      refine s_callX (K := K) (by walk_at "AV") one rfl g2 (fun c hc H2 e2 => ?_) fun C f nd hb => ?_
      · cases e2p : needMsg one with
        | some nd =>
          have : resOf CM "number" (needMsg one) = .ok c := hc
          rw [e2p] at this
          cases this
        | none =>
          rw [e2p] at k
          have e12 := e1.trans e2
          try dsimp only
          refine s_callX (K := K) (by walk_at "AV") other rfl g3 (fun c hc H3 e3 => ?_) fun C f nd hb => ?_
          · cases e3p : needMsg other with
            | some nd =>
              have : resOf CM "number" (needMsg other) = .ok c := hc
              rw [e3p] at this
              cases this
            | none =>
              rw [e3p] at k
              exact k .non H3 (e12.trans e3) .non
          · cases e3p : needMsg other with
            | some nd =>
              have : resOf CM "number" (needMsg other) = .bad C f _ := hb
              rw [e3p] at this
              cases this
              rw [e3p] at k
              exact Raised.up (H := H) k e12
            | none =>
              have : resOf CM "number" (needMsg other) = .bad C f _ := hb
              rw [e3p] at this
              cases this
      · cases e2p : needMsg one with
        | some nd =>
          have : resOf CM "number" (needMsg one) = .bad C f _ := hb
          rw [e2p] at this
          cases this
          rw [e2p] at k
          exact Raised.up (H := H) k e1
        | none =>
          have : resOf CM "number" (needMsg one) = .bad C f _ := hb
          rw [e2p] at this
          cases this
  · cases e1p : needPr ps with
    | some nd =>
      have : resOf CP "number" (needPr ps) = .bad C f _ := hb
      rw [e1p] at this
      cases this
      rw [e1p] at k
      exact k
    | none =>
      have : resOf CP "number" (needPr ps) = .bad C f _ := hb
      rw [e1p] at this
      cases this

abbrev s_change_paper : Stmt := topS 42
abbrev N_change_paper : List Str := ["prices", "one", "other"]
theorem sc_change_paper : FnScope N_change_paper ["prices", "one", "other"] (defScope s_change_paper) := ⟨rfl, rfl, rfl, by decide +kernel, rfl, by decide +kernel, by decide +kernel⟩
abbrev spChange (K : PySem.W.Frag) (CP CM : Addr) : Sp := spX K A8.l A8.ok fun a => badRes CP CM (ownPaper (ppOf a.ps).p2 (ppOf a.ps).p3 (ppOf a.ps).p4 (wordsOf a.one) (wordsOf a.other)) (pairBad a.ps a.one a.other)
theorem c_change_paper (T : Txt w K mg) (d : DefAt K mg "change_paper" s_change_paper) {CP CM : Addr} (G_need_pair : KCal P w K mg base (L2.CX P w) 4 "need_pair" ["prices", "one", "other"] (spPair K CP CM))
    (G_own_steps : KCal P w K mg base CX0 2 "own_steps" ["prices", "one", "other"] (spOwn K)) (G_cost_rows : KCal P w K mg base CX0 1 "cost_rows" ["prices", "one", "other"] (spCost K)) : KCal P w K mg base (L2.CX P w) 5 "change_paper" ["prices", "one", "other"] (spChange K CP CM) := by
  refine d.cal (fun _ _ _ _ _ _ us hl => match us, hl with | [_, _, _], _ => rfl) fun f fd F => F.okX sc_change_paper (fun vs H Q E h => spx_len (fun _ => rfl) h) (fun cdv A outer s H vs Q E hr h => ?_)
  refine ⟨_, (pss_cons (ps_expr (pcX G_need_pair hr (by decide) (by rfl) (takes_of rfl rfl rfl rfl) (pa_cons (pv 0) (pa_cons (pv 1) (pa_cons (pv 2) pa_nil)))))
  (pss_one (ps_ret (pe_tup (pa_cons (pc0 G_own_steps hr (by decide) (by rfl) (pa_cons (pv 0) (pa_cons (pv 1) (pa_cons (pv 2) pa_nil)))) (pa_cons (pc0 G_cost_rows hr (by decide) (by rfl) (pa_cons (pv 0) (pa_cons (pv 1) (pa_cons (pv 2) pa_nil)))) pa_nil)))))), ?_⟩
  obtain ⟨⟨ps, one, other⟩, h1, ok, k⟩ := h
  obtain ⟨v0, d0, v1, d1, v2, d2, rfl, e, hd0, hd1, hd2⟩ := dps3 h1 rfl
  cases e
  replace hd0 : Dp K H v0 (.tuple ps) := hd0
  replace hd1 : Dp K H v1 (.tuple one) := hd1
  replace hd2 : Dp K H v2 (.tuple other) := hd2
  replace k : match badRes CP CM (ownPaper (ppOf ps).p2 (ppOf ps).p3 (ppOf ps).p4 (wordsOf one) (wordsOf other)) (pairBad ps one other) with | .ok c => ∀ u H', Same H H' → Dp K H' u c → Q u H' | .bad C f nd => Raised K E H C f nd := k
  walk_at "NX"
  refine s_callX (K := K) (ds := [.tuple ps, .tuple one, .tuple other]) (by walk_at "AV") ⟨ps, one, other⟩ rfl ok (fun c hc H1 e1 => ?_) fun C f nd hb => ?_
  · have hc : badRes CP CM .none (pairBad ps one other) = .ok c := hc
    cases hp : pairBad ps one other with
    | prices nd => rw [hp] at hc; cases hc
    | message nd => rw [hp] at hc; cases hc
    | none =>
      rw [hp] at k
      obtain ⟨n1, n2, n3⟩ := pair_none hp
      obtain ⟨w1, o1, _⟩ := ok_words n2
      obtain ⟨w2, o2, _⟩ := ok_words n3
      rw [ok_prices n1] at hd0
      rw [w1] at hd1
      rw [w2] at hd2
      have c1 : SpD K (spOwn K) H1 [(ppOf ps).d, wordsD (wordsOf one), wordsD (wordsOf other)] (ownSteps (ppOf ps).p2 (ppOf ps).p3 (ppOf ps).p4 (wordsOf one) (wordsOf other)) := spr_of (⟨ppOf ps, wordsOf one, wordsOf other⟩ : A3) ⟨o1, o2⟩
      have c2 : SpD K (spCost K) H1 [(ppOf ps).d, wordsD (wordsOf one), wordsD (wordsOf other)] (tab (C (ppOf ps).p2 (ppOf ps).p3 (ppOf ps).p4 (wordsOf one) (wordsOf other)) ((wordsOf one).length + 1) ((wordsOf other).length + 1)) := spr_of (⟨ppOf ps, wordsOf one, wordsOf other⟩ : A3) ⟨o1, o2⟩
      try dsimp only
      refine s_ret (K := K) (d := ownPaper (ppOf ps).p2 (ppOf ps).p3 (ppOf ps).p4 (wordsOf one) (wordsOf other)) (ev_tup (av_cons (ev_call (by walk_at "AV") c1) (av_cons (ev_call (by walk_at "AV") c2) av_nil)) (by show 2 ≤ 100000; decide)) fun u H2 e2 du => k u H2 (e1.trans e2) du
  · have hb : badRes CP CM .none (pairBad ps one other) = .bad C f nd := hb
    cases hp : pairBad ps one other with
    | prices nd => rw [hp] at hb k; cases hb; exact k
    | message nd => rw [hp] at hb k; cases hb; exact k
    | none => rw [hp] at hb; cases hb
end
end K5
set_option Elab.async false
set_option linter.all false
set_option maxRecDepth 100000
set_option maxHeartbeats 4000000
/-! made_by, check_change. -/
namespace K5
open PySem L2 PySem.Spec PyProof.Rows
local macro_rules | `(tactic| walk_at "DP") => `(tactic| first | with_reducible assumption | with_reducible exact Dp.int _ | with_reducible exact Dp.str _ | with_reducible exact Dp.bl _ | with_reducible exact Dp.non | with_reducible exact dp_up (by assumption) (by assumption))
local macro_rules | `(tactic| walk_at "SH") => `(tactic| first | with_reducible assumption | rfl)
local macro_rules | `(tactic| walk_at "RD") => `(tactic| first | with_reducible assumption | exact rd_addI | exact rd_I0 fun _ => .int _ | exact rd_I0 fun _ => .bl _ | exact rd_ixL (by with_reducible assumption) | exact rd_ixT (by with_reducible assumption) | exact rd_ixS (by with_reducible assumption) (by with_reducible assumption) | exact rd_eqD (by walk_at "SH") (by walk_at "SH") | exact rd_neD (by walk_at "SH") (by walk_at "SH") | exact rd_inS | exact rd_notN | exact rd_isN | exact rd_addL (by with_reducible assumption) | exact rd_addT (by with_reducible assumption) | exact rd_addS (by with_reducible assumption))
local macro_rules | `(tactic| walk_at "OV") => `(tactic| first | with_reducible exact ov_no | ((with_reducible apply ov_some); walk_at "EV"))
local macro_rules | `(tactic| walk_at "AV") => `(tactic| first | with_reducible assumption | with_reducible exact av_nil | ((with_reducible apply av_cons); walk_at "EV"; walk_at "AV"))
local macro_rules | `(tactic| walk_at "RC") => `(tactic| first | with_reducible assumption | exact rc_len (by (first | with_reducible assumption | trivial)) | exact rc_tupL | exact rc_tupT | exact rc_lstL | exact rc_lstT | exact rc_all | exact rc_sum | exact rc_min2 | exact rc_min3)
local macro_rules | `(tactic| walk_at "KIT") => `(tactic| first | with_reducible exact kit_int _ | with_reducible exact kit_bool _ | with_reducible exact kit_str _ | with_reducible exact kit_tuple _)
local macro_rules | `(tactic| walk_at "EV") => `(tactic| first | with_reducible assumption | with_reducible exact ev_int | with_reducible exact ev_str | with_reducible exact ev_bl | with_reducible exact ev_non | ((with_reducible apply ev_var); exact sl_mk rfl (by walk_at "DP")) | ((with_reducible apply ev_op); walk_at "EV"; walk_at "EV"; walk_at "RD") | ((with_reducible apply ev_neg); walk_at "EV") | ((with_reducible apply ev_tup); walk_at "AV"; (first | (with_reducible assumption) | decide)) | ((with_reducible apply ev_lst); walk_at "AV"; (first | (with_reducible assumption) | decide)) | ((with_reducible apply ev_call); walk_at "AV"; with_reducible assumption) | ((with_reducible apply ev_isi2); exact rfl; walk_at "EV"; walk_at "KIT") | ((with_reducible apply ev_cb); walk_at "AV"; walk_at "RC") | ((with_reducible apply ev_chain); walk_at "EV"; walk_at "EV"; walk_at "RD"; intro _; walk_at "EV"; intro _; walk_at "RD") | ((with_reducible apply ev_andV); walk_at "EV"; intro _; walk_at "EV") | ((with_reducible apply ev_orV); walk_at "EV"; intro _; walk_at "EV") | ((with_reducible apply ev_notV); walk_at "EV") | ((with_reducible apply ev_sl2); exact rfl; walk_at "EV"; walk_at "OV"; walk_at "OV"; walk_at "SLD") | ((with_reducible apply ev_rev2); exact rfl; walk_at "EV"))
local macro_rules | `(tactic| walk_at "SLD") => `(tactic| first | with_reducible exact SlD.l | with_reducible exact SlD.t | with_reducible exact SlD.s (by with_reducible assumption))
local macro_rules | `(tactic| walk_at "TV") => `(tactic| first | with_reducible assumption | ((with_reducible apply tv_and); walk_at "TV"; intro _; walk_at "TV") | ((with_reducible apply tv_or); walk_at "TV"; intro _; walk_at "TV") | ((with_reducible apply tv_not); walk_at "TV") | ((with_reducible apply tv_B); walk_at "EV") | ((with_reducible apply tv_T); walk_at "EV"))
local macro_rules | `(tactic| walk_at "NX") => `(tactic| ((try dsimp only); (try with_reducible apply s_next); (try dsimp only); (try with_reducible apply s_seq)))

theorem ev_kd {K K1 : PySem.W.Frag} {w : World} {s : L2.St} {H : Hp} {te : TE} {p : Addr} {z : Str} {i : Int} (h : KDct K w p z (.int i)) (ht : Ev K te s H (.str z)) (hk : K1 = K) : Ev K (tOp (rIxD K1 w) (tC (.ref p)) te) s H (.int i) := fun H1 k Q q => by
  subst hk
  exact ht H1 k _ fun v H2 k2 dv => ⟨p, z, .int i, rfl, dp_str dv, h, q _ H2 k2 (.int _)⟩
theorem go_can {p2 p3 p4 : Int} {one : List Str} {i : Nat} {ws : List Str} {cost : Int} {st : Step} (h : canGo one i st = false) : go p2 p3 p4 one (i, ws, cost) st = none := by
  cases st with
  | kept =>
    have h : decide ((i : Int) < (one.length : Nat)) = false := h
    rw [decide_eq_false_iff_not] at h
    show (if i < one.length then _ else _) = _
    rw [if_neg (by omega)]
  | left =>
    have h : decide ((i : Int) < (one.length : Nat)) = false := h
    rw [decide_eq_false_iff_not] at h
    show (if i < one.length then _ else _) = _
    rw [if_neg (by omega)]
  | put y => exact nomatch h
  | other y =>
    have h : (decide ((i : Int) < (one.length : Nat)) && !(y == wd one i)) = false := h
    show (if i < one.length ∧ y ≠ wd one i then _ else _) = _
    rw [if_neg fun ⟨z1, z2⟩ => by rw [decide_eq_true (by omega), beq_eq_false_iff_ne.mpr z2] at h; cases h]
theorem goD_some {p2 p3 p4 : Int} {one : List Str} {s : Nat × List Str × Int} {st : Step} (h : stepOk st) : goD p2 p3 p4 one s (stepD st) = go p2 p3 p4 one s st := by
  unfold goD
  rw [decS_step fun w hw => by rcases hw with rfl | rfl <;> exact h]
  rfl
theorem goD_none {p2 p3 p4 : Int} {one : List Str} {s : Nat × List Str × Int} {e : D} (h : decS e = none) : goD p2 p3 p4 one s e = none := by
  unfold goD
  rw [h]
  rfl
theorem go_le {p2 p3 p4 : Int} {one : List Str} {s s' : Nat × List Str × Int} {e : D} (h : goD p2 p3 p4 one s e = some s') (hs : s.1 ≤ one.length) : s'.1 ≤ one.length := by
  unfold goD at h
  cases hd : decS e with
  | none => rw [hd] at h; cases h
  | some st =>
    rw [hd] at h
    have h : go p2 p3 p4 one s st = some s' := h
    cases st with
    | kept =>
      have h : (if s.1 < one.length then some (s.1 + 1, s.2.1 ++ [wd one s.1], s.2.2) else none) = some s' := h
      split at h
      · cases h; assumption
      · cases h
    | left =>
      have h : (if s.1 < one.length then some (s.1 + 1, s.2.1, s.2.2 + p2) else none) = some s' := h
      split at h
      · cases h; assumption
      · cases h
    | put y =>
      have h : some (s.1, s.2.1 ++ [y], s.2.2 + p3) = some s' := h
      cases h
      exact hs
    | other y =>
      have h : (if s.1 < one.length ∧ y ≠ wd one s.1 then some (s.1 + 1, s.2.1 ++ [y], s.2.2 + p4) else none) = some s' := h
      split at h
      · rename_i hc
        cases h
        exact hc.1
      · cases h
theorem run_le {p2 p3 p4 : Int} {one : List Str} : ∀ {ds : List D} {s s' : Nat × List Str × Int}, runD p2 p3 p4 one s ds = some s' → s.1 ≤ one.length → s'.1 ≤ one.length
  | [], s, s', h, hs => by
    cases h
    exact hs
  | d :: ds, s, s', h, hs => by
    have h : (goD p2 p3 p4 one s d).bind (fun s' => runD p2 p3 p4 one s' ds) = some s' := h
    cases hg : goD p2 p3 p4 one s d with
    | none => rw [hg] at h; cases h
    | some s1 =>
      rw [hg] at h
      exact run_le (ds := ds) h (go_le hg hs)
/-- any exception of the class at C -/
def RaisedAny (E : XK) (H : Hp) (C : Addr) : Prop := ∀ d H', Same H H' → E (.ref C) (some d) H'
theorem RaisedAny.to {K : PySem.W.Frag} {E : XK} {H H1 : Hp} {C : Addr} {f : Str} {nd : D} (h : RaisedAny E H C) (e : Same H H1) : Raised K E H1 C f nd := fun d v H' e' _ _ _ => h d H' (e.trans e')
section
variable {P : Program} {w : World} {K : PySem.W.Frag} {mg : Str → Option Value} {base : Heap}
theorem spd_isStep {H : Hp} {d : D} (h : gdn 6 d = true) : SpD K (spIsStep K) H [d] (.bool (decS d).isSome) := spr_of d h
abbrev s_made_by : Stmt := topS 40
abbrev N_made_by : List Str := ["prices", "one", "steps", "at", "found", "cost", "number", "step"]
theorem sc_made_by : FnScope N_made_by ["prices", "one", "steps"] (defScope s_made_by) := ⟨rfl, rfl, rfl, by decide +kernel, rfl, by decide +kernel, by decide +kernel⟩
structure A9 where
  (p : PP) (one : List Str) (d : D)
def A9.ok (a : A9) : Prop := needPr [.int a.p.p0, .int a.p.p1, .int a.p.p2, .int a.p.p3, .int a.p.p4, .int a.p.p5] = none ∧ okW a.one ∧ 1 ≤ a.one.length ∧ gdn 6 a.d = true ∧ okS a.d
def spMade (K : PySem.W.Frag) (CB : Addr) : Sp := fun vs H Q E => ∃ a : A9, DpAll K H vs [a.p.d, wordsD a.one, a.d] ∧ a.ok ∧
  match made a.p.p2 a.p.p3 a.p.p4 a.one a.d with
  | some (ws, c) => ∀ u H', Same H H' → Dp K H' u (.tuple [.tuple (ws.map .str), .int c]) → Q u H'
  | none => RaisedAny E H CB
theorem c_made_by (T : Txt w K mg) (d : DefAt K mg "made_by" s_made_by) {CP CM CB : Addr} (x_BadPaper : XTxt P w K mg base "BadPaper" CB "place") (G_need_message : KCal P w K mg base (L2.CX P w) 3 "need_message" ["thing"] (spNeedMsg K CM)) (G_need_prices : KCal P w K mg base (L2.CX P w) 3 "need_prices" ["thing"] (spNeedPr K CP))
    (G_is_step : KCal P w K mg base CX0 2 "is_step" ["thing"] (spIsStep K)) (G_can_go : KCal P w K mg base CX0 1 "can_go" ["one", "at", "step"] (spCanGo K)) : KCal P w K mg base (L2.CX P w) 4 "made_by" ["prices", "one", "steps"] (spMade K CB) := by
  obtain ⟨pP, hP, kd2, kd3, kd4⟩ := T.g_PRICED
  refine d.cal (fun _ _ _ _ _ _ us hl => match us, hl with | [_, _, _], _ => rfl) fun f fd F => F.okX sc_made_by (fun vs H Q E h => ?_) (fun cdv A outer s H vs Q E hr h => ?_)
  · obtain ⟨a, h1, _⟩ := h
    exact dps_len h1
  have hu := hr.units
  refine ⟨_, (pss_cons (ps_expr (pcX G_need_prices hr (by decide) (by rfl) (takes_of rfl rfl rfl rfl) (pa_cons (pv 0) pa_nil)))
  (pss_cons (ps_expr (pcX G_need_message hr (by decide) (by rfl) (takes_of rfl rfl rfl rfl) (pa_cons (pv 1) pa_nil)))
  (pss_cons (ps_if (PW.pt (pw_or (pt_not (pt_val (pe_callB call_isi (by rfl) T.n_isinstance (by decide +kernel) (pa_cons (pv 2) (pa_cons (pe_bltn (v := .ty "tuple") rfl T.n_tuple (by decide +kernel) rfl) pa_nil))))) (pw_or1 (pt_cmpR op_gt (pe_callB call_len (by rfl) T.n_len (by decide +kernel) (pa_cons (pv 2) pa_nil)) (pgl rfl T.g_MOST_STEPS) (nomark _))))) (pss_one (ps_raise rfl (takes_of rfl rfl rfl rfl) (pmk_bad0 x_BadPaper (hr.mono (by decide)) (by rfl) ))) pss_nil)
  (pss_cons (ps_par3 (i := 3) (j := 4) (l := 5) rfl sc_made_by.nd rfl rfl rfl (by decide) (by decide) (by decide) rfl rfl rfl (pa_cons pe_int (pa_cons (pe_lst pa_nil) (pa_cons pe_int pa_nil))) (by rfl))
  (pss_cons (ps_for (passes_of rfl) rfl (pi_enumU (by rfl) T.n_enumerate (pa_cons (pv 2) pa_nil)) (pg_tup rfl (pgs_cons (pg_name (i := 6) sc_made_by.nd rfl (Or.inl rfl)) (pgs_cons (pg_name (i := 7) sc_made_by.nd rfl (Or.inl rfl)) pgs_nil)))
  (pss_cons (ps_if (PW.pt (pw_or (pt_not (pt_val (pc0 G_is_step hr (by decide) (by rfl) (pa_cons (pv 7) pa_nil)))) (pw_or1 (pt_not (pt_val (pc0 G_can_go hr (by decide) (by rfl) (pa_cons (pv 1) (pa_cons (pv 3) (pa_cons (pv 7) pa_nil))))))))) (pss_one (ps_raise rfl (takes_of rfl rfl rfl rfl) (pmk_bad x_BadPaper (hr.mono (by decide)) (by rfl) (pa_cons (pv 6) pa_nil)))) pss_nil)
  (pss_cons (ps_if (pt_cmpR (op_neD hu) (pe_ix ix_seq (pv 7) pe_int (fun _ _ => rfl)) pe_str (nomark _)) (pss_one (ps_expr (pe_bm PySem.F.plainAttrs_list PySem.F.slot_list_append PySem.F.type_list_append mt_append (pv 4) (pa_cons (pe_ifExp (pt_cmpR (op_eqD hu) (pe_ix ix_seq (pv 7) pe_int (fun _ _ => rfl)) pe_str (nomark _)) (pe_ix ix_seq (pv 1) (pv 3) (fun _ _ => rfl)) (pe_ix ix_seq (pv 7) pe_int (fun _ _ => rfl))) pa_nil)))) pss_nil)
  (pss_cons (ps_aug (i := 5) sc_made_by.nd rfl (Or.inl rfl) (pe_ifExp (pt_cmpR (op_eqD hu) (pe_ix ix_seq (pv 7) pe_int (fun _ _ => rfl)) pe_str (nomark _)) pe_int (pe_ix ix_seq (pv 0) (pe_ix ix_kdict (pgl (v := .ref pP) rfl ⟨_, hP, rfl⟩) (pe_ix ix_seq (pv 7) pe_int (fun _ _ => rfl)) (fun _ _ => rfl)) (fun _ _ => rfl))) ip_add)
  (pss_one (ps_aug (i := 3) sc_made_by.nd rfl (Or.inl rfl) (pe_ifExp (pt_cmpR (op_eqD hu) (pe_ix ix_seq (pv 7) pe_int (fun _ _ => rfl)) pe_str (nomark _)) pe_int pe_int) ip_add))))))
  (pss_cons (ps_if (pt_cmpR op_lt (pv 3) (pe_callB call_len (by rfl) T.n_len (by decide +kernel) (pa_cons (pv 1) pa_nil)) (nomark _)) (pss_one (ps_raise rfl (takes_of rfl rfl rfl rfl) (pmk_bad x_BadPaper (hr.mono (by decide)) (by rfl) (pa_cons (pe_callB call_len (by rfl) T.n_len (by decide +kernel) (pa_cons (pv 2) pa_nil)) pa_nil)))) pss_nil)
  (pss_one (ps_ret (pe_tup (pa_cons (pe_callTy call_tuple_of (by rfl) T.n_tuple (by decide +kernel) (pa_cons (pv 4) pa_nil)) (pa_cons (pv 5) pa_nil))))))))))), ?_⟩
  obtain ⟨⟨⟨p0, p1, p2, p3, p4, p5⟩, one, d⟩, h1, ⟨okp, ok1, one1, hg, hS⟩, k⟩ := h
  replace hS : okS d := hS
  obtain ⟨v0, d0, v1, d1, v2, d2, rfl, e, hd0, hd1, hd2⟩ := dps3 h1 rfl
  cases e
  replace hg : gdn 6 d = true := hg
  replace ok1 : okW one := ok1
  replace one1 : 1 ≤ one.length := one1
  replace okp : needPr [.int p0, .int p1, .int p2, .int p3, .int p4, .int p5] = none := okp
  replace hd0 : Dp K H v0 (.tuple [.int p0, .int p1, .int p2, .int p3, .int p4, .int p5]) := hd0
  replace hd1 : Dp K H v1 (.tuple (one.map .str)) := hd1
  replace hd2 : Dp K H v2 d := hd2
  replace k : match made p2 p3 p4 one d with | some (ws, c) => ∀ u H', Same H H' → Dp K H' u (.tuple [.tuple (ws.map .str), .int c]) → Q u H' | none => RaisedAny E H CB := k
  have no : made p2 p3 p4 one d = none → RaisedAny E H CB := fun hm => by
    rw [hm] at k
    exact k
  have c2 : atI [PyData.int p0, .int p1, .int p2, .int p3, .int p4, .int p5] 2 = some (.int p2) := rfl
  have c3 : atI [PyData.int p0, .int p1, .int p2, .int p3, .int p4, .int p5] 3 = some (.int p3) := rfl
  have c4 : atI [PyData.int p0, .int p1, .int p2, .int p3, .int p4, .int p5] 4 = some (.int p4) := rfl
  have hs1 : sizedD (.tuple (one.map PyData.str)) := trivial
  have el1 : lenD (.tuple (one.map PyData.str)) = one.length := List.length_map _
  have t1 := sh_kept
  have t2 := sh_left
  have t3 := sh_put
  have t4 := sh_other
  have okm := words_ok ok1 one1
  have gw : gdn 6 (.tuple (one.map .str)) = true := gdn_mono (n := 1) (List.all_eq_true.mpr fun x hx => by
    obtain ⟨y, hy, rfl⟩ := List.mem_map.mp hx
    obtain ⟨a1, a2, _⟩ := name_shape (ok1.2 y hy)
    have a3 := SeqAt.canLay_of_shaped a1
    show (y.cps.all (· < 0x110000) && decide (y.length ≤ 1000)) = true
    rw [Bool.and_eq_true]
    exact ⟨by simpa [PyData.canLay0, PyData.strOk] using a3, decide_eq_true (by omega)⟩) (by decide)
  walk_at "NX"
  refine s_callX (K := K) (ds := [.tuple [.int p0, .int p1, .int p2, .int p3, .int p4, .int p5]]) (by walk_at "AV") [.int p0, .int p1, .int p2, .int p3, .int p4, .int p5] rfl rfl (fun c hc H1 e1 => ?_) fun C f nd hb => ?_
  rotate_left
  · have hb : resOf CP "number" (needPr [.int p0, .int p1, .int p2, .int p3, .int p4, .int p5]) = .bad C f nd := hb
    rw [okp] at hb
    cases hb
  walk_at "NX"
  refine s_callX (K := K) (ds := [.tuple (one.map .str)]) (by walk_at "AV") (one.map .str) rfl gw (fun c hc H2 e2 => ?_) fun C f nd hb => ?_
  rotate_left
  · have hb : resOf CM "number" (needMsg (one.map .str)) = .bad C f nd := hb
    rw [okm] at hb
    cases hb
  have s2 := e1.trans e2
  walk_at "NX"
  cases d with
  | tuple ss =>
    have hs : sizedD (.tuple ss) := trivial
    have nss : noL (.tuple ss) = true := hS ss rfl
    refine s_if (K := K) (b := decide ((12 : Int) < ((ss.length : Nat) : Int))) ?_ (fun hb H3 e3 => ?_) fun hb H3 e3 => ?_
    · apply tv_is
      · walk_at "TV"
      · rfl
    · rw [decide_eq_true_eq] at hb
      exact s_raise0 (K := K) ((no (made_long (by omega))).to (s2.trans e3)) rfl
    · rw [decide_eq_false_iff_not] at hb
      have hss : ss.length ≤ 12 := by omega
      have s3 := s2.trans e3
      walk_at "NX"
      refine s_par3M (K := K) (c := .int 0) (e := .int 0) (ds := []) ev_int av_nil ev_int (by show 0 ≤ 100000; decide) fun va vc l xs H4 hl e4 da dc el dxs => ?_
      obtain rfl := dp_int da
      obtain rfl := dp_int dc
      have s4 := s3.trans e4
      have hl0 : H l = none := none_of s3 hl
      walk_at "NX"
      refine s_for (K := K) (d := .tuple ss) (ds := enumD ss) (yd_enum (by walk_at "AV") (.inr rfl)) fun H5 w5 e5 dw5 => ⟨fun k σ Hc => ∃ (i : Nat) (ws : List Str) (cost : Int) (o6 o7 : Option V), σ = [some v0, some v1, some v2, some (.int (i : Nat)), some (.ref l), some (.int cost), o6, o7] ∧ Same H Hc ∧ Dp K Hc w5 (.tuple ss) ∧
          (∃ xs, Hc l = some (.lst xs) ∧ DpAll K Hc xs (ws.map .str)) ∧ ws.length ≤ k ∧ k ≤ ss.length ∧ runD p2 p3 p4 one (0, [], 0) (ss.take k) = some (i, ws, cost), ?_, ?_, ?_, ?_, ?_⟩
      · rintro k σ Ha Hb sm ⟨i, ws, cost, o6, o7, rfl, q1, q2, ⟨xs, q3, q4⟩, q5, q6, q7⟩
        exact ⟨i, ws, cost, o6, o7, rfl, q1.trans sm, dp_same sm q2, ⟨xs, sm _ _ q3, dps_same sm q4⟩, q5, q6, q7⟩
      · rintro k σ Ha ⟨i, ws, cost, o6, o7, rfl, q1, q2, _⟩
        exact q2
      · exact ⟨0, [], 0, _, _, rfl, s4.trans e5, dw5, ⟨xs, e5 _ _ el, dps_same e5 dxs⟩, Nat.le_refl _, Nat.zero_le _, rfl⟩
      · rintro k e ve σ Hc he ⟨i, ws, cost, o6, o7, rfl, q1, q2, ⟨xs, q3, q4⟩, q5, q6, q7⟩ dve
        obtain ⟨st, hst, rfl⟩ := enumD_of he
        have hk : k < ss.length := (List.getElem?_eq_some_iff.mp hst).1
        have ge := gdn_tup hg st (List.mem_of_getElem? hst)
        refine g_pair (K := K) dve fun vn vs' dn ds' => ?_
        obtain rfl := dp_int dn
        have dw2 : Dp K Hc w5 (.tuple ss) := q2
        have cs := spd_isStep (K := K) (H := Hc) ge
        walk_at "NX"
        cases hdec : decS st with
        | none =>
          rw [hdec] at cs
          apply s_if (K := K)
          · with_reducible apply tv_or (b := false)
            · exact tv_not (tv_B (ev_call (by walk_at "AV") cs))
            · intro z
              exact nomatch z
          · intro hb H6 e6
            exact s_raise1 (K := K) (nd := .int (k : Nat)) (by walk_at "AV") ((no (by rw [made_short hss, run_fail q7 hst (goD_none hdec)]; rfl)).to (q1.trans e6)) rfl
          · intro z
            exact nomatch z
        | some stp =>
          rw [hdec] at cs
          have es := decS_some hdec
          have oks := decS_name hdec
          subst es
          have cg : SpD K (spCanGo K) Hc [wordsD one, .int (i : Nat), stepD stp] (.bool (canGo one i stp)) := spr_of (one, i, stp) ⟨ok1, oks⟩
          have hdw : Dp K Hc v1 (wordsD one) := dp_same q1 hd1
          have lt := dps_len q4
          rw [List.length_map] at lt
          refine s_if (K := K) (b := !canGo one i stp) ?_ (fun hb H6 e6 => ?_) fun hb H6 e6 => ?_
          · apply tv_is
            · with_reducible apply tv_or
              · exact tv_not (tv_B (ev_call (by walk_at "AV") cs))
              · intro _
                exact tv_not (tv_B (ev_call (av_cons (ev_var ⟨_, rfl, hdw⟩) (by walk_at "AV")) cg))
            · rfl
          · rw [Bool.not_eq_true'] at hb
            exact s_raise1 (K := K) (nd := .int (k : Nat)) (by walk_at "AV") ((no (by rw [made_short hss, run_fail q7 hst (by rw [goD_some oks]; exact go_can hb)]; rfl)).to (q1.trans e6)) rfl
          · rw [Bool.not_eq_false'] at hb
            have q16 := q1.trans e6
            have l6 : H6 l = some (.lst xs) := e6 _ _ q3
            cases stp with
            | kept =>
              have hi : i < one.length := by
                have hb : decide ((i : Int) < (one.length : Nat)) = true := hb
                rw [decide_eq_true_eq] at hb
                omega
              have hgo : goD p2 p3 p4 one (i, ws, cost) (stepD .kept) = some (i + 1, ws ++ [wd one i], cost) := by
                rw [goD_some oks]
                show (if i < one.length then _ else _) = _
                rw [if_pos hi]
              replace ds' : Dp K Hc vs' (.tuple [PyData.str "kept"]) := ds'
              have i0 : atI [PyData.str "kept"] 0 = some (.str "kept") := rfl
              have i2 := atI_words (ws := one) (j := (i : Int)) (i := i) rfl hi
              walk_at "NX"
              refine s_if (K := K) (b := true) (tv_is (by walk_at "TV") (by decide +kernel)) (fun _ H7 e7 => ?_) fun z => nomatch z
              have q17 := q16.trans e7
              have e67 := e6.trans e7
              refine s_appendR (K := K) (i := 4) (l := l) (xs := xs) (d := .str (wd one i)) rfl (e7 _ _ l6) (by omega) (ev_if (b := true) (tv_is (by walk_at "TV") (by decide +kernel)) (fun z => by walk_at "EV") fun z => nomatch z) (fun vm H8 e8 dvm => ?_) rfl
              have e68 := e67.trans e8
              have l8 : H8 l = some (.lst xs) := e68 _ _ q3
              have sz : Same H (upd H8 l (.lst (xs ++ [vm]))) := Same.mut (q17.trans e8) hl0
              have wz : Dp K (upd H8 l (.lst (xs ++ [vm]))) w5 (.tuple ss) := dp_mutL l8 nss (dp_same e68 q2)
              have xz : DpAll K (upd H8 l (.lst (xs ++ [vm]))) (xs ++ [vm]) ((ws ++ [wd one i]).map .str) := by
                refine dps_mutL l8 noL_words ?_
                rw [List.map_append]
                exact dps_app (dps_same e68 q4) (.cons dvm .nil)
              have dz := dp_mutL (o := .lst (xs ++ [vm])) l8 (show noL (.tuple [PyData.str "kept"]) = true from rfl) (dp_same e68 ds')
              walk_at "NX"
              refine s_augI (K := K) (a := cost) (b := 0) rfl (ev_if (b := true) (tv_is (by walk_at "TV") (by decide +kernel)) (fun z => ev_int) fun z => nomatch z) fun H9 e9 => ?_
              have sz9 := sz.trans e9
              try dsimp only
              refine s_augI (K := K) (a := (i : Int)) (b := 1) rfl (ev_if (b := false) (tv_is (by walk_at "TV") (by decide +kernel)) (fun z => nomatch z) fun z => ev_int) fun H10 e10 => ?_
              have ei : (i : Int) + 1 = ((i + 1 : Nat) : Int) := by omega
              have ec : cost + (0 : Int) = cost := by omega
              rw [ei, ec]
              exact ⟨i + 1, ws ++ [wd one i], cost, _, _, rfl, sz9.trans e10, dp_same (e9.trans e10) wz, ⟨xs ++ [vm], e10 _ _ (e9 _ _ upd_same), dps_same (e9.trans e10) xz⟩, by rw [List.length_append, List.length_singleton]; omega, hk, (run_step q7 hst).trans hgo⟩
            | left =>
              have hi : i < one.length := by
                have hb : decide ((i : Int) < (one.length : Nat)) = true := hb
                rw [decide_eq_true_eq] at hb
                omega
              have hgo : goD p2 p3 p4 one (i, ws, cost) (stepD .left) = some (i + 1, ws, cost + p2) := by
                rw [goD_some oks]
                show (if i < one.length then _ else _) = _
                rw [if_pos hi]
              replace ds' : Dp K Hc vs' (.tuple [PyData.str "left"]) := ds'
              have i0 : atI [PyData.str "left"] 0 = some (.str "left") := rfl
              walk_at "NX"
              refine s_if (K := K) (b := false) (tv_is (by walk_at "TV") (by decide +kernel)) (fun z => nomatch z) fun _ H7 e7 => ?_
              have sz := q16.trans e7
              have e67 := e6.trans e7
              have wz := dp_same e67 q2
              have dz := dp_same e67 ds'
              walk_at "NX"
              refine s_augI (K := K) (a := cost) (b := p2) rfl (ev_if (b := false) (tv_is (by walk_at "TV") (by decide +kernel)) (fun z => nomatch z) fun z => ev_op (by walk_at "EV") (ev_kd kd2 (by walk_at "EV") rfl) (by walk_at "RD")) fun H9 e9 => ?_
              have sz9 := sz.trans e9
              try dsimp only
              refine s_augI (K := K) (a := (i : Int)) (b := 1) rfl (ev_if (b := false) (tv_is (by walk_at "TV") (by decide +kernel)) (fun z => nomatch z) fun z => ev_int) fun H10 e10 => ?_
              have ei : (i : Int) + 1 = ((i + 1 : Nat) : Int) := by omega
              rw [ei]
              exact ⟨i + 1, ws, cost + p2, _, _, rfl, sz9.trans e10, dp_same (e9.trans e10) wz, ⟨xs, e10 _ _ (e9 _ _ (e67 _ _ q3)), dps_same (e67.trans (e9.trans e10)) q4⟩, by omega, hk, (run_step q7 hst).trans hgo⟩
            | put y =>
              have hgo : goD p2 p3 p4 one (i, ws, cost) (stepD (.put y)) = some (i, ws ++ [y], cost + p3) := by
                rw [goD_some oks]
                rfl
              replace ds' : Dp K Hc vs' (.tuple [PyData.str "put", .str y]) := ds'
              have i0 : atI [PyData.str "put", .str y] 0 = some (.str "put") := rfl
              have i1 : atI [PyData.str "put", .str y] 1 = some (.str y) := rfl
              walk_at "NX"
              refine s_if (K := K) (b := true) (tv_is (by walk_at "TV") (by decide +kernel)) (fun _ H7 e7 => ?_) fun z => nomatch z
              have q17 := q16.trans e7
              have e67 := e6.trans e7
              refine s_appendR (K := K) (i := 4) (l := l) (xs := xs) (d := .str (y)) rfl (e7 _ _ l6) (by omega) (ev_if (b := false) (tv_is (by walk_at "TV") (by decide +kernel)) (fun z => nomatch z) fun z => by walk_at "EV") (fun vm H8 e8 dvm => ?_) rfl
              have e68 := e67.trans e8
              have l8 : H8 l = some (.lst xs) := e68 _ _ q3
              have sz : Same H (upd H8 l (.lst (xs ++ [vm]))) := Same.mut (q17.trans e8) hl0
              have wz : Dp K (upd H8 l (.lst (xs ++ [vm]))) w5 (.tuple ss) := dp_mutL l8 nss (dp_same e68 q2)
              have xz : DpAll K (upd H8 l (.lst (xs ++ [vm]))) (xs ++ [vm]) ((ws ++ [y]).map .str) := by
                refine dps_mutL l8 noL_words ?_
                rw [List.map_append]
                exact dps_app (dps_same e68 q4) (.cons dvm .nil)
              have dz := dp_mutL (o := .lst (xs ++ [vm])) l8 (show noL (.tuple [PyData.str "put", .str y]) = true from rfl) (dp_same e68 ds')
              walk_at "NX"
              refine s_augI (K := K) (a := cost) (b := p3) rfl (ev_if (b := false) (tv_is (by walk_at "TV") (by decide +kernel)) (fun z => nomatch z) fun z => ev_op (by walk_at "EV") (ev_kd kd3 (by walk_at "EV") rfl) (by walk_at "RD")) fun H9 e9 => ?_
              have sz9 := sz.trans e9
              try dsimp only
              refine s_augI (K := K) (a := (i : Int)) (b := 0) rfl (ev_if (b := true) (tv_is (by walk_at "TV") (by decide +kernel)) (fun z => ev_int) fun z => nomatch z) fun H10 e10 => ?_
              have ei : (i : Int) + 0 = ((i : Nat) : Int) := by omega
              rw [ei]
              exact ⟨i, ws ++ [y], cost + p3, _, _, rfl, sz9.trans e10, dp_same (e9.trans e10) wz, ⟨xs ++ [vm], e10 _ _ (e9 _ _ upd_same), dps_same (e9.trans e10) xz⟩, by rw [List.length_append, List.length_singleton]; omega, hk, (run_step q7 hst).trans hgo⟩
            | other y =>
              have hb : (decide ((i : Int) < (one.length : Nat)) && !(y == wd one i)) = true := hb
              rw [Bool.and_eq_true, decide_eq_true_eq, Bool.not_eq_true'] at hb
              have hi : i < one.length := by omega
              have hgo : goD p2 p3 p4 one (i, ws, cost) (stepD (.other y)) = some (i + 1, ws ++ [y], cost + p4) := by
                rw [goD_some oks]
                show (if i < one.length ∧ y ≠ wd one i then _ else _) = _
                rw [if_pos ⟨hi, fun z => by rw [z] at hb; simp at hb⟩]
              replace ds' : Dp K Hc vs' (.tuple [PyData.str "other", .str y]) := ds'
              have i0 : atI [PyData.str "other", .str y] 0 = some (.str "other") := rfl
              have i1 : atI [PyData.str "other", .str y] 1 = some (.str y) := rfl
              walk_at "NX"
              refine s_if (K := K) (b := true) (tv_is (by walk_at "TV") (by decide +kernel)) (fun _ H7 e7 => ?_) fun z => nomatch z
              have q17 := q16.trans e7
              have e67 := e6.trans e7
              refine s_appendR (K := K) (i := 4) (l := l) (xs := xs) (d := .str (y)) rfl (e7 _ _ l6) (by omega) (ev_if (b := false) (tv_is (by walk_at "TV") (by decide +kernel)) (fun z => nomatch z) fun z => by walk_at "EV") (fun vm H8 e8 dvm => ?_) rfl
              have e68 := e67.trans e8
              have l8 : H8 l = some (.lst xs) := e68 _ _ q3
              have sz : Same H (upd H8 l (.lst (xs ++ [vm]))) := Same.mut (q17.trans e8) hl0
              have wz : Dp K (upd H8 l (.lst (xs ++ [vm]))) w5 (.tuple ss) := dp_mutL l8 nss (dp_same e68 q2)
              have xz : DpAll K (upd H8 l (.lst (xs ++ [vm]))) (xs ++ [vm]) ((ws ++ [y]).map .str) := by
                refine dps_mutL l8 noL_words ?_
                rw [List.map_append]
                exact dps_app (dps_same e68 q4) (.cons dvm .nil)
              have dz := dp_mutL (o := .lst (xs ++ [vm])) l8 (show noL (.tuple [PyData.str "other", .str y]) = true from rfl) (dp_same e68 ds')
              walk_at "NX"
              refine s_augI (K := K) (a := cost) (b := p4) rfl (ev_if (b := false) (tv_is (by walk_at "TV") (by decide +kernel)) (fun z => nomatch z) fun z => ev_op (by walk_at "EV") (ev_kd kd4 (by walk_at "EV") rfl) (by walk_at "RD")) fun H9 e9 => ?_
              have sz9 := sz.trans e9
              try dsimp only
              refine s_augI (K := K) (a := (i : Int)) (b := 1) rfl (ev_if (b := false) (tv_is (by walk_at "TV") (by decide +kernel)) (fun z => nomatch z) fun z => ev_int) fun H10 e10 => ?_
              have ei : (i : Int) + 1 = ((i + 1 : Nat) : Int) := by omega
              rw [ei]
              exact ⟨i + 1, ws ++ [y], cost + p4, _, _, rfl, sz9.trans e10, dp_same (e9.trans e10) wz, ⟨xs ++ [vm], e10 _ _ (e9 _ _ upd_same), dps_same (e9.trans e10) xz⟩, by rw [List.length_append, List.length_singleton]; omega, hk, (run_step q7 hst).trans hgo⟩
      · rintro σ Hc ⟨i, ws, cost, o6, o7, rfl, q1, q2, ⟨xs, q3, q4⟩, q5, q6, q7⟩
        rw [enumD_len, List.take_length] at q7
        have em := made_short (p2 := p2) (p3 := p3) (p4 := p4) (one := one) hss
        rw [q7] at em
        have em : made p2 p3 p4 one (.tuple ss) = if i = one.length then some (ws, cost) else none := em
        have hle : i ≤ one.length := run_le (one := one) q7 (Nat.zero_le _)
        walk_at "NX"
        refine s_if (K := K) (b := decide ((i : Int) < ((one.length : Nat) : Int))) (tv_is (by walk_at "TV") (by rw [el1])) (fun hb H6 e6 => ?_) fun hb H6 e6 => ?_
        · rw [decide_eq_true_eq] at hb
          rw [if_neg (by omega)] at em
          have s6 := q1.trans e6
          exact s_raise1 (K := K) (nd := .int ((lenD (.tuple ss) : Nat) : Int)) (by walk_at "AV") ((no em).to s6) rfl
        · rw [decide_eq_false_iff_not] at hb
          rw [if_pos (by omega)] at em
          rw [em] at k
          have dl : Dp K H6 (.ref l) (.list (ws.map .str)) := .lst (SqL.of (e6 _ _ q3)) (dps_same e6 q4)
          walk_at "NX"
          exact s_ret (K := K) (d := .tuple [.tuple (ws.map .str), .int cost]) (ev_tup (by walk_at "AV") (by show 2 ≤ 100000; decide)) fun u H7 e7 du => k u H7 (q1.trans (e6.trans e7)) du
  | _ =>
    apply s_if (K := K)
    · with_reducible apply tv_or (b := false)
      · walk_at "TV"
      · intro z
        exact nomatch z
    · intro hb H3 e3
      exact s_raise0 (K := K) ((no rfl).to (s2.trans e3)) rfl
    · intro z
      exact nomatch z
end
end K5
set_option Elab.async false
set_option linter.all false
set_option maxRecDepth 100000
set_option maxHeartbeats 4000000
/-! check_change. -/
namespace K5
open PySem L2 PySem.Spec PyProof.Rows
local macro_rules | `(tactic| walk_at "DP") => `(tactic| first | with_reducible assumption | with_reducible exact Dp.int _ | with_reducible exact Dp.str _ | with_reducible exact Dp.bl _ | with_reducible exact Dp.non | with_reducible exact dp_up (by assumption) (by assumption))
local macro_rules | `(tactic| walk_at "SH") => `(tactic| first | with_reducible assumption | rfl)
local macro_rules | `(tactic| walk_at "RD") => `(tactic| first | with_reducible assumption | exact rd_addI | exact rd_I0 fun _ => .int _ | exact rd_I0 fun _ => .bl _ | exact rd_ixL (by with_reducible assumption) | exact rd_ixT (by with_reducible assumption) | exact rd_ixS (by with_reducible assumption) (by with_reducible assumption) | exact rd_eqD (by walk_at "SH") (by walk_at "SH") | exact rd_neD (by walk_at "SH") (by walk_at "SH") | exact rd_inS | exact rd_notN | exact rd_isN | exact rd_addL (by with_reducible assumption) | exact rd_addT (by with_reducible assumption) | exact rd_addS (by with_reducible assumption))
local macro_rules | `(tactic| walk_at "OV") => `(tactic| first | with_reducible exact ov_no | ((with_reducible apply ov_some); walk_at "EV"))
local macro_rules | `(tactic| walk_at "AV") => `(tactic| first | with_reducible assumption | with_reducible exact av_nil | ((with_reducible apply av_cons); walk_at "EV"; walk_at "AV"))
local macro_rules | `(tactic| walk_at "RC") => `(tactic| first | with_reducible assumption | exact rc_len (by (first | with_reducible assumption | trivial)) | exact rc_tupL | exact rc_tupT | exact rc_lstL | exact rc_lstT | exact rc_all | exact rc_sum | exact rc_min2 | exact rc_min3)
local macro_rules | `(tactic| walk_at "KIT") => `(tactic| first | with_reducible exact kit_int _ | with_reducible exact kit_bool _ | with_reducible exact kit_str _ | with_reducible exact kit_tuple _)
local macro_rules | `(tactic| walk_at "EV") => `(tactic| first | with_reducible assumption | with_reducible exact ev_int | with_reducible exact ev_str | with_reducible exact ev_bl | with_reducible exact ev_non | ((with_reducible apply ev_var); exact sl_mk rfl (by walk_at "DP")) | ((with_reducible apply ev_op); walk_at "EV"; walk_at "EV"; walk_at "RD") | ((with_reducible apply ev_neg); walk_at "EV") | ((with_reducible apply ev_tup); walk_at "AV"; (first | (with_reducible assumption) | decide)) | ((with_reducible apply ev_lst); walk_at "AV"; (first | (with_reducible assumption) | decide)) | ((with_reducible apply ev_call); walk_at "AV"; with_reducible assumption) | ((with_reducible apply ev_isi2); exact rfl; walk_at "EV"; walk_at "KIT") | ((with_reducible apply ev_cb); walk_at "AV"; walk_at "RC") | ((with_reducible apply ev_chain); walk_at "EV"; walk_at "EV"; walk_at "RD"; intro _; walk_at "EV"; intro _; walk_at "RD") | ((with_reducible apply ev_andV); walk_at "EV"; intro _; walk_at "EV") | ((with_reducible apply ev_orV); walk_at "EV"; intro _; walk_at "EV") | ((with_reducible apply ev_notV); walk_at "EV") | ((with_reducible apply ev_sl2); exact rfl; walk_at "EV"; walk_at "OV"; walk_at "OV"; walk_at "SLD") | ((with_reducible apply ev_rev2); exact rfl; walk_at "EV"))
local macro_rules | `(tactic| walk_at "SLD") => `(tactic| first | with_reducible exact SlD.l | with_reducible exact SlD.t | with_reducible exact SlD.s (by with_reducible assumption))
local macro_rules | `(tactic| walk_at "TV") => `(tactic| first | with_reducible assumption | ((with_reducible apply tv_and); walk_at "TV"; intro _; walk_at "TV") | ((with_reducible apply tv_or); walk_at "TV"; intro _; walk_at "TV") | ((with_reducible apply tv_not); walk_at "TV") | ((with_reducible apply tv_B); walk_at "EV") | ((with_reducible apply tv_T); walk_at "EV"))
local macro_rules | `(tactic| walk_at "NX") => `(tactic| ((try dsimp only); (try with_reducible apply s_next); (try dsimp only); (try with_reducible apply s_seq)))

structure A10 where
  (ps one other : List D) (d : D)
def A10.ok (a : A10) : Prop := gdn 6 (.tuple a.ps) = true ∧ gdn 6 (.tuple a.one) = true ∧ gdn 6 (.tuple a.other) = true ∧ okT a.d
def A10.l (a : A10) : List D := [.tuple a.ps, .tuple a.one, .tuple a.other, a.d]
section
variable {P : Program} {w : World} {K : PySem.W.Frag} {mg : Str → Option Value} {base : Heap}
abbrev s_check_change : Stmt := topS 46
abbrev N_check_change : List Str := ["prices", "one", "other", "paper", "steps", "rows", "words", "cost"]
theorem sc_check_change : FnScope N_check_change ["prices", "one", "other", "paper"] (defScope s_check_change) := ⟨rfl, rfl, rfl, by decide +kernel, rfl, by decide +kernel, by decide +kernel⟩
abbrev spCheck (K : PySem.W.Frag) (CP CM : Addr) : Sp := spX K A10.l A10.ok fun a => badRes CP CM (.bool (paperOk (ppOf a.ps).p2 (ppOf a.ps).p3 (ppOf a.ps).p4 (wordsOf a.one) (wordsOf a.other) a.d)) (pairBad a.ps a.one a.other)
theorem c_check_change (T : Txt w K mg) (d : DefAt K mg "check_change" s_check_change) {CP CM CB : Addr} (g_BadPaper : mg "BadPaper" = some (.ref CB)) (exB : PySem.W.exmOne K (.ref CB) (.ref CB) = some true) (G_need_pair : KCal P w K mg base (L2.CX P w) 4 "need_pair" ["prices", "one", "other"] (spPair K CP CM))
    (G_made_by : KCal P w K mg base (L2.CX P w) 4 "made_by" ["prices", "one", "steps"] (spMade K CB)) (G_are_potentials : KCal P w K mg base CX0 2 "are_potentials" ["thing", "rows", "places"] (spPot K)) (G_all_hold : KCal P w K mg base CX0 2 "all_hold" ["prices", "pair", "rows"] (spAllHold K)) :
    KCal P w K mg base (L2.CX P w) 5 "check_change" ["prices", "one", "other", "paper"] (spCheck K CP CM) := by
  refine d.cal (fun _ _ _ _ _ _ us hl => match us, hl with | [_, _, _, _], _ => rfl) fun f fd F => F.okX sc_check_change (fun vs H Q E h => spx_len (fun _ => rfl) h) (fun cdv A outer s H vs Q E hr h => ?_)
  have hu := hr.units
  refine ⟨_, (pss_cons (ps_expr (pcX G_need_pair hr (by decide) (by rfl) (takes_of rfl rfl rfl rfl) (pa_cons (pv 0) (pa_cons (pv 1) (pa_cons (pv 2) pa_nil)))))
  (pss_cons (ps_if (PW.pt (pw_or (pt_not (pt_val (pe_callB call_isi (by rfl) T.n_isinstance (by decide +kernel) (pa_cons (pv 3) (pa_cons (pe_bltn (v := .ty "tuple") rfl T.n_tuple (by decide +kernel) rfl) pa_nil))))) (pw_or1 (pt_cmpR (op_neD hu) (pe_callB call_len (by rfl) T.n_len (by decide +kernel) (pa_cons (pv 3) pa_nil)) pe_int (nomark _))))) (pss_one (ps_ret pe_bl)) pss_nil)
  (pss_cons (ps_asg (pv 3) (pg_tup rfl (pgs_cons (pg_name (i := 4) sc_check_change.nd rfl (Or.inl rfl)) (pgs_cons (pg_name (i := 5) sc_check_change.nd rfl (Or.inl rfl)) pgs_nil))))
  (pss_cons (ps_try_only (tb := fun W => tAsg (tCallS (spMade K CB) (WE W) (tCons (tVar 0) (tCons (tVar 1) (tCons (tVar 4) tNil)))) (gTup K 2 (gCons (gName 6) (gCons (gName 7) gNil)))) (ts := fun _ _ _ => tRet (tC (.bl false))) (Wout := fun cls d _ H => E cls d H) rfl rfl ⟨rfl, by decide, .inl g_BadPaper⟩ (takes_of rfl rfl rfl rfl) (fun W pn xe tk _ => by exact (pss_one (ps_asg (pcS G_made_by hr (by decide) (by rfl) tk (pa_cons (pv 0) (pa_cons (pv 1) (pa_cons (pv 4) pa_nil)))) (pg_tup rfl (pgs_cons (pg_name (i := 6) sc_check_change.nd rfl (Or.inl rfl)) (pgs_cons (pg_name (i := 7) sc_check_change.nd rfl (Or.inl rfl)) pgs_nil)))))) (fun a oe cls d pn _ _ => by exact (pss_one (ps_ret pe_bl))))
  (pss_cons (ps_if (PW.pt (pw_or (pt_cmpR (op_neD hu) (pv 6) (pv 2) (nomark _)) (pw_or1 (pt_not (pt_val (pc0 G_are_potentials hr (by decide) (by rfl) (pa_cons (pv 5) (pa_cons (pe_op opAddU (pe_callB call_len (by rfl) T.n_len (by decide +kernel) (pa_cons (pv 1) pa_nil)) pe_int) (pa_cons (pe_op opAddU (pe_callB call_len (by rfl) T.n_len (by decide +kernel) (pa_cons (pv 2) pa_nil)) pe_int) pa_nil))))))))) (pss_one (ps_ret pe_bl)) pss_nil)
  (pss_one (ps_ret (pe_and (pe_cmpR (op_eqD hu) (pe_ix ix_seq (pe_ix ix_seq (pv 5) pe_int (fun _ _ => rfl)) pe_int (fun _ _ => rfl)) pe_int (nomark _)) (pe_and (pe_cmpR (op_eqD hu) (pe_ix ix_seq (pe_ix ix_seq (pv 5) (pe_un un_neg pe_int) (fun _ _ => rfl)) (pe_un un_neg pe_int) (fun _ _ => rfl)) (pv 7) (nomark _)) (pe_one (pc0 G_all_hold hr (by decide) (by rfl) (pa_cons (pv 0) (pa_cons (pe_tup (pa_cons (pv 1) (pa_cons (pv 2) pa_nil))) (pa_cons (pv 5) pa_nil)))))))))))))), ?_⟩
  obtain ⟨⟨ps, one0, other0, d⟩, h1, ⟨g1, g2, g3, hg, hR, hS⟩, k⟩ := h
  obtain ⟨v0, d0, v1, d1, v2, d2, v3, d3, rfl, e, hd0, hd1, hd2, hd3⟩ := dps4 h1 rfl
  cases e
  replace hg : gdn 6 d = true := hg
  replace hR : ∀ s r, d = .tuple [s, r] → okR r := hR
  replace hS : ∀ s r, d = .tuple [s, r] → okS s := hS
  replace hd0 : Dp K H v0 (.tuple ps) := hd0
  replace hd1 : Dp K H v1 (.tuple one0) := hd1
  replace hd2 : Dp K H v2 (.tuple other0) := hd2
  replace hd3 : Dp K H v3 d := hd3
  replace k : match badRes CP CM (.bool (paperOk (ppOf ps).p2 (ppOf ps).p3 (ppOf ps).p4 (wordsOf one0) (wordsOf other0) d)) (pairBad ps one0 other0) with | .ok c => ∀ u H', Same H H' → Dp K H' u c → Q u H' | .bad C f nd => Raised K E H C f nd := k
  walk_at "NX"
  refine s_callX (K := K) (ds := [.tuple ps, .tuple one0, .tuple other0]) (by walk_at "AV") ⟨ps, one0, other0⟩ rfl ⟨g1, g2, g3⟩ (fun c hc H1 e1 => ?_) fun C f nd hb => ?_
  rotate_left
  · have hb : badRes CP CM .none (pairBad ps one0 other0) = .bad C f nd := hb
    cases hp : pairBad ps one0 other0 with
    | prices nd => rw [hp] at hb k; cases hb; exact k
    | message nd => rw [hp] at hb k; cases hb; exact k
    | none => rw [hp] at hb; cases hb
  have hc : badRes CP CM .none (pairBad ps one0 other0) = .ok c := hc
  cases hp : pairBad ps one0 other0 with
  | prices nd => rw [hp] at hc; cases hc
  | message nd => rw [hp] at hc; cases hc
  | none =>
  rw [hp] at k
  obtain ⟨n1, n2, n3⟩ := pair_none hp
  obtain ⟨w1, ok1, one1⟩ := ok_words n2
  obtain ⟨w2, ok2, _⟩ := ok_words n3
  have n1' := n1
  rw [ok_prices n1] at hd0
  rw [w1] at hd1
  rw [w2] at hd2
  have epp : ps = [.int (ppOf ps).p0, .int (ppOf ps).p1, .int (ppOf ps).p2, .int (ppOf ps).p3, .int (ppOf ps).p4, .int (ppOf ps).p5] := PyData.tuple.inj (ok_prices n1)
  obtain ⟨pp, hpp⟩ : ∃ pp, pp = ppOf ps := ⟨_, rfl⟩
  obtain ⟨one, hone⟩ : ∃ one, one = wordsOf one0 := ⟨_, rfl⟩
  obtain ⟨other, hother⟩ : ∃ other, other = wordsOf other0 := ⟨_, rfl⟩
  rw [epp] at n1'
  rw [← hpp] at hd0 k n1'
  rw [← hone] at hd1 k ok1 one1
  rw [← hother] at hd2 k ok2
  replace k : ∀ u H', Same H H' → Dp K H' u (.bool (paperOk pp.p2 pp.p3 pp.p4 one other d)) → Q u H' := k
  have hm6 : other.length ≤ 6 := ok2.1
  have hn6 : one.length ≤ 6 := ok1.1
  have hdw1 : Dp K H v1 (.tuple (one.map .str)) := hd1
  have hdw2 : Dp K H v2 (.tuple (other.map .str)) := hd2
  have hs1 : sizedD (.tuple (one.map PyData.str)) := trivial
  have hs2 : sizedD (.tuple (other.map PyData.str)) := trivial
  have el1 : lenD (.tuple (one.map PyData.str)) = one.length := List.length_map _
  have el2 : lenD (.tuple (other.map PyData.str)) = other.length := List.length_map _
  have no : paperOk pp.p2 pp.p3 pp.p4 one other d = false → ∀ u H', Same H H' → Dp K H' u (.bool false) → Q u H' := fun hm u H' e' du => k u H' e' (by rw [hm]; exact du)
  walk_at "NX"
  cases d with
  | tuple xs =>
    have hs : sizedD (.tuple xs) := trivial
    refine s_if (K := K) (b := !decide (xs.length = 2)) ?_ (fun hb H2 e2 => ?_) fun hb H2 e2 => ?_
    · apply tv_is
      · walk_at "TV"
      · show (false || !(((xs.length : Nat) : Int) == ((2 : Nat) : Int))) = _
        rw [nat_eqB, Bool.false_or]
    · rw [Bool.not_eq_true'] at hb
      exact s_ret (K := K) (by walk_at "EV") fun u H3 e3 du => no (paper_two hb) u H3 (e1.trans (e2.trans e3)) du
    · rw [Bool.not_eq_false', decide_eq_true_eq] at hb
      obtain ⟨s, r, rfl⟩ : ∃ s r, xs = [s, r] := by
        match xs, hb with
        | [s, r], _ => exact ⟨s, r, rfl⟩
      have gs := gdn_tup hg s (by simp)
      have gr := gdn_tup hg r (by simp)
      have s2 := e1.trans e2
      walk_at "NX"
      refine Ev.go (K := K) (c := .tuple [s, r]) (by walk_at "EV") fun vv H3 e3 dvv => g_pair (K := K) dvv fun vs' vr ds' dr => ?_
      have s3 := s2.trans e3
      walk_at "NX"
      try dsimp only
      have av : Av K (tCons (tVar 0) (tCons (tVar 1) (tCons (tVar 4) tNil))) (((L2.start N_check_change [v0, v1, v2, v3]).set 4 (some vs')).set 5 (some vr)) H3 [pp.d, wordsD one, s] := by walk_at "AV"
      show tCons (tVar 0) (tCons (tVar 1) (tCons (tVar 4) tNil)) _ H3 (fun vs H1 => spMade K CB vs H1 _ _)
      refine av H3 (Pr.refl _) _ fun vs H4 e4 dvs => ⟨⟨pp, one, s⟩, dvs, ⟨n1', ok1, one1, gs, hS s r rfl⟩, ?_⟩
      have s4 := s3.trans e4
      cases hmade : made pp.p2 pp.p3 pp.p4 one s with
      | none =>
        refine fun d H' e' => ⟨true, exB, fun _ a ha => ?_, fun q => nomatch q⟩
        exact no (paper_none hmade) _ H' (s4.trans e') (.bl false)
      | some wc =>
        obtain ⟨ws, cost⟩ := wc
        refine fun u H5 e5 du => g_pair (K := K) du fun vw vc dw dc => ?_
        obtain rfl := dp_int dc
        have s5 := s4.trans e5
        have ep := paper_some (other := other) (r := r) hmade
        have shw := sh_words (made_names ok1 hmade)
        have sho := sh_words ok2.2
        have dr5 := dp_same (e4.trans e5) dr
        have cr : SpD K (spPot K) H5 [r, .int ((one.length + 1 : Nat) : Int), .int ((other.length + 1 : Nat) : Int)] (.bool (potB (one.length + 1) (other.length + 1) r)) := spr_of (r, one.length + 1, other.length + 1) ⟨gr, by show one.length + 1 ≤ 100; omega, by show other.length + 1 ≤ 100; omega⟩
        walk_at "NX"
        refine s_if (K := K) (b := !(ws == other) || !potB (one.length + 1) (other.length + 1) r) ?_ (fun hb H6 e6 => ?_) fun hb H6 e6 => ?_
        · apply tv_is
          · with_reducible apply tv_or
            · refine tv_T (ev_op (a := .tuple (ws.map .str)) (b := .tuple (other.map .str)) (by walk_at "EV") (by walk_at "EV") (rd_neD shw sho))
            · intro _
              with_reducible apply tv_not
              refine tv_B (ev_call (av_cons (by walk_at "EV") (av_cons (ev_is (d := .int (((lenD (.tuple (one.map PyData.str)) : Nat) : Int) + 1)) (by walk_at "EV") (by rw [el1]; rfl)) (av_cons (ev_is (d := .int (((lenD (.tuple (other.map PyData.str)) : Nat) : Int) + 1)) (by walk_at "EV") (by rw [el2]; rfl)) av_nil))) cr)
          · rw [eqv_words]
        · refine s_ret (K := K) (by walk_at "EV") fun u H7 e7 du => no ?_ u H7 (s5.trans (e6.trans e7)) du
          rw [ep]
          rw [Bool.or_eq_true, Bool.not_eq_true', Bool.not_eq_true'] at hb
          rcases hb with hb | hb <;> rw [hb] <;> simp
        · rw [Bool.or_eq_false_iff, Bool.not_eq_false', Bool.not_eq_false'] at hb
          obtain ⟨hb1, hb2⟩ := hb
          have et := potB_tab hb2
          obtain ⟨R, hRdef⟩ : ∃ R, R = cellD r := ⟨_, rfl⟩
          rw [← hRdef] at et ep
          rw [hb1, hb2, Bool.true_and, Bool.true_and] at ep
          have s6 := s5.trans e6
          have dr6 : Dp K H6 vr (.tuple ((List.range (one.length + 1)).map fun i => .tuple ((List.range (other.length + 1)).map fun j => .int (R i j)))) := by
            have := dp_same e6 dr5
            rw [et] at this
            exact this
          have z0 := atI_tab (R := R) (m := other.length + 1) (n := one.length + 1) (x := 0) (i := 0) rfl (by omega)
          have z1 := atI_row (R := R) (m := other.length + 1) (i := 0) (x := 0) (j := 0) rfl (by omega)
          have z2 := atI_last (g := fun i => PyData.tuple ((List.range (other.length + 1)).map fun j => .int (R i j))) (k := one.length)
          have z3 := atI_last (g := fun j => PyData.int (R one.length j)) (k := other.length)
          have ca : SpD K (spAllHold K) H6 [pp.d, .tuple [.tuple (one.map .str), .tuple (other.map .str)], .tuple ((List.range (one.length + 1)).map fun i => .tuple ((List.range (other.length + 1)).map fun j => .int (R i j)))] (.bool (holdAll pp.p2 pp.p3 pp.p4 one other R)) := spr_of (⟨pp, one, other, R⟩ : A5) ⟨ok1, ok2⟩
          have h2l : ([PyData.tuple (one.map .str), .tuple (other.map .str)] : List D).length ≤ 100000 := by show 2 ≤ 100000; decide
          walk_at "NX"
          refine s_ret (K := K) (d := .bool ((R 0 0 == 0) && ((R one.length other.length == cost) && holdAll pp.p2 pp.p3 pp.p4 one other R))) (ev_andV (ev_is (by walk_at "EV") (congrArg PyData.bool eqv_ints)) fun _ => ev_andV (ev_is (by walk_at "EV") (congrArg PyData.bool eqv_ints)) fun _ => ev_call (av_cons (by walk_at "EV") (av_cons (ev_tup (by walk_at "AV") h2l) (by walk_at "AV"))) ca) fun u H7 e7 du => k u H7 (s6.trans e7) ?_
          rw [ep, Bool.and_assoc]
          exact du
  | _ =>
    apply s_if (K := K)
    · with_reducible apply tv_or (b := false)
      · walk_at "TV"
      · intro z
        exact nomatch z
    · intro hb H2 e2
      exact s_ret (K := K) (by walk_at "EV") fun u H3 e3 du => no rfl u H3 (e1.trans (e2.trans e3)) du
    · intro z
      exact nomatch z
end
end K5
set_option Elab.async false
set_option linter.all false
set_option maxRecDepth 100000
set_option maxHeartbeats 4000000
/-! The state that digits are drawn from. -/
namespace K5
open PySem L2 PySem.Spec PyProof.Rows
local macro_rules | `(tactic| walk_at "DP") => `(tactic| first | with_reducible assumption | with_reducible exact Dp.int _ | with_reducible exact Dp.str _ | with_reducible exact Dp.bl _ | with_reducible exact Dp.non | with_reducible exact dp_up (by assumption) (by assumption))
local macro_rules | `(tactic| walk_at "SH") => `(tactic| first | with_reducible assumption | rfl)
local macro_rules | `(tactic| walk_at "RD") => `(tactic| first | with_reducible assumption | exact rd_addI | exact rd_I0 fun _ => .int _ | exact rd_I0 fun _ => .bl _ | exact rd_ixL (by with_reducible assumption) | exact rd_ixT (by with_reducible assumption) | exact rd_ixS (by with_reducible assumption) (by with_reducible assumption) | exact rd_eqD (by walk_at "SH") (by walk_at "SH") | exact rd_neD (by walk_at "SH") (by walk_at "SH") | exact rd_inS | exact rd_notN | exact rd_isN | exact rd_addL (by with_reducible assumption) | exact rd_addT (by with_reducible assumption) | exact rd_addS (by with_reducible assumption))
local macro_rules | `(tactic| walk_at "OV") => `(tactic| first | with_reducible exact ov_no | ((with_reducible apply ov_some); walk_at "EV"))
local macro_rules | `(tactic| walk_at "AV") => `(tactic| first | with_reducible assumption | with_reducible exact av_nil | ((with_reducible apply av_cons); walk_at "EV"; walk_at "AV"))
local macro_rules | `(tactic| walk_at "RC") => `(tactic| first | with_reducible assumption | exact rc_len (by (first | with_reducible assumption | trivial)) | exact rc_tupL | exact rc_tupT | exact rc_lstL | exact rc_lstT | exact rc_all | exact rc_sum | exact rc_min2 | exact rc_min3)
local macro_rules | `(tactic| walk_at "KIT") => `(tactic| first | with_reducible exact kit_int _ | with_reducible exact kit_bool _ | with_reducible exact kit_str _ | with_reducible exact kit_tuple _)
local macro_rules | `(tactic| walk_at "EV") => `(tactic| first | with_reducible assumption | with_reducible exact ev_int | with_reducible exact ev_str | with_reducible exact ev_bl | with_reducible exact ev_non | ((with_reducible apply ev_var); exact sl_mk rfl (by walk_at "DP")) | ((with_reducible apply ev_op); walk_at "EV"; walk_at "EV"; walk_at "RD") | ((with_reducible apply ev_neg); walk_at "EV") | ((with_reducible apply ev_tup); walk_at "AV"; (first | (with_reducible assumption) | decide)) | ((with_reducible apply ev_lst); walk_at "AV"; (first | (with_reducible assumption) | decide)) | ((with_reducible apply ev_call); walk_at "AV"; with_reducible assumption) | ((with_reducible apply ev_isi2); exact rfl; walk_at "EV"; walk_at "KIT") | ((with_reducible apply ev_cb); walk_at "AV"; walk_at "RC") | ((with_reducible apply ev_chain); walk_at "EV"; walk_at "EV"; walk_at "RD"; intro _; walk_at "EV"; intro _; walk_at "RD") | ((with_reducible apply ev_andV); walk_at "EV"; intro _; walk_at "EV") | ((with_reducible apply ev_orV); walk_at "EV"; intro _; walk_at "EV") | ((with_reducible apply ev_notV); walk_at "EV") | ((with_reducible apply ev_sl2); exact rfl; walk_at "EV"; walk_at "OV"; walk_at "OV"; walk_at "SLD") | ((with_reducible apply ev_rev2); exact rfl; walk_at "EV"))
local macro_rules | `(tactic| walk_at "SLD") => `(tactic| first | with_reducible exact SlD.l | with_reducible exact SlD.t | with_reducible exact SlD.s (by with_reducible assumption))
local macro_rules | `(tactic| walk_at "TV") => `(tactic| first | with_reducible assumption | ((with_reducible apply tv_and); walk_at "TV"; intro _; walk_at "TV") | ((with_reducible apply tv_or); walk_at "TV"; intro _; walk_at "TV") | ((with_reducible apply tv_not); walk_at "TV") | ((with_reducible apply tv_B); walk_at "EV") | ((with_reducible apply tv_T); walk_at "EV"))
local macro_rules | `(tactic| walk_at "NX") => `(tactic| ((try dsimp only); (try with_reducible apply s_next); (try dsimp only); (try with_reducible apply s_seq)))

/-- the state at a: no more than t turns -/
def StA (H : Hp) (a : Addr) (t : Int) : Prop := ∃ l c n : Int, H a = some (.dK [(.inr "left", .int l), (.inr "cell", .int c), (.inr "turns", .int n)]) ∧ 0 ≤ n ∧ n ≤ t
theorem StA.same {H H' : Hp} {a : Addr} {t : Int} (h : StA H a t) (e : Same H H') : StA H' a t := by
  obtain ⟨l, c, n, h1, h2⟩ := h
  exact ⟨l, c, n, e _ _ h1, h2⟩
theorem StA.mono {H : Hp} {a : Addr} {t t' : Int} (h : StA H a t) (k : t ≤ t') : StA H a t' := by
  obtain ⟨l, c, n, h1, h2, h3⟩ := h
  exact ⟨l, c, n, h1, h2, Int.le_trans h3 k⟩
theorem StA.pr {K : PySem.W.Frag} {H H' : Hp} {a : Addr} {t : Int} (h : StA H a t) (b : But a H H') : Pr K H H' := by
  obtain ⟨l, c, n, h1, _⟩ := h
  exact b.pr h1
theorem But.s {a : Addr} {H H1 H2 : Hp} (b : But a H H1) (e : Same H1 H2) : But a H H2 := b.trans (.of e)
theorem but_upd {a : Addr} {H : Hp} {o : HO} : But a H (upd H a o) := fun b u hb h => by
  rw [upd_ne hb]
  exact h
theorem rd_mod {K : PySem.W.Frag} {H : Hp} {i j : Int} (h : 0 < j) : RD K (rI (fun _ j => 0 < j) fun i j => .int (i % j)) H (.int i) (.int j) (.int (i % j)) := rd_I (C := fun _ j => 0 < j) h fun _ => .int _
section
variable {P : Program} {w : World} {K : PySem.W.Frag} {mg : Str → Option Value} {base : Heap}
abbrev s_L_mixed : Stmt := topS 48
abbrev N_L_mixed : List Str := ["_law_cell", "_law_k", "_law_number"]
theorem sc_L_mixed : FnScope N_L_mixed ["_law_cell", "_law_k"] (defScope s_L_mixed) := ⟨rfl, rfl, rfl, by decide +kernel, rfl, by decide +kernel, by decide +kernel⟩
def spMixed (K : PySem.W.Frag) : Sp := fun vs H Q _ => ∃ c n : Int, vs = [.int c, .int n] ∧ 0 ≤ n ∧ n ≤ 1000000 ∧ ∀ r H', Same H H' → Q (.int r) H'
theorem mix_at {n : Int} : ∃ m : Int, 0 < m ∧ m < 2 ^ 31 ∧ atI [PyData.int 1000000007, .int 998244353, .int 2147483629, .int 1000000009] (n % 4) = some (.int m) := by
  have h : n % 4 = 0 ∨ n % 4 = 1 ∨ n % 4 = 2 ∨ n % 4 = 3 := by omega
  rcases h with h | h | h | h <;> rw [h]
  · exact ⟨1000000007, by decide, by decide, rfl⟩
  · exact ⟨998244353, by decide, by decide, rfl⟩
  · exact ⟨2147483629, by decide, by decide, rfl⟩
  · exact ⟨1000000009, by decide, by decide, rfl⟩
theorem c_L_mixed (T : Txt w K mg) (d : DefAt K mg "_law_mixed" s_L_mixed) : KCal P w K mg base CX0 1 "_law_mixed" ["_law_cell", "_law_k"] (spMixed K) := by
  refine d.cal (fun _ _ _ _ _ _ us hl => match us, hl with | [_, _], _ => rfl) fun f fd F => F.ok sc_L_mixed (fun vs H Q E h => by obtain ⟨_, _, rfl, _⟩ := h; rfl) (fun cdv A outer s H vs Q E hr h => ?_)
  refine ⟨_, (pss_cons (ps_set (i := 2) sc_L_mixed.nd rfl (Or.inl rfl) (pe_op opAddU (pe_op opAddU (pe_op op_mod (pv 0) (pe_ix ix_seq (pe_lst (pa_cons pe_int (pa_cons pe_int (pa_cons pe_int (pa_cons pe_int pa_nil))))) (pe_op op_mod (pv 1) pe_int) (fun _ _ => rfl))) (pe_op opMulU pe_int (pv 1))) pe_int))
  (pss_one (ps_ret (pe_op op_mod (pe_op opMulU (pe_op op_mod (pe_op opMulU (pv 2) (pv 2)) pe_int) pe_int) pe_int)))), ?_⟩
  obtain ⟨c, n, rfl, n0, n1, k⟩ := h
  obtain ⟨m, m0, m1, hm⟩ := mix_at (n := n)
  have b1 := Int.emod_nonneg c (Int.ne_of_gt m0)
  have b2 := Int.emod_lt_of_pos c m0
  have cm1 : CMul 7919 n := .inl (by decide)
  have hl : ([PyData.int 1000000007, .int 998244353, .int 2147483629, .int 1000000009] : List D).length ≤ 100000 := by show 4 ≤ 100000; decide
  have cm2 : CMul (c % m + 7919 * n + 13) (c % m + 7919 * n + 13) := .inl (by omega)
  have q0 := Int.emod_nonneg ((c % m + 7919 * n + 13) * (c % m + 7919 * n + 13)) (show (2147483647 : Int) ≠ 0 by decide)
  have q1 := Int.emod_lt_of_pos ((c % m + 7919 * n + 13) * (c % m + 7919 * n + 13)) (show (0 : Int) < 2147483647 by decide)
  have cm3 : CMul ((c % m + 7919 * n + 13) * (c % m + 7919 * n + 13) % 2147483647) 48271 := .inr (by decide)
  walk_at "NX"
  refine s_asg (K := K) (d := .int (c % m + 7919 * n + 13)) (ev_op (ev_op (ev_op (by walk_at "EV") (ev_op (ev_lst (by walk_at "AV") hl) (ev_op (by walk_at "EV") ev_int (rd_mod (by decide))) (rd_ixL hm)) (rd_mod m0)) (ev_op ev_int (by walk_at "EV") (rd_mul cm1)) rd_addI) ev_int rd_addI) fun v H1 e1 dv => ?_
  obtain rfl := dp_int dv
  try dsimp only
  refine s_ret (K := K) (ev_op (ev_op (ev_op (ev_op (by walk_at "EV") (by walk_at "EV") (rd_mul cm2)) ev_int (rd_mod (by decide))) ev_int (rd_mul cm3)) ev_int (rd_mod (by decide))) fun u H2 e2 du => ?_
  obtain rfl := dp_int du
  exact k _ H2 (e1.trans e2)

abbrev s_L_draw : Stmt := topS 49
abbrev N_L_draw : List Str := ["_law_cell", "_law_k"]
theorem sc_L_draw : FnScope N_L_draw ["_law_cell", "_law_k"] (defScope s_L_draw) := ⟨rfl, rfl, rfl, by decide +kernel, rfl, by decide +kernel, by decide +kernel⟩
def spDraw (K : PySem.W.Frag) : Sp := fun vs H Q _ => ∃ c n : Int, vs = [.int c, .int n] ∧ 0 ≤ n ∧ n ≤ 10 ∧ ∀ p H', Same H H' → H p = none → StA H' p (1000 * n) → Q (.ref p) H'
theorem c_L_draw (T : Txt w K mg) (d : DefAt K mg "_law_draw" s_L_draw) : KCal P w K mg base CX0 1 "_law_draw" ["_law_cell", "_law_k"] (spDraw K) := by
  refine d.cal (fun _ _ _ _ _ _ us hl => match us, hl with | [_, _], _ => rfl) fun f fd F => F.ok sc_L_draw (fun vs H Q E h => by obtain ⟨_, _, rfl, _⟩ := h; rfl) (fun cdv A outer s H vs Q E hr h => ?_)
  refine ⟨_, (pss_one (ps_ret (pe_disp (pps_cons pe_str (pe_ifExp (pt_cmpR op_ge (pv 0) (pe_op op_pow pe_int pe_int) (nomark _)) (pv 0) pe_int) (pps_cons pe_str (pv 0) (pps_cons pe_str (pe_op opMulU pe_int (pv 1)) pps_nil))) (by rfl) (by rfl) (fun z => by cases z) (by decide)))), ?_⟩
  obtain ⟨c, n, rfl, n0, n1, k⟩ := h
  have cm : CMul 1000 n := .inl (by decide)
  have cp : CPow 10 18 := ⟨by decide, by decide, by decide⟩
  intro p hp
  refine Ev.go (K := K) ev_str fun v1 H1 e1 d1 => ?_
  obtain rfl := dp_str d1
  refine Ev.go (K := K) (c := .int (if c ≥ 1000000000000000000 then c else 0)) (ev_if (b := decide (c ≥ 1000000000000000000)) ?_ (fun h => ?_) fun h => ?_) fun v2 H2 e2 d2 => ?_
  · refine tv_T (ev_op (a := .int c) (b := .int 1000000000000000000) (by walk_at "EV") (ev_is (ev_op ev_int ev_int (rd_I cp fun _ => .int _)) rfl) (rd_I0 fun _ => .bl _))
  · rw [decide_eq_true_eq] at h
    rw [if_pos h]
    walk_at "EV"
  · rw [decide_eq_false_iff_not] at h
    rw [if_neg h]
    exact ev_int
  obtain rfl := dp_int d2
  refine Ev.go (K := K) ev_str fun v3 H3 e3 d3 => ?_
  obtain rfl := dp_str d3
  refine Ev.go (K := K) (c := .int c) (by walk_at "EV") fun v4 H4 e4 d4 => ?_
  obtain rfl := dp_int d4
  refine Ev.go (K := K) ev_str fun v5 H5 e5 d5 => ?_
  obtain rfl := dp_str d5
  refine Ev.go (K := K) (c := .int (1000 * n)) (ev_op ev_int (by walk_at "EV") (rd_mul cm)) fun v6 H6 e6 d6 => ?_
  obtain rfl := dp_int d6
  have s6 := e1.trans (e2.trans (e3.trans (e4.trans (e5.trans e6))))
  refine ⟨s6 _ _ upd_same, [(.inr "left", .int (if c ≥ 1000000000000000000 then c else 0)), (.inr "cell", .int c), (.inr "turns", .int (1000 * n))], rfl, by show 3 ≤ 15; decide, ?_⟩
  have em : mergeK [] [(.inr "left", V.int (if c ≥ 1000000000000000000 then c else 0)), (.inr "cell", .int c), (.inr "turns", .int (1000 * n))] = [(.inr "left", V.int (if c ≥ 1000000000000000000 then c else 0)), (.inr "cell", .int c), (.inr "turns", .int (1000 * n))] := by
    generalize (if c ≥ 1000000000000000000 then c else 0) = x
    have n1 : ¬ ((Sum.inr "left" : Key) = .inr "cell") := by decide +kernel
    have n2 : ¬ ((Sum.inr "left" : Key) = .inr "turns") := by decide +kernel
    have n3 : ¬ ((Sum.inr "cell" : Key) = .inr "turns") := by decide +kernel
    simp [mergeK, putK, n1, n2, n3]
  rw [em]
  refine k p _ ?_ hp ⟨_, c, 1000 * n, upd_same, by omega, Int.le_refl _⟩
  exact Same.mut ((Same.new hp).trans s6) hp

abbrev s_L_digit : Stmt := topS 50
abbrev N_L_digit : List Str := ["_law_state", "_law_many", "_law_j", "_law_found"]
theorem sc_L_digit : FnScope N_L_digit ["_law_state", "_law_many"] (defScope s_L_digit) := ⟨rfl, rfl, rfl, by decide +kernel, rfl, by decide +kernel, by decide +kernel⟩
def spDigit (K : PySem.W.Frag) : Sp := fun vs H Q _ => ∃ (a : Addr) (m t : Int), vs = [.ref a, .int m] ∧ 1 ≤ m ∧ m < 1000000 ∧ StA H a t ∧ t ≤ 900000 ∧ ∀ r H', 0 ≤ r → r < m → But a H H' → StA H' a (t + 4) → Q (.int r) H'
theorem ev_get {s : L2.St} {H : Hp} {i : Nat} {a : Addr} {l c n : Int} {x : Str} {z : Int} (h0 : s[i]? = some (some (.ref a))) (h : H a = some (.dK [(.inr "left", .int l), (.inr "cell", .int c), (.inr "turns", .int n)])) (hx : valV [((.inr "left" : Key), V.int l), (.inr "cell", .int c), (.inr "turns", .int n)] (.inr x) = some (.int z)) {Q : VK} (q : Q (.int z) H) : tDGet (tVar i) (tC (.str x)) s H Q :=
  ⟨.ref a, h0, a, .int z, rfl, .inl ⟨_, .inr x, .inl h, rfl, hx.symm⟩, q⟩
theorem v_left {l c n : Int} : valV [((.inr "left" : Key), V.int l), (.inr "cell", .int c), (.inr "turns", .int n)] (.inr "left") = some (.int l) := by simp [valV]
theorem v_cell {l c n : Int} : valV [((.inr "left" : Key), V.int l), (.inr "cell", .int c), (.inr "turns", .int n)] (.inr "cell") = some (.int c) := by
  have n1 : ¬ ((Sum.inr "left" : Key) = .inr "cell") := by decide +kernel
  rw [valV_neg n1, valV_pos rfl]
theorem v_turns {l c n : Int} : valV [((.inr "left" : Key), V.int l), (.inr "cell", .int c), (.inr "turns", .int n)] (.inr "turns") = some (.int n) := by
  have n2 : ¬ ((Sum.inr "left" : Key) = .inr "turns") := by decide +kernel
  have n3 : ¬ ((Sum.inr "cell" : Key) = .inr "turns") := by decide +kernel
  rw [valV_neg n2, valV_neg n3, valV_pos rfl]
theorem p_left {l c n z : Int} : putK [((.inr "left" : Key), V.int l), (.inr "cell", .int c), (.inr "turns", .int n)] (.inr "left") (.int z) = [(.inr "left", .int z), (.inr "cell", .int c), (.inr "turns", .int n)] := by
  have n1 : ¬ ((Sum.inr "cell" : Key) = .inr "left") := by decide +kernel
  have n2 : ¬ ((Sum.inr "turns" : Key) = .inr "left") := by decide +kernel
  simp [putK, n1, n2]
theorem p_turns {l c n z : Int} : putK [((.inr "left" : Key), V.int l), (.inr "cell", .int c), (.inr "turns", .int n)] (.inr "turns") (.int z) = [(.inr "left", .int l), (.inr "cell", .int c), (.inr "turns", .int z)] := by
  have n1 : ¬ ((Sum.inr "cell" : Key) = .inr "turns") := by decide +kernel
  have n2 : ¬ ((Sum.inr "left" : Key) = .inr "turns") := by decide +kernel
  simp [putK, n1, n2]
theorem c_L_digit (T : Txt w K mg) (d : DefAt K mg "_law_digit" s_L_digit) (G_L_mixed : KCal P w K mg base CX0 1 "_law_mixed" ["_law_cell", "_law_k"] (spMixed K)) : KCal P w K mg base CX0 2 "_law_digit" ["_law_state", "_law_many"] (spDigit K) := by
  refine d.cal (fun _ _ _ _ _ _ us hl => match us, hl with | [_, _], _ => rfl) fun f fd F => F.ok sc_L_digit (fun vs H Q E h => by obtain ⟨_, _, _, rfl, _⟩ := h; rfl) (fun cdv A outer s H vs Q E hr h => ?_)
  have hu := hr.units
  have hu1 := hu_of hr
  refine ⟨_, (pss_cons (ps_if (pt_cmpR (op_eqD hu) (pe_dget hu1 (pv 0) pe_str (fun _ _ => rfl)) pe_int (nomark _)) (pss_one (ps_for PassesOwn.never rfl (pi_range1 (by rfl) T.n_range (pa_cons pe_int pa_nil)) (pg_name (i := 2) sc_L_digit.nd rfl (Or.inl rfl))
  (pss_cons (ps_dput hu1 (pv 0) pe_str (pe_op opAddU (pe_dget hu1 (pv 0) pe_str (fun _ _ => rfl)) pe_int) rfl)
  (pss_one (ps_dput hu1 (pv 0) pe_str (pe_op opAddU (pe_op opMulU (pe_dget hu1 (pv 0) pe_str (fun _ _ => rfl)) pe_int) (pc0 G_L_mixed hr (by decide) (by rfl) (pa_cons (pe_dget hu1 (pv 0) pe_str (fun _ _ => rfl)) (pa_cons (pe_dget hu1 (pv 0) pe_str (fun _ _ => rfl)) pa_nil)))) rfl))))) pss_nil)
  (pss_cons (ps_set (i := 3) sc_L_digit.nd rfl (Or.inl rfl) (pe_op op_mod (pe_dget hu1 (pv 0) pe_str (fun _ _ => rfl)) (pv 1)))
  (pss_cons (ps_dput hu1 (pv 0) pe_str (pe_op op_fdiv (pe_dget hu1 (pv 0) pe_str (fun _ _ => rfl)) (pv 1)) rfl)
  (pss_one (ps_ret (pv 3)))))), ?_⟩
  obtain ⟨a, m, t, rfl, m0, m1, st, ht, k⟩ := h
  obtain ⟨l, c, n, hH, n0, nt⟩ := st
  have hm0 : (0 : Int) < m := by omega
  have cd : CDiv l m := ⟨hm0, by omega⟩
  have sz3 : ∀ l c n : Int, ([((.inr "left" : Key), V.int l), (.inr "cell", .int c), (.inr "turns", .int n)] : List (Key × V)).length < sizeLine := fun _ _ _ => by show 3 < sizeLine; decide
  -- the last three lines
  have rest : ∀ (o2 o3 : Option V) (H1 : Hp), But a H H1 → StA H1 a (t + 4) → tSeq (tAsg (tOp (rI (fun _ j => 0 < j) fun i j => .int (i % j)) (tDGet (tVar 0) (tC (.str "left"))) (tVar 1)) (gName 3)) (tSeq (sDPut (tVar 0) (tC (.str "left")) (tOp (rI CDiv fun i j => .int (i / j)) (tDGet (tVar 0) (tC (.str "left"))) (tVar 1))) (tRet (tVar 3)))
      { nx := fun _ H' => Q .non H', rt := Q } [some (.ref a), some (.int m), o2, o3] H1 := by
    intro o2 o3 H1 b1 st1
    obtain ⟨l1, c1, x1, h1, y0, y1⟩ := st1
    refine ev_get (i := 0) rfl h1 v_left ?_
    refine ⟨.int m, rfl, l1, m, rfl, rfl, hm0, ?_⟩
    refine ev_get (i := 0) rfl h1 v_left ?_
    refine ⟨.int m, rfl, l1, m, rfl, rfl, ⟨hm0, by omega⟩, ?_⟩
    refine ⟨.ref a, rfl, a, _, rfl, DPut.k (k := .inr "left") h1 (sz3 _ _ _), ?_⟩
    rw [p_left]
    exact ⟨.int (l1 % m), rfl, k _ _ (Int.emod_nonneg _ (Int.ne_of_gt hm0)) (Int.emod_lt_of_pos _ hm0) (b1.trans but_upd) ⟨_, c1, x1, upd_same, y0, y1⟩⟩
  walk_at "NX"
  refine ev_get (i := 0) (a := a) rfl hH v_left ?_
  refine ⟨.int l, .int 0, .int l, .int 0, rfl, rfl, ?_⟩
  refine ⟨_, rfl, ?_⟩
  cases hz : PyData.eqv (.int l) (.int 0) with
  | true =>
    rw [if_pos rfl]
    refine s_for (K := K) (d := .none) (ds := rangeD 4) (yd_range (j := 4) (by walk_at "AV") (by decide)) fun H2 w2 e2 dw2 => ⟨fun k σ Hc => ∃ o2, σ = [some (.ref a), some (.int m), o2, none] ∧ But a H Hc ∧ StA Hc a (t + k), ?_, ?_, ?_, ?_, ?_⟩
    · rintro i σ Ha Hb sm ⟨o2, rfl, q1, q2⟩
      exact ⟨o2, rfl, q1.s sm, q2.same sm⟩
    · rintro i σ Ha ⟨o2, rfl, q1, q2⟩
      rw [dp_none dw2]
      exact .non
    · exact ⟨_, rfl, .of e2, _, c, n, e2 _ _ hH, n0, by show n ≤ t + 0; omega⟩
    · rintro i e v σ Hc he ⟨o2, rfl, q1, l1, c1, n1, q2, q3, q4⟩ dv
      have hi : i < 4 := (rangeD_of he).1
      have cm : CMul l1 2147483647 := .inr (by decide)
      show tSeq _ _ _ [some (.ref a), some (.int m), some v, none] Hc
      walk_at "NX"
      refine ev_get (i := 0) rfl q2 v_turns ?_
      refine .inl ⟨n1, 1, rfl, rfl, ?_⟩
      refine ⟨.ref a, rfl, a, _, rfl, DPut.k (k := .inr "turns") q2 (sz3 _ _ _), ?_⟩
      rw [p_turns]
      refine ev_get (i := 0) rfl upd_same v_left ?_
      refine .inl ⟨l1, 2147483647, rfl, rfl, cm, ?_⟩
      refine ev_get (i := 0) rfl upd_same v_cell ?_
      refine ev_get (i := 0) rfl upd_same v_turns ?_
      refine ⟨c1, n1 + 1, rfl, by omega, by omega, fun r H3 e3 => ?_⟩
      refine .inl ⟨_, r, rfl, rfl, ?_⟩
      have h3 := e3 _ _ (upd_same (H := Hc) (a := a) (o := .dK [(.inr "left", .int l1), (.inr "cell", .int c1), (.inr "turns", .int (n1 + 1))]))
      refine ⟨.ref a, rfl, a, _, rfl, DPut.k (k := .inr "left") h3 (sz3 _ _ _), ?_⟩
      rw [p_left]
      exact ⟨_, rfl, ((q1.trans but_upd).s e3).trans but_upd, _, c1, n1 + 1, upd_same, by omega, by rw [Int.natCast_add]; omega⟩
    · rintro σ Hc ⟨o2, rfl, q1, q2⟩
      rw [rangeD_len] at q2
      exact rest o2 none Hc q1 q2
  | false =>
    rw [if_neg (by decide)]
    exact rest none none H (.refl _) ⟨l, c, n, hH, n0, by omega⟩
/-- a digit is drawn -/
theorem ev_dig {s : L2.St} {H : Hp} {i : Nat} {a : Addr} {m t : Int} {tm : TE} (h0 : s[i]? = some (some (.ref a))) (hm : Ev K tm s H (.int m)) (m0 : 1 ≤ m) (m1 : m < 1000000) (st : StA H a t) (ht : t ≤ 900000) {Q : VK} (q : ∀ r H', 0 ≤ r → r < m → But a H H' → StA H' a (t + 4) → Q (.int r) H') : tCall (spDigit K) [] E0 (tCons (tVar i) (tCons tm tNil)) s H Q :=
  ⟨.ref a, h0, hm H (Pr.refl H) _ fun v H1 e1 dv => by
    obtain rfl := dp_int dv
    exact ⟨a, m, t, rfl, m0, m1, st.same e1, ht, fun r H' r0 r1 b st' => q r H' r0 r1 ((But.of e1).trans b) st'⟩⟩
end
end K5
set_option Elab.async false
set_option linter.all false
set_option maxRecDepth 100000
set_option maxHeartbeats 4000000
/-! Plain: words cut and put together. -/
namespace K5
open PySem L2 PySem.Spec PyProof.Rows
theorem cutD_map {α β : Type} {f : α → β} {xs : List α} {lo hi : Option Int} : cutD (xs.map f) lo hi = (cutD xs lo hi).map f := by
  unfold cutD
  rw [List.length_map, List.map_take, List.map_drop]
theorem cut_to {α : Type} {xs : List α} {k : Int} (h : 0 ≤ k) : cutD xs none (some k) = xs.take k.toNat := by
  obtain ⟨n, rfl⟩ := Int.eq_ofNat_of_zero_le h
  unfold cutD
  rw [HT.sIx_none, HT.sIx_nat, List.drop_zero, Nat.sub_zero]
  simp
theorem cut_from {α : Type} {xs : List α} {k : Int} (h : 0 ≤ k) : cutD xs (some k) none = xs.drop k.toNat := by
  obtain ⟨n, rfl⟩ := Int.eq_ofNat_of_zero_le h
  unfold cutD
  rw [HT.sIx_none, HT.sIx_nat]
  by_cases hn : n ≤ xs.length
  · rw [Nat.min_eq_left hn]
    exact List.take_of_length_le (by rw [List.length_drop]; show xs.length - ((n : Nat) : Int).toNat ≤ _; simp)
  · have e : min n xs.length = xs.length := by omega
    rw [e, Nat.sub_self, List.take_zero]
    exact (List.drop_of_length_le (by show xs.length ≤ ((n : Nat) : Int).toNat; simp; omega)).symm
theorem cut_mid {α : Type} {xs : List α} {a b : Int} (h : 0 ≤ a) (h2 : a ≤ b) : cutD xs (some a) (some b) = (xs.drop a.toNat).take (b.toNat - a.toNat) := by
  obtain ⟨n, rfl⟩ := Int.eq_ofNat_of_zero_le h
  obtain ⟨m, rfl⟩ := Int.eq_ofNat_of_zero_le (Int.le_trans h h2)
  unfold cutD
  rw [HT.sIx_nat, HT.sIx_nat]
  show _ = (xs.drop n).take (m - n)
  have hnm : n ≤ m := by omega
  by_cases hn : n ≤ xs.length
  · rw [Nat.min_eq_left hn]
    by_cases hm : m ≤ xs.length
    · rw [Nat.min_eq_left hm]
    · have e : min m xs.length = xs.length := by omega
      rw [e, List.take_of_length_le (by rw [List.length_drop]; omega), List.take_of_length_le (by rw [List.length_drop]; omega)]
  · have e : min n xs.length = xs.length := by omega
    have e2 : min m xs.length = xs.length := by omega
    rw [e, e2, Nat.sub_self, List.take_zero, List.drop_of_length_le (by omega), List.take_nil]
theorem name_mk {z : Str} (h1 : 1 ≤ z.cps.toList.length) (h8 : z.cps.toList.length ≤ 8) (hl : ∀ c ∈ z.cps.toList, letB c = true) : nameS z = true := by
  unfold nameS
  have : z.length = z.cps.toList.length := by simp [Str.length]
  rw [Bool.and_eq_true, Bool.and_eq_true, decide_eq_true_eq, decide_eq_true_eq, this]
  exact ⟨⟨by omega, by omega⟩, List.all_eq_true.mpr hl⟩
theorem name_get {z : Str} (h : nameS z = true) : 1 ≤ z.cps.toList.length ∧ z.cps.toList.length ≤ 8 ∧ ∀ c ∈ z.cps.toList, letB c = true := by
  unfold nameS at h
  have : z.length = z.cps.toList.length := by simp [Str.length]
  rw [Bool.and_eq_true, Bool.and_eq_true, decide_eq_true_eq, decide_eq_true_eq, this] at h
  exact ⟨by omega, by omega, List.all_eq_true.mp h.2⟩
theorem len_cps {z : Str} : z.length = z.cps.toList.length := by simp [Str.length]
theorem app_cps {a b : Str} : (a ++ b).cps.toList = a.cps.toList ++ b.cps.toList := by
  show (a.cps ++ b.cps).toList = _
  simp
theorem cutS_cps {z : Str} {lo hi : Option Int} : (cutS z lo hi).cps.toList = cutD z.cps.toList lo hi := by
  unfold cutS cutD
  rw [len_cps]
theorem cut_init {α : Type} {xs : List α} (h : 1 ≤ xs.length) : cutD xs none (some (-1)) = xs.take (xs.length - 1) := by
  unfold cutD HT.sIx
  simp
  congr 1
  omega
theorem cut_last {α : Type} {xs : List α} (h : 1 ≤ xs.length) : cutD xs (some (-1)) none = xs.drop (xs.length - 1) := by
  unfold cutD HT.sIx
  have e : ((-1 : Int) + (xs.length : Int)).toNat = xs.length - 1 := by omega
  simp only [show ((-1 : Int) < 0) = True from by simp, if_true, e]
  exact List.take_of_length_le (by rw [List.length_drop]; omega)
theorem join0 : ∀ {ys : List Str}, (Txt.join (Str.ofString "") ys).cps.toList = (ys.map fun y => y.cps.toList).flatten := by
  intro ys
  have e : Txt.join (Str.ofString "") ys = Str.join (Str.ofString "") ys := StrLaws.glued_eq_join _ _
  rw [e]
  induction ys with
  | nil => rfl
  | cons x ys ih =>
    cases ys with
    | nil =>
      show x.cps.toList = (x.cps.toList :: []).flatten
      simp
    | cons y r =>
      show ((x ++ Str.ofString "") ++ Str.join (Str.ofString "") (y :: r)).cps.toList = _
      rw [app_cps, app_cps, List.map_cons, List.flatten_cons]
      rw [ih (StrLaws.glued_eq_join _ _)]
      have e0 : (Str.ofString "").cps.toList = [] := by decide +kernel
      rw [e0, List.append_nil]
theorem but_mut {a p : Addr} {H H' : Hp} {o : HO} (b : But a H H') (h : H p = none) : But a H (upd H' p o) := fun q u hq e => by
  rw [upd_ne (ne_of_none e h)]
  exact b q u hq e
theorem but_none {a p : Addr} {H H' : Hp} (b : But a H H') (hp : p ≠ a) (h : H' p = none) : H p = none := by
  cases e : H p with
  | none => rfl
  | some u => rw [b p u hp e] at h; cases h
theorem StA.ne {H : Hp} {a p : Addr} {t : Int} (h : StA H a t) (hp : H p = none) : p ≠ a := fun z => by
  obtain ⟨l, c, n, h1, _⟩ := h
  rw [z, h1] at hp
  cases hp
theorem StA.mut {H : Hp} {a p : Addr} {t : Int} {o : HO} (h : StA H a t) (hp : p ≠ a) : StA (upd H p o) a t := by
  obtain ⟨l, c, n, h1, h2⟩ := h
  exact ⟨l, c, n, by rw [upd_ne hp.symm]; exact h1, h2⟩
theorem atI_nat {α : Type} {xs : List α} {r : Int} (h0 : 0 ≤ r) (h1 : r < xs.length) : ∃ x, atI xs r = some x ∧ x ∈ xs := by
  obtain ⟨n, rfl⟩ := Int.eq_ofNat_of_zero_le h0
  have hn : n < xs.length := by omega
  refine ⟨xs[n], ?_, List.getElem_mem hn⟩
  unfold atI ixN
  rw [if_pos h0, if_pos h1]
  show xs[((n : Nat) : Int).toNat]? = some xs[n]
  rw [Int.toNat_natCast, List.getElem?_eq_getElem hn]
end K5
set_option Elab.async false
set_option linter.all false
set_option maxRecDepth 100000
set_option maxHeartbeats 4000000
/-! A word is said; a message. -/
namespace K5
open PySem L2 PySem.Spec PyProof.Rows
local macro_rules | `(tactic| walk_at "DP") => `(tactic| first | with_reducible assumption | with_reducible exact Dp.int _ | with_reducible exact Dp.str _ | with_reducible exact Dp.bl _ | with_reducible exact Dp.non | with_reducible exact dp_up (by assumption) (by assumption))
local macro_rules | `(tactic| walk_at "SH") => `(tactic| first | with_reducible assumption | rfl)
local macro_rules | `(tactic| walk_at "RD") => `(tactic| first | with_reducible assumption | exact rd_addI | exact rd_I0 fun _ => .int _ | exact rd_I0 fun _ => .bl _ | exact rd_ixL (by with_reducible assumption) | exact rd_ixT (by with_reducible assumption) | exact rd_ixS (by with_reducible assumption) (by with_reducible assumption) | exact rd_eqD (by walk_at "SH") (by walk_at "SH") | exact rd_neD (by walk_at "SH") (by walk_at "SH") | exact rd_inS | exact rd_notN | exact rd_isN | exact rd_addL (by with_reducible assumption) | exact rd_addT (by with_reducible assumption) | exact rd_addS (by with_reducible assumption))
local macro_rules | `(tactic| walk_at "OV") => `(tactic| first | with_reducible exact ov_no | ((with_reducible apply ov_some); walk_at "EV"))
local macro_rules | `(tactic| walk_at "AV") => `(tactic| first | with_reducible assumption | with_reducible exact av_nil | ((with_reducible apply av_cons); walk_at "EV"; walk_at "AV"))
local macro_rules | `(tactic| walk_at "RC") => `(tactic| first | with_reducible assumption | exact rc_len (by (first | with_reducible assumption | trivial)) | exact rc_tupL | exact rc_tupT | exact rc_lstL | exact rc_lstT | exact rc_all | exact rc_sum | exact rc_min2 | exact rc_min3)
local macro_rules | `(tactic| walk_at "KIT") => `(tactic| first | with_reducible exact kit_int _ | with_reducible exact kit_bool _ | with_reducible exact kit_str _ | with_reducible exact kit_tuple _)
local macro_rules | `(tactic| walk_at "EV") => `(tactic| first | with_reducible assumption | with_reducible exact ev_int | with_reducible exact ev_str | with_reducible exact ev_bl | with_reducible exact ev_non | ((with_reducible apply ev_var); exact sl_mk rfl (by walk_at "DP")) | ((with_reducible apply ev_op); walk_at "EV"; walk_at "EV"; walk_at "RD") | ((with_reducible apply ev_neg); walk_at "EV") | ((with_reducible apply ev_tup); walk_at "AV"; (first | (with_reducible assumption) | decide)) | ((with_reducible apply ev_lst); walk_at "AV"; (first | (with_reducible assumption) | decide)) | ((with_reducible apply ev_call); walk_at "AV"; with_reducible assumption) | ((with_reducible apply ev_isi2); exact rfl; walk_at "EV"; walk_at "KIT") | ((with_reducible apply ev_cb); walk_at "AV"; walk_at "RC") | ((with_reducible apply ev_chain); walk_at "EV"; walk_at "EV"; walk_at "RD"; intro _; walk_at "EV"; intro _; walk_at "RD") | ((with_reducible apply ev_andV); walk_at "EV"; intro _; walk_at "EV") | ((with_reducible apply ev_orV); walk_at "EV"; intro _; walk_at "EV") | ((with_reducible apply ev_notV); walk_at "EV") | ((with_reducible apply ev_sl2); exact rfl; walk_at "EV"; walk_at "OV"; walk_at "OV"; walk_at "SLD") | ((with_reducible apply ev_rev2); exact rfl; walk_at "EV"))
local macro_rules | `(tactic| walk_at "SLD") => `(tactic| first | with_reducible exact SlD.l | with_reducible exact SlD.t | with_reducible exact SlD.s (by with_reducible assumption))
local macro_rules | `(tactic| walk_at "TV") => `(tactic| first | with_reducible assumption | ((with_reducible apply tv_and); walk_at "TV"; intro _; walk_at "TV") | ((with_reducible apply tv_or); walk_at "TV"; intro _; walk_at "TV") | ((with_reducible apply tv_not); walk_at "TV") | ((with_reducible apply tv_B); walk_at "EV") | ((with_reducible apply tv_T); walk_at "EV"))
local macro_rules | `(tactic| walk_at "NX") => `(tactic| ((try dsimp only); (try with_reducible apply s_next); (try dsimp only); (try with_reducible apply s_seq)))

theorem ret_op {r : R2} {ta tb : TE} {De : Ends} {s : L2.St} {H : Hp} (h : ta s H fun x H1 => tb s H1 fun y H2 => r x y H2 De.rt) : tRet (tOp r ta tb) De s H := h
theorem s_yes {s : L2.St} {H : Hp} {f g : Hp → Prop} (h : f H) : tYes s H (fun b H3 => if b = true then f H3 else g H3) := by
  show (if true = true then f H else g H)
  rw [if_pos rfl]
  exact h
section
variable {P : Program} {w : World} {K : PySem.W.Frag} {mg : Str → Option Value} {base : Heap}
abbrev s_L_say : Stmt := topS 52
abbrev N_L_say : List Str := ["_law_state", "_law_signs", "_law_j"]
theorem sc_L_say : FnScope N_L_say ["_law_state"] (defScope s_L_say) := ⟨rfl, rfl, rfl, by decide +kernel, rfl, by decide +kernel, by decide +kernel⟩
def spSay (K : PySem.W.Frag) : Sp := fun vs H Q _ => ∃ (a : Addr) (t : Int), vs = [.ref a] ∧ StA H a t ∧ t ≤ 800000 ∧ ∀ z H', nameS z = true → But a H H' → StA H' a (t + 100) → Q (.str z) H'
theorem alph_len : alph.cps.toList.length = 26 := by rw [alph_l]; rfl
theorem c_L_say (T : Txt w K mg) (d : DefAt K mg "_law_say" s_L_say) (G_L_digit : KCal P w K mg base CX0 2 "_law_digit" ["_law_state", "_law_many"] (spDigit K)) : KCal P w K mg base CX0 3 "_law_say" ["_law_state"] (spSay K) := by
  refine d.cal (fun _ _ _ _ _ _ us hl => match us, hl with | [_], _ => rfl) fun f fd F => F.ok sc_L_say (fun vs H Q E h => by obtain ⟨_, _, rfl, _⟩ := h; rfl) (fun cdv A outer s H vs Q E hr h => ?_)
  refine ⟨_, (pss_cons (ps_setLc (i := 1) (own := [("_law_j", 2)]) rfl sc_L_say.nd rfl rfl (sw_true rfl rfl rfl (by decide +kernel)) (pi_range1 (by rfl) T.n_range (pa_cons (pe_op opAddU pe_int (pc0 G_L_digit hr (by decide) (by rfl) (pa_cons (pv 0) (pa_cons pe_int pa_nil)))) pa_nil)) (blkOk_by (N := N_L_say) (sc := defScope s_L_say) (by decide +kernel)) (fun _ _ _ _ _ => (pg_name (i := 2) sc_L_say.nd rfl (Or.inl rfl))) (fun _ _ _ _ _ => pts_nil) (fun _ _ _ _ _ => (pe_ix (show IxR _ (rIx K) from ix_seq) pe_str (pc0 G_L_digit hr (by decide) (by rfl) (pa_cons (pv 0) (pa_cons pe_int pa_nil))) (fun _ _ => rfl))))
  (pss_one (ps_ret (pe_ix ix_seq (pe_lst (pa_cons (pe_join pe_str (pv 1)) (pa_cons pe_str (pa_cons pe_str (pa_cons pe_str (pa_cons pe_str (pa_cons pe_str (pa_cons pe_str (pa_cons pe_str (pa_cons pe_str (pa_cons pe_str pa_nil))))))))))) (pc0 G_L_digit hr (by decide) (by rfl) (pa_cons (pv 0) (pa_cons pe_int pa_nil))) (fun _ _ => rfl))))), ?_⟩
  obtain ⟨a, t, rfl, st, ht, k⟩ := h
  walk_at "NX"
  refine ev_dig (K := K) (i := 0) (a := a) rfl ev_int (by decide) (by decide) st (by omega) fun r0 H1 r00 r01 b1 st1 => ?_
  refine .inl ⟨1, r0, rfl, rfl, ?_⟩
  refine ⟨1 + r0, rfl, by omega, by omega, ?_⟩
  intro L hL
  have hLa : L ≠ a := st1.ne hL
  have hL0 : H L = none := but_none b1 hLa hL
  have n8 : (1 + r0).toNat ≤ 8 := by omega
  refine lc_it walk_range (fun i H3 => ∃ cs : List Nat, cs.length = i ∧ (∀ c ∈ cs, letB c = true) ∧ H3 L = some (.lst (cs.map fun c => V.str ⟨#[c]⟩)) ∧ But a H H3 ∧ StA H3 a (t + 4 + 4 * i)) ⟨[], rfl, fun c hc => absurd hc List.not_mem_nil, upd_same, but_mut b1 hL0, by simpa using st1.mut hLa⟩ (fun _ _ _ _ => trivial) (fun i x Ha Hb hi q y => ?_) fun H3 q => ?_
  · obtain ⟨cs, e1, e2, e3, e4, e5⟩ := q
    obtain ⟨rfl, rfl⟩ := y
    refine ⟨wipe1, s_yes ?_⟩
    refine ev_dig (K := K) (i := 0) (a := a) rfl ev_int (by decide) (by decide) e5 (by omega) fun r H4 r0' r1' b4 st4 => ?_
    obtain ⟨c, hc1, hc2⟩ := atI_nat (xs := alph.cps.toList) (r := r) r0' (by rw [alph_len]; exact r1')
    have hlc : letB c = true := by
      rw [← let_alph]
      exact decide_eq_true hc2
    refine .inr (.inr ⟨alph, r, c, rfl, rfl, by rw [len_cps, alph_len]; decide, hc1, ?_⟩)
    have e6 := b4 L _ hLa e3
    refine ⟨_, e6, by rw [List.length_map]; exact Nat.lt_of_lt_of_le (by omega : cs.length < 10) (by decide), cs ++ [c], by rw [List.length_append, List.length_singleton, e1], fun x hx => ?_, ?_, but_mut (e4.trans b4) hL0, ?_⟩
    · rcases List.mem_append.mp hx with hx | hx
      · exact e2 x hx
      · rw [List.mem_singleton.mp hx]; exact hlc
    · rw [upd_same, List.map_append]
      rfl
    · refine (st4.mut hLa).mono ?_
      rw [Int.natCast_add]
      omega
  · obtain ⟨cs, e1, e2, e3, e4, e5⟩ := q
    have hz1 : cs.length ≤ 8 := by omega
    have hz0 : 1 ≤ cs.length := by omega
    have ys : Dp K H3 (.ref L) (.list ((cs.map fun c => (⟨#[c]⟩ : Str)).map .str)) := by
      refine .lst (SqL.of e3) ?_
      rw [List.map_map]
      clear e1 e2 e3 hz0 hz1
      induction cs with
      | nil => exact .nil
      | cons c cs ih => exact .cons (.str _) ih
    have jn : nameS (Txt.join (Str.ofString "") (cs.map fun c => (⟨#[c]⟩ : Str))) = true := by
      have e : (Txt.join (Str.ofString "") (cs.map fun c => (⟨#[c]⟩ : Str))).cps.toList = cs := by
        rw [join0, List.map_map]
        clear e1 e2 e3 hz0 hz1 ys
        induction cs with
        | nil => rfl
        | cons c cs ih =>
          rw [List.map_cons, List.flatten_cons, ih]
          rfl
      exact name_mk (by rw [e]; exact hz0) (by rw [e]; exact hz1) (by rw [e]; exact e2)
    have jl : (((cs.map fun c => (⟨#[c]⟩ : Str)).map (·.length)).sum + (cs.map fun c => (⟨#[c]⟩ : Str)).length * (Str.ofString "").length) ≤ 16777216 := by
      have e0 : (Str.ofString "").length = 0 := by decide +kernel
      have : ((cs.map fun c => (⟨#[c]⟩ : Str)).map (·.length)).sum = cs.length := by
        clear e1 e2 e3 hz0 hz1 ys jn
        induction cs with
        | nil => rfl
        | cons c cs ih =>
          rw [List.map_cons, List.map_cons, List.sum_cons, ih, List.length_cons]
          show 1 + cs.length = cs.length + 1
          omega
      rw [this, e0]
      omega
    have hl10 : ∀ z : Str, ([PyData.str z, .str "evening", .str "meeting", .str "a", .str "b", .str "ab", .str "kept", .str "left", .str "put", .str "other"] : List D).length ≤ 100000 := fun z => by show 10 ≤ 100000; decide
    unfold gName
    try dsimp only
    refine ret_op ?_
    refine Ev.go (K := K) (c := .list [.str (Txt.join (Str.ofString "") (cs.map fun c => (⟨#[c]⟩ : Str))), .str "evening", .str "meeting", .str "a", .str "b", .str "ab", .str "kept", .str "left", .str "put", .str "other"]) (ev_lst (av_cons (ev_join ev_str (ev_var ⟨_, rfl, ys⟩) (.inl rfl) jl) (by walk_at "AV")) (hl10 _)) fun v H5 e6 dv => ?_
    refine ev_dig (K := K) (i := 0) (a := a) rfl ev_int (by decide) (by decide) (e5.same e6) (by omega) fun r H6 r0' r1' b6 st6 => ?_
    have dv6 := ((e5.same e6).pr (K := K) b6).dp dv
    obtain ⟨p, xs, rfl, sq, dxs⟩ := dp_lst dv6
    obtain ⟨x, hx1, hx2⟩ := atI_nat (xs := xs) (r := r) r0' (by rw [dps_len dxs]; exact r1')
    refine .inl ⟨p, xs, r, x, rfl, rfl, sq, hx1, ?_⟩
    obtain ⟨dx, hd1, hd2⟩ := dps_mem dxs hx2
    have fin : ∀ z, dx = .str z → nameS z = true → Q x H6 := fun z hz hn => by
      subst hz
      obtain rfl := dp_str hd2
      exact k z H6 hn (e4.trans ((But.of e6).trans b6)) (st6.mono (by omega))
    simp only [List.mem_cons, List.not_mem_nil, or_false] at hd1
    rcases hd1 with h | h | h | h | h | h | h | h | h | h
    · exact fin _ h jn
    · exact fin _ h (by decide +kernel)
    · exact fin _ h (by decide +kernel)
    · exact fin _ h (by decide +kernel)
    · exact fin _ h (by decide +kernel)
    · exact fin _ h (by decide +kernel)
    · exact fin _ h (by decide +kernel)
    · exact fin _ h (by decide +kernel)
    · exact fin _ h (by decide +kernel)
    · exact fin _ h (by decide +kernel)
end
end K5
set_option Elab.async false
set_option linter.all false
set_option maxRecDepth 100000
set_option maxHeartbeats 4000000
/-! A message near another. -/
namespace K5
open PySem L2 PySem.Spec PyProof.Rows
local macro_rules | `(tactic| walk_at "DP") => `(tactic| first | with_reducible assumption | with_reducible exact Dp.int _ | with_reducible exact Dp.str _ | with_reducible exact Dp.bl _ | with_reducible exact Dp.non | with_reducible exact dp_up (by assumption) (by assumption))
local macro_rules | `(tactic| walk_at "SH") => `(tactic| first | with_reducible assumption | rfl)
local macro_rules | `(tactic| walk_at "RD") => `(tactic| first | with_reducible assumption | exact rd_addI | exact rd_I0 fun _ => .int _ | exact rd_I0 fun _ => .bl _ | exact rd_ixL (by with_reducible assumption) | exact rd_ixT (by with_reducible assumption) | exact rd_ixS (by with_reducible assumption) (by with_reducible assumption) | exact rd_eqD (by walk_at "SH") (by walk_at "SH") | exact rd_neD (by walk_at "SH") (by walk_at "SH") | exact rd_inS | exact rd_notN | exact rd_isN | exact rd_addL (by with_reducible assumption) | exact rd_addT (by with_reducible assumption) | exact rd_addS (by with_reducible assumption))
local macro_rules | `(tactic| walk_at "OV") => `(tactic| first | with_reducible exact ov_no | ((with_reducible apply ov_some); walk_at "EV"))
local macro_rules | `(tactic| walk_at "AV") => `(tactic| first | with_reducible assumption | with_reducible exact av_nil | ((with_reducible apply av_cons); walk_at "EV"; walk_at "AV"))
local macro_rules | `(tactic| walk_at "RC") => `(tactic| first | with_reducible assumption | exact rc_len (by (first | with_reducible assumption | trivial)) | exact rc_tupL | exact rc_tupT | exact rc_lstL | exact rc_lstT | exact rc_all | exact rc_sum | exact rc_min2 | exact rc_min3)
local macro_rules | `(tactic| walk_at "KIT") => `(tactic| first | with_reducible exact kit_int _ | with_reducible exact kit_bool _ | with_reducible exact kit_str _ | with_reducible exact kit_tuple _)
local macro_rules | `(tactic| walk_at "EV") => `(tactic| first | with_reducible assumption | with_reducible exact ev_int | with_reducible exact ev_str | with_reducible exact ev_bl | with_reducible exact ev_non | ((with_reducible apply ev_var); exact sl_mk rfl (by walk_at "DP")) | ((with_reducible apply ev_op); walk_at "EV"; walk_at "EV"; walk_at "RD") | ((with_reducible apply ev_neg); walk_at "EV") | ((with_reducible apply ev_tup); walk_at "AV"; (first | (with_reducible assumption) | decide)) | ((with_reducible apply ev_lst); walk_at "AV"; (first | (with_reducible assumption) | decide)) | ((with_reducible apply ev_call); walk_at "AV"; with_reducible assumption) | ((with_reducible apply ev_isi2); exact rfl; walk_at "EV"; walk_at "KIT") | ((with_reducible apply ev_cb); walk_at "AV"; walk_at "RC") | ((with_reducible apply ev_chain); walk_at "EV"; walk_at "EV"; walk_at "RD"; intro _; walk_at "EV"; intro _; walk_at "RD") | ((with_reducible apply ev_andV); walk_at "EV"; intro _; walk_at "EV") | ((with_reducible apply ev_orV); walk_at "EV"; intro _; walk_at "EV") | ((with_reducible apply ev_notV); walk_at "EV") | ((with_reducible apply ev_sl2); exact rfl; walk_at "EV"; walk_at "OV"; walk_at "OV"; walk_at "SLD") | ((with_reducible apply ev_rev2); exact rfl; walk_at "EV"))
local macro_rules | `(tactic| walk_at "SLD") => `(tactic| first | with_reducible exact SlD.l | with_reducible exact SlD.t | with_reducible exact SlD.s (by with_reducible assumption))
local macro_rules | `(tactic| walk_at "TV") => `(tactic| first | with_reducible assumption | ((with_reducible apply tv_and); walk_at "TV"; intro _; walk_at "TV") | ((with_reducible apply tv_or); walk_at "TV"; intro _; walk_at "TV") | ((with_reducible apply tv_not); walk_at "TV") | ((with_reducible apply tv_B); walk_at "EV") | ((with_reducible apply tv_T); walk_at "EV"))
local macro_rules | `(tactic| walk_at "NX") => `(tactic| ((try dsimp only); (try with_reducible apply s_next); (try dsimp only); (try with_reducible apply s_seq)))

theorem evn_cat {K : PySem.W.Frag} {s : L2.St} {H : Hp} {ta tb : TE} {xs ys : List D} (ha : Ev K ta s H (.list xs)) (hb : Ev K tb s H (.list ys)) (hl : xs.length + ys.length ≤ 100000) {r : R2} (hr : r = rAddU K) {Q : VK}
    (q : ∀ p us H2, Same H H2 → H p = none → H2 p = some (.lst us) → DpAll K H2 us (xs ++ ys) → Q (.ref p) H2) : tOp r ta tb s H Q := by
  subst hr
  refine ha H (Pr.refl H) _ fun x H1 e1 dx => hb H1 (.of e1) _ fun y H2 e2 dy => .inr (.inr (.inr (.inl ?_)))
  obtain ⟨a, us, rfl, h1, r1⟩ := dp_lst (dp_same e2 dx)
  obtain ⟨b, vs, rfl, h2, r2⟩ := dp_lst dy
  exact ⟨a, b, us, vs, rfl, rfl, h1, h2, by rw [dps_len r1, dps_len r2]; exact Nat.le_trans hl (by decide), fun p hp => q p _ _ ((e1.trans e2).trans (Same.new hp)) (none_of (e1.trans e2) hp) upd_same (dps_same (Same.new hp) (dps_app r1 r2))⟩
theorem op_go {r : R2} {ta tb : TE} {s : L2.St} {H : Hp} {Q : VK} (h : ta s H fun x H1 => tb s H1 fun y H2 => r x y H2 Q) : tOp r ta tb s H Q := h
theorem lst1_go {ta : TE} {s : L2.St} {H : Hp} {Q : VK} (h : ta s H fun x H1 => [x].length ≤ sizeLine ∧ ∀ p, H1 p = none → Q (.ref p) (upd H1 p (.lst [x]))) : tLst (tCons ta tNil) s H Q := h
theorem ret_te {te : TE} {De : Ends} {s : L2.St} {H : Hp} (h : te s H De.rt) : tRet te De s H := h
theorem nm_app {a b : Str} (h1 : 1 ≤ a.cps.toList.length + b.cps.toList.length) (h8 : a.cps.toList.length + b.cps.toList.length ≤ 8) (ha : ∀ c ∈ a.cps.toList, letB c = true) (hb : ∀ c ∈ b.cps.toList, letB c = true) : nameS (a ++ b) = true :=
  name_mk (by rw [app_cps, List.length_append]; exact h1) (by rw [app_cps, List.length_append]; exact h8) fun c hc => by
    rw [app_cps] at hc
    rcases List.mem_append.mp hc with hc | hc
    · exact ha c hc
    · exact hb c hc
theorem dps_strM {K : PySem.W.Frag} {H : Hp} : ∀ {ws : List Str}, DpAll K H (ws.map V.str) (ws.map .str)
  | [] => .nil
  | _ :: _ => .cons (.str _) dps_strM
theorem okW_three {ws : List Str} {zs : List Str} {i j : Nat} (h : okW ws) (hz : ∀ z ∈ zs, nameS z = true) (hl : (ws.take i).length + zs.length + (ws.drop j).length ≤ 6) : okW (ws.take i ++ zs ++ ws.drop j) := by
  refine ⟨by rw [List.length_append, List.length_append]; exact hl, fun w hw => ?_⟩
  rcases List.mem_append.mp hw with hw | hw
  · rcases List.mem_append.mp hw with hw | hw
    · exact h.2 w (List.mem_of_mem_take hw)
    · exact hz w hw
  · exact h.2 w (List.mem_of_mem_drop hw)
section
variable {P : Program} {w : World} {K : PySem.W.Frag} {mg : Str → Option Value} {base : Heap}
abbrev s_L_near : Stmt := topS 53
abbrev N_L_near : List Str := ["_law_state", "_law_words", "_law_spot", "_law_word", "_law_way", "_law_both", "_law_at"]
theorem sc_L_near : FnScope N_L_near ["_law_state", "_law_words", "_law_spot"] (defScope s_L_near) := ⟨rfl, rfl, rfl, by decide +kernel, rfl, by decide +kernel, by decide +kernel⟩
def spNear (K : PySem.W.Frag) : Sp := fun vs H Q _ => ∃ (a l : Addr) (t : Int) (ws : List Str) (i : Nat), vs = [.ref a, .ref l, .int (i : Nat)] ∧ StA H a t ∧ t ≤ 800000 ∧ H l = some (.lst (ws.map V.str)) ∧ okW ws ∧ i < ws.length ∧
  ∀ p ws' H', okW ws' → 1 ≤ ws'.length → But a H H' → StA H' a (t + 100) → H p = none → H' p = some (.lst (ws'.map V.str)) → Q (.ref p) H'
theorem c_L_near (T : Txt w K mg) (d : DefAt K mg "_law_near" s_L_near) (G_L_digit : KCal P w K mg base CX0 2 "_law_digit" ["_law_state", "_law_many"] (spDigit K)) : KCal P w K mg base CX0 3 "_law_near" ["_law_state", "_law_words", "_law_spot"] (spNear K) := by
  refine d.cal (fun _ _ _ _ _ _ us hl => match us, hl with | [_, _, _], _ => rfl) fun f fd F => F.ok sc_L_near (fun vs H Q E h => by obtain ⟨_, _, _, _, _, rfl, _⟩ := h; rfl) (fun cdv A outer s H vs Q E hr h => ?_)
  have hu := hr.units
  refine ⟨_, (pss_cons (ps_par (i := 3) (j := 4) rfl sc_L_near.nd rfl rfl (by decide) rfl rfl (pa_cons (pe_ix ix_seq (pv 1) (pv 2) (fun _ _ => rfl)) (pa_cons (pc0 G_L_digit hr (by decide) (by rfl) (pa_cons (pv 0) (pa_cons pe_int pa_nil))) pa_nil)) (by rfl))
  (pss_cons (ps_par (i := 5) (j := 6) rfl sc_L_near.nd rfl rfl (by decide) rfl rfl (pa_cons (pe_op opAddU (pv 3) (pe_join pe_str (pe_slice slU (pv 1) (po_some (pe_op opAddU (pv 2) pe_int)) (po_some (pe_op opAddU (pv 2) pe_int))))) (pa_cons (pc0 G_L_digit hr (by decide) (by rfl) (pa_cons (pv 0) (pa_cons (pe_callB call_len (by rfl) T.n_len (by decide +kernel) (pa_cons (pv 3) pa_nil)) pa_nil))) pa_nil)) (by rfl))
  (pss_cons (ps_if (PW.pt (pw_and (pt_cmpR (op_eqD hu) (pv 4) pe_int (nomark _)) (pw_and1 (pt_cmpR op_lt (pe_callB call_len (by rfl) T.n_len (by decide +kernel) (pa_cons (pv 5) pa_nil)) pe_int (nomark _))))) (pss_one (ps_ret (pe_op opAddU (pe_op opAddU (pe_slice slU (pv 1) po_none (po_some (pv 2))) (pe_lst (pa_cons (pv 5) pa_nil))) (pe_slice slU (pv 1) (po_some (pe_op opAddU (pv 2) pe_int)) po_none)))) pss_nil)
  (pss_cons (ps_if (PW.pt (pw_and (pt_cmpR (op_eqD hu) (pv 4) pe_int (nomark _)) (pw_and (pt_cmpR op_gt (pe_callB call_len (by rfl) T.n_len (by decide +kernel) (pa_cons (pv 3) pa_nil)) pe_int (nomark _)) (pw_and1 (pt_cmpR opInU (pe_op op_sub (pe_callB call_len (by rfl) T.n_len (by decide +kernel) (pa_cons (pv 5) pa_nil)) (pe_callB call_len (by rfl) T.n_len (by decide +kernel) (pa_cons (pv 3) pa_nil))) (pe_tup (pa_cons pe_int (pa_cons pe_int (pa_cons pe_int (pa_cons pe_int (pa_cons pe_int (pa_cons pe_int (pa_cons pe_int pa_nil)))))))) (by rfl)))))) (pss_one (ps_ret (pe_op opAddU (pe_op opAddU (pe_slice slU (pv 1) po_none (po_some (pv 2))) (pe_lst (pa_cons (pe_slice slU (pv 3) po_none (po_some (pe_un un_neg pe_int))) (pa_cons (pe_op opAddU (pe_slice slU (pv 3) (po_some (pe_un un_neg pe_int)) po_none) (pe_ix ix_seq (pv 1) (pe_op opAddU (pv 2) pe_int) (fun _ _ => rfl))) pa_nil)))) (pe_slice slU (pv 1) (po_some (pe_op opAddU (pv 2) pe_int)) po_none)))) pss_nil)
  (pss_one (ps_ret (pe_op opAddU (pe_op opAddU (pe_slice slU (pv 1) po_none (po_some (pv 2))) (pe_lst (pa_cons (pe_op opAddU (pe_op opAddU (pe_slice slU (pv 3) po_none (po_some (pv 6))) (pe_ix ix_seq pe_str (pc0 G_L_digit hr (by decide) (by rfl) (pa_cons (pv 0) (pa_cons pe_int pa_nil))) (fun _ _ => rfl))) (pe_slice slU (pv 3) (po_some (pe_op opAddU (pv 6) pe_int)) po_none)) pa_nil))) (pe_slice slU (pv 1) (po_some (pe_op opAddU (pv 2) pe_int)) po_none)))))))), ?_⟩
  obtain ⟨a, l, t, ws, i, rfl, st, ht, hl, ok, hi, k⟩ := h
  have hla : l ≠ a := fun z => by
    obtain ⟨_, _, _, h1, _⟩ := st
    rw [z, h1] at hl
    cases hl
  have hn6 := ok.1
  have nmi := ok.nm hi
  obtain ⟨wl1, wl8, wlet⟩ := name_get nmi
  have lw : (wd ws i).length = (wd ws i).cps.toList.length := len_cps
  have dl : Dp K H (.ref l) (.list (ws.map .str)) := .lst (SqL.of hl) dps_strM
  have i2 := atI_words (ws := ws) (j := (i : Int)) (i := i) rfl hi
  walk_at "NX"
  refine Ev.go (K := K) (c := .str (wd ws i)) (by walk_at "EV") fun v1 H1 e1 d1 => ?_
  obtain rfl := dp_str d1
  refine ev_dig (K := K) (i := 0) (a := a) rfl ev_int (by decide) (by decide) (st.same e1) (by omega) fun way H2 w0 w1 b2 st2 => ⟨_, _, rfl, ?_⟩
  have b12 : But a H H2 := (But.of e1).trans b2
  have hl2 : H2 l = some (.lst (ws.map V.str)) := b12 l _ hla hl
  have dl2 : Dp K H2 (.ref l) (.list (ws.map .str)) := .lst (SqL.of hl2) dps_strM
  obtain ⟨nx, hnx⟩ : ∃ nx, nx = (ws.drop (i + 1)).take 1 := ⟨_, rfl⟩
  have enx : cutD (ws.map PyData.str) (some ((i : Int) + 1)) (some ((i : Int) + 2)) = nx.map .str := by
    have z1 : ((i : Int) + 1).toNat = i + 1 := by omega
    have z2 : ((i : Int) + 2).toNat - (i + 1) = 1 := by omega
    rw [cutD_map, cut_mid (by omega) (by omega), hnx, z1, z2]
  have nxn : ∀ z ∈ nx, nameS z = true := fun z hz => ok.2 z (List.mem_of_mem_drop (List.mem_of_mem_take (hnx ▸ hz)))
  have nxl : nx.length ≤ 1 := by rw [hnx, List.length_take]; omega
  obtain ⟨J, hJ⟩ : ∃ J, J = Txt.join (Str.ofString "") nx := ⟨_, rfl⟩
  have Jc : J.cps.toList = (nx.map fun y => y.cps.toList).flatten := by rw [hJ, join0]
  have Jl : ∀ c ∈ J.cps.toList, letB c = true := fun c hc => by
    rw [Jc] at hc
    obtain ⟨l', h1, h2⟩ := List.mem_flatten.mp hc
    obtain ⟨y, h3, rfl⟩ := List.mem_map.mp h1
    exact (name_get (nxn y h3)).2.2 c h2
  have Jlen : J.cps.toList.length ≤ 8 := by
    rw [Jc]
    match nx, nxn, nxl with
    | [], _, _ => exact Nat.zero_le _
    | [y], hn, _ => simpa using (name_get (hn y (by simp))).2.1
  have jl : ((nx.map (·.length)).sum + nx.length * (Str.ofString "").length) ≤ 16777216 := by
    have e0 : (Str.ofString "").length = 0 := by decide +kernel
    rw [e0]
    match nx, nxn, nxl with
    | [], _, _ => decide
    | [y], hn, _ =>
      have := (name_shape (hn y (by simp))).2.1
      simp
      omega
  have lb : (wd ws i).length + J.length ≤ 100000 := by rw [lw, len_cps]; omega
  have lenE : ∀ {s : L2.St} {Hc : Hp} {te : TE} {z : Str}, Ev K te s Hc (.str z) → z.length ≤ 100 → Ev K (tCB (fun xs H Q => ∃ x n, xs = [x] ∧ LenV K x H n ∧ Q (.int n) H) (tCons te tNil)) s Hc (.int (z.length : Nat)) := fun h hz => ev_cb (av_cons h av_nil) (rc_len (d := .str _) (by exact Nat.le_trans hz (by decide)))
  walk_at "NX"
  refine Ev.go (K := K) (c := .str (wd ws i ++ J)) (ev_op (by walk_at "EV") (ev_is (ev_join (ys := nx) ev_str (ev_is (d := .list (cutD (ws.map PyData.str) (some ((i : Int) + 1)) (some ((i : Int) + 2)))) (by walk_at "EV") (by rw [enx])) (.inl rfl) jl) (by rw [hJ])) (rd_addS lb)) fun v3 H3 e3 d3 => ?_
  obtain rfl := dp_str d3
  refine ev_dig (K := K) (i := 0) (a := a) (m := ((wd ws i).length : Nat)) rfl (lenE (ev_var ⟨_, rfl, .str _⟩) (by rw [lw]; omega)) (by rw [lw]; omega) (by rw [lw]; omega) (st2.same e3) (by omega) fun at_ H4 a0 a1 b4 st4 => ⟨_, _, rfl, ?_⟩
  have b14 : But a H H4 := (b12.s e3).trans b4
  have hl4 : H4 l = some (.lst (ws.map V.str)) := b14 l _ hla hl
  have dl4 : Dp K H4 (.ref l) (.list (ws.map .str)) := .lst (SqL.of hl4) dps_strM
  have fin : ∀ {ws' : List Str} {p : Addr} {us : List V} {Hx : Hp} {tx : Int}, okW ws' → 1 ≤ ws'.length → But a H Hx → StA Hx a tx → tx ≤ t + 100 → Hx p = some (.lst us) → H p = none → DpAll K Hx us (ws'.map .str) → Q (.ref p) Hx := fun o1 o2 bx sx tx hp hp0 du => by
    rw [dps_strs du] at hp
    exact k _ _ _ o1 o2 bx (sx.mono tx) hp0 hp
  have take_c : ∀ n : Nat, cutD (ws.map PyData.str) none (some ((n : Nat) : Int)) = (ws.take n).map .str := fun n => by rw [cutD_map, cut_to (by omega)]; rfl
  have drop_c : ∀ (n : Nat) (x : Int), x = n → cutD (ws.map PyData.str) (some x) none = (ws.drop n).map .str := fun n x hx => by subst hx; rw [cutD_map, cut_from (by omega)]; rfl
  have both8 : (wd ws i ++ J).length = (wd ws i).cps.toList.length + J.cps.toList.length := by rw [len_cps, app_cps, List.length_append]
  have lt1 := List.length_take (l := ws) (i := i)
  have lt2 := List.length_drop (l := ws) (i := i + 2)
  have lt3 := List.length_drop (l := ws) (i := i + 1)
  have sm2 : ∀ xs : List Str, xs.length ≤ 8 → (xs.map PyData.str).length ≤ 100 := fun xs h => by rw [List.length_map]; omega
  walk_at "NX"
  refine s_if (K := K) (b := (way == 0) && decide ((((wd ws i ++ J).length : Nat) : Int) < 9)) (tv_and (tv_is (by walk_at "TV") eqv_ints) fun _ => tv_T (ev_op (lenE (ev_var ⟨_, rfl, .str _⟩) (by rw [both8]; omega)) ev_int (rd_I0 fun _ => .bl _))) (fun hb H5 e5 => ?_) fun hb H5 e5 => ?_
  · rw [Bool.and_eq_true, decide_eq_true_eq] at hb
    have hb2 := hb.2
    rw [both8] at hb2
    have b15 := b14.s e5
    have ok' : okW (ws.take i ++ [wd ws i ++ J] ++ ws.drop (i + 2)) := okW_three ok (fun z hz => by rw [List.mem_singleton.mp hz]; exact nm_app (by omega) (by omega) wlet Jl) (by rw [lt1, lt2, List.length_singleton]; omega)
    refine ret_te (evn_cat (K := K) (xs := (ws.take i).map .str ++ [.str (wd ws i ++ J)]) (ys := (ws.drop (i + 2)).map .str) (ev_op (ev_is (d := .list (cutD (ws.map PyData.str) none (some ((i : Nat) : Int)))) (by walk_at "EV") (by rw [take_c])) (ev_lst (by walk_at "AV") (by show 1 ≤ 100000; decide)) (rd_addL (by rw [List.length_map, lt1]; show _ + 1 ≤ _; omega)))
      (ev_is (d := .list (cutD (ws.map PyData.str) (some ((i : Int) + 2)) none)) (by walk_at "EV") (by rw [drop_c (i + 2) _ (by omega)])) (by rw [List.length_append, List.length_map, List.length_map, lt1, lt2]; show _ + 1 + _ ≤ _; omega) rfl fun p us H6 e6 hp0 hp du => ?_)
    refine fin ok' (by rw [List.length_append, List.length_append, List.length_singleton]; omega) (b15.s e6) ((st4.same e5).same e6) (by omega) hp (but_none b15 (((st4.same e5)).ne hp0) hp0) ?_
    rw [List.map_append, List.map_append]
    exact du
  · have b15 := b14.s e5
    have st5 := st4.same e5
    have dl5 := dp_same e5 dl4
    walk_at "NX"
    have h7 : ([PyData.int 1, .int 2, .int 3, .int 4, .int 5, .int 6, .int 7] : List D).length ≤ 100000 := by show 7 ≤ 100000; decide
    refine s_if (K := K) (b := (way == 1) && (decide ((1 : Int) < ((wd ws i).length : Nat)) && ([1, 2, 3, 4, 5, 6, 7] : List Int).any fun y => y == (((wd ws i ++ J).length : Nat) : Int) - (((wd ws i).length : Nat) : Int)))
      (tv_and (tv_is (by walk_at "TV") eqv_ints) fun _ => tv_and (tv_T (ev_op (lenE (ev_var ⟨_, rfl, .str _⟩) (by rw [lw]; omega)) ev_int (rd_I0 fun _ => .bl _))) fun _ => tv_T (ev_op (ev_op (lenE (ev_var ⟨_, rfl, .str _⟩) (by rw [both8]; omega)) (lenE (ev_var ⟨_, rfl, .str _⟩) (by rw [lw]; omega)) (rd_I0 fun _ => .int _)) (ev_is (ev_tup (by walk_at "AV") h7) rfl) (rd_inT (ns := [1, 2, 3, 4, 5, 6, 7])))) (fun hb H6 e6 => ?_) fun hb2 H6 e6 => ?_
    · rw [Bool.and_eq_true, Bool.and_eq_true, decide_eq_true_eq] at hb
      obtain ⟨_, hw2, hin⟩ := hb
      obtain ⟨y, hy1, hy2⟩ := List.any_eq_true.mp hin
      have hy2 := eq_of_beq hy2
      have y7 : 1 ≤ y ∧ y ≤ 7 := by
        simp only [List.mem_cons, List.not_mem_nil, or_false] at hy1
        omega
      rw [both8, lw] at hy2
      have Jn : 1 ≤ J.cps.toList.length ∧ J.cps.toList.length ≤ 7 := by omega
      have hi1 : i + 1 < ws.length := by
        cases Nat.lt_or_ge (i + 1) ws.length with
        | inl h => exact h
        | inr h =>
          have e0 : nx = [] := by rw [hnx, List.drop_of_length_le h]; rfl
          rw [Jc, e0] at Jn
          simp at Jn
      have enx2 : nx = [wd ws (i + 1)] := by
        rw [hnx]
        have := wd_get hi1
        rw [List.drop_eq_getElem_cons hi1]
        rw [List.getElem?_eq_getElem hi1] at this
        rw [Option.some.inj this]
        rfl
      have Jw : (wd ws (i + 1)).cps.toList.length = J.cps.toList.length := by rw [Jc, enx2]; simp
      obtain ⟨_, _, nlet⟩ := name_get (ok.nm hi1)
      have i3 := atI_words (ws := ws) (j := (i : Int) + 1) (i := i + 1) (by omega) hi1
      have b16 := b15.s e6
      have dl6 := dp_same e6 dl5
      have hwl : (wd ws i).length ≤ 100000 := by rw [lw]; omega
      have c1 : (cutS (wd ws i) none (some (-1))).cps.toList = (wd ws i).cps.toList.take ((wd ws i).cps.toList.length - 1) := by rw [cutS_cps, cut_init wl1]
      have c2 : (cutS (wd ws i) (some (-1)) none).cps.toList = (wd ws i).cps.toList.drop ((wd ws i).cps.toList.length - 1) := by rw [cutS_cps, cut_last wl1]
      rw [lw] at hw2
      have n1 : nameS (cutS (wd ws i) none (some (-1))) = true := name_mk (by rw [c1, List.length_take]; omega) (by rw [c1, List.length_take]; omega) fun c hc => wlet c (by rw [c1] at hc; exact List.mem_of_mem_take hc)
      have l2' : (cutS (wd ws i) (some (-1)) none).cps.toList.length = 1 := by rw [c2, List.length_drop]; omega
      have n2 : nameS (cutS (wd ws i) (some (-1)) none ++ wd ws (i + 1)) = true := nm_app (by rw [l2']; omega) (by rw [l2']; omega) (fun c hc => wlet c (by rw [c2] at hc; exact List.mem_of_mem_drop hc)) nlet
      have ladd : (cutS (wd ws i) (some (-1)) none).length + (wd ws (i + 1)).length ≤ 100000 := by rw [len_cps, len_cps, l2']; omega
      have ok' : okW (ws.take i ++ [cutS (wd ws i) none (some (-1)), cutS (wd ws i) (some (-1)) none ++ wd ws (i + 1)] ++ ws.drop (i + 2)) := okW_three ok (fun z hz => by
        simp only [List.mem_cons, List.not_mem_nil, or_false] at hz
        rcases hz with rfl | rfl
        · exact n1
        · exact n2) (by rw [lt1, lt2]; show _ + 2 + _ ≤ _; omega)
      refine ret_te (evn_cat (K := K) (xs := (ws.take i).map .str ++ [.str (cutS (wd ws i) none (some (-1))), .str (cutS (wd ws i) (some (-1)) none ++ wd ws (i + 1))]) (ys := (ws.drop (i + 2)).map .str)
        (ev_op (ev_is (d := .list (cutD (ws.map PyData.str) none (some ((i : Nat) : Int)))) (by walk_at "EV") (by rw [take_c])) (ev_lst (av_cons (by walk_at "EV") (av_cons (ev_op (by walk_at "EV") (by walk_at "EV") (rd_addS ladd)) av_nil)) (by show 2 ≤ 100000; decide)) (rd_addL (by rw [List.length_map, lt1]; show _ + 2 ≤ _; omega)))
        (ev_is (d := .list (cutD (ws.map PyData.str) (some ((i : Int) + 2)) none)) (by walk_at "EV") (by rw [drop_c (i + 2) _ (by omega)])) (by rw [List.length_append, List.length_map, List.length_map, lt1, lt2]; show _ + 2 + _ ≤ _; omega) rfl fun p us H7 e7 hp0 hp du => ?_)
      refine fin ok' (by rw [List.length_append, List.length_append]; show 1 ≤ _ + 2 + _; omega) (b16.s e7) ((st5.same e6).same e7) (by omega) hp (but_none b16 ((st5.same e6).ne hp0) hp0) ?_
      rw [List.map_append, List.map_append]
      exact du
    · have b16 := b15.s e6
      have st6 := st5.same e6
      have dl6 := dp_same e6 dl5
      walk_at "NX"
      have hwl : (wd ws i).length ≤ 100000 := by rw [lw]; omega
      have at0 : at_ < ((wd ws i).cps.toList.length : Nat) := by rw [lw] at a1; exact a1
      have c1 : (cutS (wd ws i) none (some at_)).cps.toList = (wd ws i).cps.toList.take at_.toNat := by rw [cutS_cps, cut_to a0]
      have c2 : (cutS (wd ws i) (some (at_ + 1)) none).cps.toList = (wd ws i).cps.toList.drop (at_ + 1).toNat := by rw [cutS_cps, cut_from (by omega)]
      refine ret_te (op_go (op_go ?_))
      refine Ev.go (K := K) (c := .list ((ws.take i).map .str)) (ev_is (d := .list (cutD (ws.map PyData.str) none (some ((i : Nat) : Int)))) (by walk_at "EV") (by rw [take_c])) fun x H7 e7 dx => ?_
      refine lst1_go (op_go (op_go ?_))
      refine Ev.go (K := K) (c := .str (cutS (wd ws i) none (some at_))) (by walk_at "EV") fun y H8 e8 dy => ?_
      obtain rfl := dp_str dy
      refine op_go ?_
      refine Ev.go (K := K) (c := .str "abcxyz") ev_str fun y2 H9 e9 dy2 => ?_
      obtain rfl := dp_str dy2
      have e79 := e7.trans (e8.trans e9)
      refine ev_dig (K := K) (i := 0) (a := a) rfl ev_int (by decide) (by decide) (st6.same e79) (by omega) fun r H10 r0 r1 b10 st10 => ?_
      have al6 : ("abcxyz" : Str).cps.toList = [97, 98, 99, 120, 121, 122] := by decide +kernel
      obtain ⟨c, hc1, hc2⟩ := atI_nat (xs := ("abcxyz" : Str).cps.toList) (r := r) r0 (by rw [al6]; exact r1)
      have hlc : letB c = true := by
        rw [al6] at hc2
        simp only [List.mem_cons, List.not_mem_nil, or_false] at hc2
        rcases hc2 with rfl | rfl | rfl | rfl | rfl | rfl <;> decide
      refine .inr (.inr ⟨_, r, c, rfl, rfl, by rw [len_cps, al6]; decide, hc1, ?_⟩)
      have lk1 : (cutS (wd ws i) none (some at_)).cps.toList.length = at_.toNat := by rw [c1, List.length_take]; omega
      have lk2 : (cutS (wd ws i) (some (at_ + 1)) none).cps.toList.length = (wd ws i).cps.toList.length - (at_ + 1).toNat := by rw [c2, List.length_drop]
      refine .inr (.inr (.inl ⟨_, _, rfl, rfl, by rw [len_cps, lk1]; show _ + 1 ≤ sizeLine; exact Nat.le_trans (by omega : _ ≤ 100) (by decide), ?_⟩))
      refine Ev.go (K := K) (c := .str (cutS (wd ws i) (some (at_ + 1)) none)) (by walk_at "EV") fun y3 H11 e11 dy3 => ?_
      obtain rfl := dp_str dy3
      have la : (cutS (wd ws i) none (some at_) ++ (⟨#[c]⟩ : Str)).cps.toList = (cutS (wd ws i) none (some at_)).cps.toList ++ [c] := by rw [app_cps]
      refine .inr (.inr (.inl ⟨_, _, rfl, rfl, by rw [len_cps, len_cps, la, List.length_append, lk1, lk2, List.length_singleton]; exact Nat.le_trans (by omega : _ ≤ 100) (by decide), ?_⟩))
      -- the middle word
      have nz : nameS ((cutS (wd ws i) none (some at_) ++ (⟨#[c]⟩ : Str)) ++ cutS (wd ws i) (some (at_ + 1)) none) = true := nm_app (by rw [la, List.length_append, lk1, lk2, List.length_singleton]; omega) (by rw [la, List.length_append, lk1, lk2, List.length_singleton]; omega)
        (fun c' hc' => by
          rw [la] at hc'
          rcases List.mem_append.mp hc' with h | h
          · rw [c1] at h; exact wlet c' (List.mem_of_mem_take h)
          · rw [List.mem_singleton.mp h]; exact hlc)
        fun c' hc' => by rw [c2] at hc'; exact wlet c' (List.mem_of_mem_drop hc')
      refine ⟨by show 1 ≤ sizeLine; decide, fun p1 hp1 => ?_⟩
      have prx := (st6.same e79).pr (K := K) b10
      have dx11 := dp_same e11 (prx.dp (dp_same (e8.trans e9) dx))
      obtain ⟨q1, us1, rfl, sq1, dus1⟩ := dp_lst (dp_same (Same.new (o := .lst [V.str ((cutS (wd ws i) none (some at_) ++ (⟨#[c]⟩ : Str)) ++ cutS (wd ws i) (some (at_ + 1)) none)]) hp1) dx11)
      refine .inr (.inr (.inr (.inl ⟨q1, p1, us1, _, rfl, rfl, sq1, SqL.of upd_same, by rw [dps_len dus1, List.length_map, lt1]; show _ + 1 ≤ sizeLine; exact Nat.le_trans (by omega : _ ≤ 100) (by decide), fun p2 hp2 => ?_⟩)))
      have b111 : But a H H11 := ((b16.s e79).trans b10).s e11
      have st11 := st10.same e11
      have b12 := (b111.s (Same.new (o := .lst [V.str ((cutS (wd ws i) none (some at_) ++ (⟨#[c]⟩ : Str)) ++ cutS (wd ws i) (some (at_ + 1)) none)]) hp1)).s (Same.new (o := .lst (us1 ++ [V.str ((cutS (wd ws i) none (some at_) ++ (⟨#[c]⟩ : Str)) ++ cutS (wd ws i) (some (at_ + 1)) none)])) hp2)
      have st12 := (st11.same (Same.new (o := .lst [V.str ((cutS (wd ws i) none (some at_) ++ (⟨#[c]⟩ : Str)) ++ cutS (wd ws i) (some (at_ + 1)) none)]) hp1)).same (Same.new (o := .lst (us1 ++ [V.str ((cutS (wd ws i) none (some at_) ++ (⟨#[c]⟩ : Str)) ++ cutS (wd ws i) (some (at_ + 1)) none)])) hp2)
      obtain ⟨Hz, hHz⟩ : ∃ Hz, Hz = upd (upd H11 p1 (.lst [V.str ((cutS (wd ws i) none (some at_) ++ (⟨#[c]⟩ : Str)) ++ cutS (wd ws i) (some (at_ + 1)) none)])) p2 (.lst (us1 ++ [V.str ((cutS (wd ws i) none (some at_) ++ (⟨#[c]⟩ : Str)) ++ cutS (wd ws i) (some (at_ + 1)) none)])) := ⟨_, rfl⟩
      have hz2 : Hz p2 = some (.lst (us1 ++ [V.str ((cutS (wd ws i) none (some at_) ++ (⟨#[c]⟩ : Str)) ++ cutS (wd ws i) (some (at_ + 1)) none)])) := by rw [hHz]; exact upd_same
      rw [← hHz] at b12 st12 ⊢
      have hlz : Hz l = some (.lst (ws.map V.str)) := b12 l _ hla hl
      have dlz : Dp K Hz (.ref l) (.list (ws.map .str)) := .lst (SqL.of hlz) dps_strM
      have usz : us1 = (ws.take i).map V.str := dps_strs dus1
      dsimp only
      refine Ev.go (K := K) (c := .list ((ws.drop (i + 1)).map .str)) (ev_is (d := .list (cutD (ws.map PyData.str) (some ((i : Int) + 1)) none)) (by walk_at "EV") (by rw [drop_c (i + 1) _ (by omega)])) fun x3 H13 e13 dx3 => ?_
      obtain ⟨q3, us3, rfl, sq3, dus3⟩ := dp_lst dx3
      refine .inr (.inr (.inr (.inl ⟨p2, q3, _, us3, rfl, rfl, SqL.of (e13 _ _ hz2), sq3, by rw [List.length_append, dps_len dus1, dps_len dus3, List.length_map, List.length_map, lt1, lt3]; show _ + 1 + _ ≤ sizeLine; exact Nat.le_trans (by omega : _ ≤ 100) (by decide), fun p3 hp3 => ?_⟩)))
      have b13 := b12.s e13
      have st13 := st12.same e13
      refine fin (ws' := ws.take i ++ [(cutS (wd ws i) none (some at_) ++ (⟨#[c]⟩ : Str)) ++ cutS (wd ws i) (some (at_ + 1)) none] ++ ws.drop (i + 1)) (okW_three ok (fun z hz => by rw [List.mem_singleton.mp hz]; exact nz) (by rw [lt1, lt3]; show _ + 1 + _ ≤ _; omega)) (by rw [List.length_append, List.length_append]; show 1 ≤ _ + 1 + _; omega)
        (b13.s (Same.new hp3)) (st13.same (Same.new hp3)) (by omega) upd_same (but_none b13 (st13.ne hp3) hp3) ?_
      rw [usz, dps_strs dus3, List.map_append, List.map_append]
      exact dps_app (dps_app dps_strM (.cons (.str _) .nil)) dps_strM
end
end K5
set_option Elab.async false
set_option linter.all false
set_option maxRecDepth 100000
set_option maxHeartbeats 4000000
/-! A message is drawn. -/
namespace K5
open PySem L2 PySem.Spec PyProof.Rows
local macro_rules | `(tactic| walk_at "DP") => `(tactic| first | with_reducible assumption | with_reducible exact Dp.int _ | with_reducible exact Dp.str _ | with_reducible exact Dp.bl _ | with_reducible exact Dp.non | with_reducible exact dp_up (by assumption) (by assumption))
local macro_rules | `(tactic| walk_at "SH") => `(tactic| first | with_reducible assumption | rfl)
local macro_rules | `(tactic| walk_at "RD") => `(tactic| first | with_reducible assumption | exact rd_addI | exact rd_I0 fun _ => .int _ | exact rd_I0 fun _ => .bl _ | exact rd_ixL (by with_reducible assumption) | exact rd_ixT (by with_reducible assumption) | exact rd_ixS (by with_reducible assumption) (by with_reducible assumption) | exact rd_eqD (by walk_at "SH") (by walk_at "SH") | exact rd_neD (by walk_at "SH") (by walk_at "SH") | exact rd_inS | exact rd_notN | exact rd_isN | exact rd_addL (by with_reducible assumption) | exact rd_addT (by with_reducible assumption) | exact rd_addS (by with_reducible assumption))
local macro_rules | `(tactic| walk_at "OV") => `(tactic| first | with_reducible exact ov_no | ((with_reducible apply ov_some); walk_at "EV"))
local macro_rules | `(tactic| walk_at "AV") => `(tactic| first | with_reducible assumption | with_reducible exact av_nil | ((with_reducible apply av_cons); walk_at "EV"; walk_at "AV"))
local macro_rules | `(tactic| walk_at "RC") => `(tactic| first | with_reducible assumption | exact rc_len (by (first | with_reducible assumption | trivial)) | exact rc_tupL | exact rc_tupT | exact rc_lstL | exact rc_lstT | exact rc_all | exact rc_sum | exact rc_min2 | exact rc_min3)
local macro_rules | `(tactic| walk_at "KIT") => `(tactic| first | with_reducible exact kit_int _ | with_reducible exact kit_bool _ | with_reducible exact kit_str _ | with_reducible exact kit_tuple _)
local macro_rules | `(tactic| walk_at "EV") => `(tactic| first | with_reducible assumption | with_reducible exact ev_int | with_reducible exact ev_str | with_reducible exact ev_bl | with_reducible exact ev_non | ((with_reducible apply ev_var); exact sl_mk rfl (by walk_at "DP")) | ((with_reducible apply ev_op); walk_at "EV"; walk_at "EV"; walk_at "RD") | ((with_reducible apply ev_neg); walk_at "EV") | ((with_reducible apply ev_tup); walk_at "AV"; (first | (with_reducible assumption) | decide)) | ((with_reducible apply ev_lst); walk_at "AV"; (first | (with_reducible assumption) | decide)) | ((with_reducible apply ev_call); walk_at "AV"; with_reducible assumption) | ((with_reducible apply ev_isi2); exact rfl; walk_at "EV"; walk_at "KIT") | ((with_reducible apply ev_cb); walk_at "AV"; walk_at "RC") | ((with_reducible apply ev_chain); walk_at "EV"; walk_at "EV"; walk_at "RD"; intro _; walk_at "EV"; intro _; walk_at "RD") | ((with_reducible apply ev_andV); walk_at "EV"; intro _; walk_at "EV") | ((with_reducible apply ev_orV); walk_at "EV"; intro _; walk_at "EV") | ((with_reducible apply ev_notV); walk_at "EV") | ((with_reducible apply ev_sl2); exact rfl; walk_at "EV"; walk_at "OV"; walk_at "OV"; walk_at "SLD") | ((with_reducible apply ev_rev2); exact rfl; walk_at "EV"))
local macro_rules | `(tactic| walk_at "SLD") => `(tactic| first | with_reducible exact SlD.l | with_reducible exact SlD.t | with_reducible exact SlD.s (by with_reducible assumption))
local macro_rules | `(tactic| walk_at "TV") => `(tactic| first | with_reducible assumption | ((with_reducible apply tv_and); walk_at "TV"; intro _; walk_at "TV") | ((with_reducible apply tv_or); walk_at "TV"; intro _; walk_at "TV") | ((with_reducible apply tv_not); walk_at "TV") | ((with_reducible apply tv_B); walk_at "EV") | ((with_reducible apply tv_T); walk_at "EV"))
local macro_rules | `(tactic| walk_at "NX") => `(tactic| ((try dsimp only); (try with_reducible apply s_next); (try dsimp only); (try with_reducible apply s_seq)))

theorem gname_go {i : Nat} {v : V} {s : L2.St} {H : Hp} {Q : L2.St → Hp → Prop} (h : Q (s.set i (some v)) H) : gName i v s H Q := h
theorem sI_of {n : Nat} {i : Nat} (h : i < n) : seqIndex? ((i : Nat) : Int) n = some i := by
  have e : ixN n ((i : Nat) : Int) = some i := by
    unfold ixN
    rw [if_pos (by omega), if_pos (by omega), Int.toNat_natCast]
  exact (ixN_seq e).1
theorem ix_of {n : Nat} {i : Nat} (h : i < n) : ixN n ((i : Nat) : Int) = some i := by
  unfold ixN
  rw [if_pos (by omega), if_pos (by omega), Int.toNat_natCast]
/-- for j in range(digit(m)) -/
theorem for_dig {K : PySem.W.Frag} {s : L2.St} {H : Hp} {i : Nat} {a : Addr} {m t : Int} {tm : TE} {g : TG} {tb : TS} {De : Ends} (h0 : s[i]? = some (some (.ref a))) (hm : Ev K tm s H (.int m)) (m0 : 1 ≤ m) (m1 : m < 1000000) (st : StA H a t) (ht : t ≤ 900000)
    (h : ∀ r H1, 0 ≤ r → r < m → But a H H1 → StA H1 a (t + 4) → ∃ Pv : Nat → L2.St → Hp → Prop, Pv 0 s H1 ∧ (∀ i σ Hc, i < r.toNat → Pv i σ Hc → g (.int (0 + (i : Nat))) σ Hc fun σ2 H2 => tb { De with nx := Pv (i + 1), ct := Pv (i + 1), bk := De.nx } σ2 H2) ∧ ∀ σ Hc, Pv r.toNat σ Hc → De.nx σ Hc) :
    tFor (iRng1 (tCons (tCall (spDigit K) [] E0 (tCons (tVar i) (tCons tm tNil))) tNil)) g tb De s H :=
  ev_dig h0 hm m0 m1 st ht fun r H1 r0 r1 b1 st1 => ⟨r, rfl, by omega, by omega, by
    obtain ⟨Pv, p0, ps, pd⟩ := h r H1 r0 r1 b1 st1
    exact for_it (D := De) walk_range Pv p0 (fun _ _ _ _ _ => trivial) (fun i x σ Ha Hb hi q y => by
      obtain ⟨rfl, rfl⟩ := y
      exact ps i σ _ hi q) pd⟩
section
variable {P : Program} {w : World} {K : PySem.W.Frag} {mg : Str → Option Value} {base : Heap}
abbrev s_L_message : Stmt := topS 54
abbrev N_L_message : List Str := ["_law_state", "_law_first", "_law_most", "_law_words", "_law_j", "_law_word", "_law_spot", "_law_way"]
theorem sc_L_message : FnScope N_L_message ["_law_state", "_law_first", "_law_most"] (defScope s_L_message) := ⟨rfl, rfl, rfl, by decide +kernel, rfl, by decide +kernel, by decide +kernel⟩
def spMessage (K : PySem.W.Frag) : Sp := fun vs H Q _ => ∃ (a : Addr) (x : V) (t : Int) (ws : List Str), vs = [.ref a, x, .int 6] ∧ (Dp K H x (.list (ws.map .str)) ∨ Dp K H x (.tuple (ws.map .str))) ∧ StA H a t ∧ t ≤ 700000 ∧ okW ws ∧ 1 ≤ ws.length ∧
  ∀ u ws' H', okW ws' → 1 ≤ ws'.length → But a H H' → StA H' a (t + 2000) → Dp K H' u (wordsD ws') → Q u H'
theorem c_L_message (T : Txt w K mg) (d : DefAt K mg "_law_message" s_L_message) (G_L_digit : KCal P w K mg base CX0 2 "_law_digit" ["_law_state", "_law_many"] (spDigit K)) (G_L_say : KCal P w K mg base CX0 3 "_law_say" ["_law_state"] (spSay K))
    (G_L_near : KCal P w K mg base CX0 3 "_law_near" ["_law_state", "_law_words", "_law_spot"] (spNear K)) : KCal P w K mg base CX0 4 "_law_message" ["_law_state", "_law_first", "_law_most"] (spMessage K) := by
  refine d.cal (fun _ _ _ _ _ _ us hl => match us, hl with | [_, _, _], _ => rfl) fun f fd F => F.ok sc_L_message (fun vs H Q E h => by obtain ⟨_, _, _, _, rfl, _⟩ := h; rfl) (fun cdv A outer s H vs Q E hr h => ?_)
  have hu := hr.units
  refine ⟨_, (pss_cons (ps_set (i := 3) sc_L_message.nd rfl (Or.inl rfl) (pe_callTy call_list_of (by rfl) T.n_list (by decide +kernel) (pa_cons (pv 1) pa_nil)))
  (pss_cons (ps_for PassesOwn.never rfl (pi_range1 (by rfl) T.n_range (pa_cons (pc0 G_L_digit hr (by decide) (by rfl) (pa_cons (pv 0) (pa_cons pe_int pa_nil))) pa_nil)) (pg_name (i := 4) sc_L_message.nd rfl (Or.inl rfl))
  (pss_cons (ps_par3 (i := 5) (j := 6) (l := 7) rfl sc_L_message.nd rfl rfl rfl (by decide) (by decide) (by decide) rfl rfl rfl (pa_cons (pc0 G_L_say hr (by decide) (by rfl) (pa_cons (pv 0) pa_nil)) (pa_cons (pc0 G_L_digit hr (by decide) (by rfl) (pa_cons (pv 0) (pa_cons (pe_callB call_len (by rfl) T.n_len (by decide +kernel) (pa_cons (pv 3) pa_nil)) pa_nil))) (pa_cons (pc0 G_L_digit hr (by decide) (by rfl) (pa_cons (pv 0) (pa_cons pe_int pa_nil))) pa_nil))) (by rfl))
  (pss_one (ps_if (PW.pt (pw_and (pt_cmpR (op_eqD hu) (pv 7) pe_int (nomark _)) (pw_and1 (pt_cmpR op_lt (pe_callB call_len (by rfl) T.n_len (by decide +kernel) (pa_cons (pv 3) pa_nil)) (pv 2) (nomark _))))) (pss_one (ps_expr (pe_bm PySem.F.plainAttrs_list PySem.F.slot_list_insert PySem.F.type_list_insert mt_insert (pv 3) (pa_cons (pv 6) (pa_cons (pv 5) pa_nil))))) (pss_one (ps_if (PW.pt (pw_and (pt_cmpR (op_eqD hu) (pv 7) pe_int (nomark _)) (pw_and1 (pt_cmpR op_gt (pe_callB call_len (by rfl) T.n_len (by decide +kernel) (pa_cons (pv 3) pa_nil)) pe_int (nomark _))))) (pss_one (ps_expr (pe_bm PySem.F.plainAttrs_list PySem.F.slot_list_pop PySem.F.type_list_pop mt_popAt (pv 3) (pa_cons (pv 6) pa_nil)))) (pss_one (ps_if (pt_cmpR (op_eqD hu) (pv 7) pe_int (nomark _)) (pss_one (ps_asg (pv 5) (pg_sub (pv 3) (pv 6) set_list))) (pss_one (ps_if (pt_cmpR (op_eqD hu) (pv 7) pe_int (nomark _)) (pss_one (ps_set (i := 3) sc_L_message.nd rfl (Or.inl rfl) (pe_op opAddU (pe_slice slU (pv 3) (po_some (pv 6)) po_none) (pe_slice slU (pv 3) po_none (po_some (pv 6)))))) (pss_one (ps_set (i := 3) sc_L_message.nd rfl (Or.inl rfl) (pc0 G_L_near hr (by decide) (by rfl) (pa_cons (pv 0) (pa_cons (pv 3) (pa_cons (pv 6) pa_nil))))))))))))))))
  (pss_one (ps_ret (pe_callTy call_tuple_of (by rfl) T.n_tuple (by decide +kernel) (pa_cons (pv 3) pa_nil)))))), ?_⟩
  obtain ⟨a, x, t, ws0, rfl, hx, st, ht, ok0, one0, k⟩ := h
  -- words = list(first)
  have first : ∃ p ys, x = .ref p ∧ (SqL K H p ys ∨ SqT K H p ys) ∧ DpAll K H ys (ws0.map .str) := by
    rcases hx with hx | hx
    · obtain ⟨p, ys, e, h1, h2⟩ := dp_lst hx
      exact ⟨p, ys, e, .inl h1, h2⟩
    · obtain ⟨p, ys, e, h1, h2⟩ := dp_tup hx
      exact ⟨p, ys, e, .inr h1, h2⟩
  obtain ⟨p, ys, rfl, hq, dys⟩ := first
  obtain rfl := dps_strs dys
  walk_at "NX"
  refine ⟨.ref p, rfl, p, _, rfl, hq, fun l hl => ?_⟩
  have hla : l ≠ a := st.ne hl
  refine gname_go ?_
  walk_at "NX"
  refine for_dig (K := K) (i := 0) (a := a) (m := 5) rfl ev_int (by decide) (by decide) (st.same (Same.new hl)) (by omega) fun r H1 r0 r1 b1 st1 => ?_
  have b01 : But a H H1 := (But.of (Same.new hl)).trans b1
  refine ⟨(fun i σ Hc => ∃ (l : Addr) (ws : List Str) (o4 o5 o6 o7 : Option V), σ = [some (.ref a), some (.ref p), some (.int 6), some (.ref l), o4, o5, o6, o7] ∧ Hc l = some (.lst (ws.map V.str)) ∧ H l = none ∧ okW ws ∧ 1 ≤ ws.length ∧ But a H Hc ∧ StA Hc a (t + 4 + 300 * i)),
    ⟨l, ws0, _, _, _, _, rfl, b1 l _ hla upd_same, hl, ok0, one0, b01, by simpa using st1⟩, (fun i σ Hc hi q => ?_), fun σ Hc q => ?_⟩
  · obtain ⟨l, ws, o4, o5, o6, o7, rfl, q1, q2, q3, q4, q5, q6⟩ := q
    have hi4 : i < 4 := by omega
    have hla : l ≠ a := fun z => by
      obtain ⟨_, _, _, h1, _⟩ := q6
      rw [z, h1] at q1
      cases q1
    have hn6 := q3.1
    show tSeq _ _ _ [some (.ref a), some (.ref p), some (.int 6), some (.ref l), some (.int (0 + (i : Nat))), o5, o6, o7] Hc
    walk_at "NX"
    refine ⟨.ref a, rfl, a, _, rfl, q6, by omega, fun z H2 hz b2 st2 => ?_⟩
    have l2 : H2 l = some (.lst (ws.map V.str)) := b2 l _ hla q1
    have dl2 : Dp K H2 (.ref l) (.list (ws.map .str)) := .lst (SqL.of l2) dps_strM
    refine ev_dig (K := K) (i := 0) (a := a) (m := (ws.length : Nat)) rfl (ev_is (d := .int ((lenD (.list (ws.map PyData.str)) : Nat) : Int)) (ev_cb (av_cons (ev_var ⟨_, rfl, dl2⟩) av_nil) (rc_len trivial)) (by rw [show lenD (.list (ws.map PyData.str)) = ws.length from List.length_map _])) (by omega) (by omega) st2 (by omega) fun sp H3 s0 s1 b3 st3 => ?_
    refine ev_dig (K := K) (i := 0) (a := a) rfl ev_int (by decide) (by decide) st3 (by omega) fun way H4 w0 w1 b4 st4 => ⟨_, _, _, rfl, ?_⟩
    obtain ⟨j, rfl⟩ := Int.eq_ofNat_of_zero_le s0
    have hj : j < ws.length := by omega
    have b24 := b3.trans b4
    have l4 : H4 l = some (.lst (ws.map V.str)) := b24 l _ hla l2
    have dl4 : Dp K H4 (.ref l) (.list (ws.map .str)) := .lst (SqL.of l4) dps_strM
    have b04 : But a H H4 := q5.trans (b2.trans b24)
    have el : lenD (.list (ws.map PyData.str)) = ws.length := List.length_map _
    have hsz : sizedD (.list (ws.map PyData.str)) := trivial
    have tb : ∀ tt : Int, StA H4 a tt → True := fun _ _ => trivial
    have nxt : ∀ {l' : Addr} {ws' : List Str} {H' : Hp} {t' : Int} {o4 o5 o6 o7 : Option V}, H' l' = some (.lst (ws'.map V.str)) → H l' = none → okW ws' → 1 ≤ ws'.length → But a H H' → StA H' a t' → t' ≤ t + 4 + 300 * i + 300 → ∃ (l : Addr) (ws : List Str) (p4 p5 p6 p7 : Option V), [some (V.ref a), some (.ref p), some (.int 6), some (.ref l'), o4, o5, o6, o7] = [some (.ref a), some (.ref p), some (.int 6), some (.ref l), p4, p5, p6, p7] ∧ H' l = some (.lst (ws.map V.str)) ∧ H l = none ∧ okW ws ∧ 1 ≤ ws.length ∧ But a H H' ∧ StA H' a (t + 4 + 300 * (i + 1 : Nat)) := fun h1 h2 h3 h4 h5 h6 h7 => ⟨_, _, _, _, _, _, rfl, h1, h2, h3, h4, h5, h6.mono (by rw [Int.natCast_add]; omega)⟩
    have hst4 : t + 4 + 300 * (i : Int) + 100 + 4 + 4 ≤ t + 4 + 300 * i + 300 := by omega
    try dsimp only
    refine s_if (K := K) (b := (way == 0) && decide (((ws.length : Nat) : Int) < 6)) (tv_and (tv_is (by walk_at "TV") eqv_ints) fun _ => tv_is (by walk_at "TV") (by rw [el])) (fun hb H5 e5 => ?_) fun hb H5 e5 => ?_
    · rw [Bool.and_eq_true, decide_eq_true_eq] at hb
      have l5 : H5 l = some (.lst (ws.map V.str)) := e5 _ _ l4
      refine ⟨.ref l, rfl, .inl ⟨rfl, _, SqL.of l5⟩, .int (j : Nat), rfl, .str z, rfl, l, _, (j : Nat), .str z, rfl, rfl, l5, by rw [List.length_map]; exact Nat.lt_of_lt_of_le (by omega : ws.length < 10) (by decide), by omega, by omega, ?_⟩
      have ew : (ws.map V.str).take ((j : Nat) : Int).toNat ++ [V.str z] ++ (ws.map V.str).drop ((j : Nat) : Int).toNat = (ws.take j ++ [z] ++ ws.drop j).map V.str := by
        rw [Int.toNat_natCast, List.map_append, List.map_append, List.map_take, List.map_drop]
        rfl
      rw [ew]
      exact nxt upd_same q2 (okW_three q3 (fun y hy => by rw [List.mem_singleton.mp hy]; exact hz) (by rw [List.length_take, List.length_drop, List.length_singleton]; omega)) (by rw [List.length_append, List.length_append, List.length_singleton]; omega) (but_mut (b04.s e5) q2) ((st4.same e5).mut hla) (by omega)
    · try dsimp only
      have dl5 := dp_same e5 dl4
      refine s_if (K := K) (b := (way == 1) && decide ((1 : Int) < ((ws.length : Nat) : Int))) (tv_and (tv_is (by walk_at "TV") eqv_ints) fun _ => tv_is (by walk_at "TV") (by rw [el])) (fun hb H6 e6 => ?_) fun hb H6 e6 => ?_
      · rw [Bool.and_eq_true, decide_eq_true_eq] at hb
        have e56 := e5.trans e6
        have l6 : H6 l = some (.lst (ws.map V.str)) := e56 _ _ l4
        have hjm : j < (ws.map V.str).length := by rw [List.length_map]; exact hj
        refine ⟨.ref l, rfl, .inl ⟨rfl, _, SqL.of l6⟩, .int (j : Nat), rfl, l, _, (j : Nat), j, (ws.map V.str)[j], rfl, rfl, l6, by omega, by omega, sI_of hjm, List.getElem?_eq_getElem hjm, ?_⟩
        have ew : (ws.map V.str).eraseIdx j = (ws.eraseIdx j).map V.str := by rw [List.eraseIdx_eq_take_drop_succ, List.eraseIdx_eq_take_drop_succ, List.map_append, List.map_take, List.map_drop]
        rw [ew]
        have le := List.length_eraseIdx_of_lt hj
        exact nxt upd_same q2 ⟨by rw [le]; omega, fun y hy => q3.2 y (List.mem_of_mem_eraseIdx hy)⟩ (by rw [le]; omega) (but_mut (b04.s e56) q2) ((st4.same e56).mut hla) (by omega)
      · try dsimp only
        have e56 := e5.trans e6
        refine s_if (K := K) (b := (way == 2)) (tv_is (by walk_at "TV") eqv_ints) (fun hb H7 e7 => ?_) fun hb H7 e7 => ?_
        · have e57 := e56.trans e7
          have l7 : H7 l = some (.lst (ws.map V.str)) := e57 _ _ l4
          refine ⟨.str z, rfl, .ref l, rfl, .int (j : Nat), rfl, l, _, (j : Nat), j, rfl, rfl, l7, ix_of (by rw [List.length_map]; exact hj), ?_⟩
          have ew : (ws.map V.str).set j (.str z) = (ws.set j z).map V.str := by rw [List.map_set]
          rw [ew]
          exact nxt upd_same q2 ⟨by rw [List.length_set]; exact hn6, fun y hy => by
            rcases List.mem_or_eq_of_mem_set hy with h | h
            · exact q3.2 y h
            · rw [h]; exact hz⟩ (by rw [List.length_set]; exact q4) (but_mut (b04.s e57) q2) ((st4.same e57).mut hla) (by omega)
        · try dsimp only
          have e57 := e56.trans e7
          have dl7 := dp_same e57 dl4
          refine s_if (K := K) (b := (way == 3)) (tv_is (by walk_at "TV") eqv_ints) (fun hb H8 e8 => ?_) fun hb H8 e8 => ?_
          · have e58 := e57.trans e8
            have dl8 := dp_same e58 dl4
            refine evn_cat (K := K) (xs := (ws.drop j).map .str) (ys := (ws.take j).map .str) (ev_is (d := .list (cutD (ws.map PyData.str) (some ((j : Nat) : Int)) none)) (by walk_at "EV") (by rw [cutD_map, cut_from (by omega)]; rfl)) (ev_is (d := .list (cutD (ws.map PyData.str) none (some ((j : Nat) : Int)))) (by walk_at "EV") (by rw [cutD_map, cut_to (by omega)]; rfl))
              (by rw [List.length_map, List.length_map, List.length_drop, List.length_take]; omega) rfl fun p9 us H9 e9 hp0 hp du => ?_
            have du2 : DpAll K H9 us ((ws.drop j ++ ws.take j).map .str) := by rw [List.map_append]; exact du
            rw [dps_strs du2] at hp
            exact nxt hp (but_none (b04.s e58) ((st4.same e58).ne hp0) hp0) ⟨by rw [List.length_append, List.length_drop, List.length_take]; omega, fun y hy => by
              rcases List.mem_append.mp hy with h | h
              · exact q3.2 y (List.mem_of_mem_drop h)
              · exact q3.2 y (List.mem_of_mem_take h)⟩ (by rw [List.length_append, List.length_drop, List.length_take]; omega) ((b04.s e58).s e9) ((st4.same e58).same e9) (by omega)
          · have e58 := e57.trans e8
            have l8 : H8 l = some (.lst (ws.map V.str)) := e58 _ _ l4
            try dsimp only
            refine ⟨.ref a, rfl, .ref l, rfl, .int (j : Nat), rfl, a, l, _, ws, j, rfl, st4.same e58, by omega, l8, q3, hj, fun p9 ws9 H9 o9 n9 b9 st9 hp0 hp => ?_⟩
            exact nxt hp (but_none (b04.s e58) ((st4.same e58).ne hp0) hp0) o9 n9 ((b04.s e58).trans b9) st9 (by omega)
  · obtain ⟨l, ws, o4, o5, o6, o7, rfl, q1, q2, q3, q4, q5, q6⟩ := q
    have dl : Dp K Hc (.ref l) (.list (ws.map .str)) := .lst (SqL.of q1) dps_strM
    have hr4 : (r.toNat : Int) < 5 := by omega
    try dsimp only
    refine s_ret (K := K) (d := .tuple (ws.map .str)) (by walk_at "EV") fun u H2 e2 du => k u ws H2 q3 q4 (q5.s e2) ((q6.same e2).mono (by omega)) du
end
end K5
set_option Elab.async false
set_option linter.all false
set_option maxRecDepth 100000
set_option maxHeartbeats 4000000
/-! xs[a:c] = ys, the end behind the list or not. -/
namespace L2
open PySem PySem.Spec PyProof.Rows
theorem bounds_cut {a c n : Nat} (hac : a ≤ c) (ha : a ≤ n) : sliceBounds (some (a : Int)) (some (c : Int)) none n = ((a : Int), ((min c n : Nat) : Int), 1) := by
  simp only [sliceBounds, Option.getD_none]
  have h1 : ¬ ((a : Int) < 0) := by omega
  have h2 : ¬ ((c : Int) < 0) := by omega
  simp only [h1, h2, if_false, show (1 : Int) > 0 by decide, if_true]
  congr 1
  · omega
  · congr 1; omega
section
variable {prog : Program} {w : World} {A : Around} {E : Value → Shared → Prop} {s : Shared}
theorem setItem_cut {l b sl : Addr} {items new : Array Value} {n n2 : Nat} {vl vu : Value} {a c : Nat} {Q : Unit → Shared → Prop}
    (e : s.heap.get? l = some { cls := .type "list", data := .seq items n }) (e2 : s.heap.get? b = some { cls := .type "list", data := .seq new n2 }) (hne : l ≠ b)
    (hs : s.heap.IsSliceOf sl vl vu .none) (pl : IsPart vl (some (a : Int))) (pu : IsPart vu (some (c : Int))) (hac : a ≤ c) (ha : a ≤ items.size)
    (hsz : items.size + new.size ≤ sizeLine) (h : Q () { s with heap := s.heap.update l (Obj.mapSeq fun xs => xs.extract 0 a ++ new ++ xs.extract (min c items.size) xs.size) }) :
    wpAny (model prog w) A (setItem (.ref l) (.ref sl) (.ref b)) Q E s := by
  have hl : s.heap.IsList l items := PySem.IsL.isList e
  have hb : s.heap.IsList b new := PySem.IsL.isList e2
  obtain ⟨os, hos, hcs, hds⟩ := id hs
  have hTs : s.TypeIs (.ref sl) "slice" := ⟨os, hos, hcs⟩
  have hstep : ¬ ((rawPart none == rawInt 0) = true) := Bool.false_ne_true
  have hsame : Builtin.List.listSameRef (.ref l) (.ref b) = false := by
    unfold Builtin.List.listSameRef
    exact beq_eq_false_iff_ne.mpr hne
  have hmax : (max (a : Int) ((min c items.size : Nat) : Int)).toNat = min c items.size := by omega
  have hz' : ((fun xs : Array Value => xs.extract 0 a ++ new ++ xs.extract (min c items.size) xs.size) items).size ≤ sizeLine + 1 := by
    simp only [Array.size_append, Array.size_extract]
    omega
  unfold setItem
  try with_reducible refine wpAny_holding ?_
  first | refine wpAny_bind (wpAny_pure ?_) | skip
  refine wpAny_bind (wpAny_sequenceKey hl.typeIs (by decide) ?_)
  refine wpAny_bind (wpAny_callSpecial?_slot (name := Str.ofString "__setitem__") hl.typeIs slot_list_setitem
    (wpAny_call_entry slot_list_setitem hl.typeIs entry_list_setitem ?_ (args_list_setitem _ _ _)))
  show wpAny _ _ (Builtin.List.listSubscript? (.ref sl) >>= _) _ _ s
  refine wpAny_bind ?_
  unfold Builtin.List.listSubscript?
  refine wpAny_bind (wpAny_specialOf hTs slice_no_index ?_)
  simp only [Option.isNone_none, if_true]
  refine wpAny_pure ?_
  show wpAny _ _ (typeOf (.ref sl) >>= _) _ _ s
  refine wpAny_bind (wpAny_typeOf hTs ?_)
  first
    | rw [if_neg (by decide)]
    | refine PySem.W.KFB.if_not (by decide) ?_
  rw [listSliceParts_eq]
  refine wpAny_bind (wpAny_bind (wpAny_field hos hds (x := .none) rfl (wpAny_bind (wpAny_listPart .none ?_))))
  rw [if_neg hstep]
  refine wpAny_bind (wpAny_field hos hds (x := vl) rfl (wpAny_bind (wpAny_listPart pl ?_)))
  refine wpAny_bind (wpAny_field hos hds (x := vu) rfl (wpAny_bind (wpAny_listPart pu (wpAny_pure ?_))))
  first
    | simp only [hsame, Bool.false_eq_true, if_false]
    | refine PySem.W.KFB.if_not hsame ?_
    | (dsimp only
       rw [if_neg (by rw [hsame]; exact Bool.false_ne_true)])
  refine wpAny_bind (m := Builtin.List.listAllItems (.ref b) "must assign iterable to extended slice") ?_
  unfold Builtin.List.listAllItems
  refine wpAny_bind (wpAny_typeOf hb.typeIs ?_)
  first
    | refine PySem.W.KFB.if_so (by decide) ?_
    | rw [if_pos (by decide)]
    | simp only [beq_self_eq_true, Bool.true_or, if_true]
  unfold Builtin.List.listItems
  refine wpAny_bind (wpAny_seqItems e2 rfl (wpAny_pure ?_))
  refine wpAny_bind (wpAny_bind (wpAny_seqItems e rfl (wpAny_pure ?_)))
  refine wpAny_bind (wpAny_of_eq ((sliceIndices_raw (some (a : Int)) (some (c : Int)) none items.size (by simp)).trans (congrArg (pure : Int × Int × Int → Sem (Int × Int × Int)) (bounds_cut hac ha))) ?_)
  show wpAny _ _ (if ((1 : Int) == 1) = true then _ else _) _ _ s
  rw [if_pos (by decide)]
  refine wpAny_bind (wpAny_rule ?_)
  first
    | simp only [notLongL hsz, Bool.false_eq_true, if_false]
    | refine PySem.W.KFB.if_not (notLongL hsz) ?_
  first | refine wpAny_bind (wpAny_pure ?_) | skip
  show wpAny _ _ (updateSeq l (fun xs => xs.extract 0 ((a : Int)).toNat ++ new ++ xs.extract (max (a : Int) ((min c items.size : Nat) : Int)).toNat xs.size) >>= _) _ _ s
  rw [hmax, Int.toNat_natCast]
  refine wpAny_bind (wpAny_updateSeq (hz := Nat.le_trans (Nat.le_add_right _ _) hsz) (_hz' := hz') e rfl ?_)
  refine wpAny_bind (wpAny_letGo ?_)
  first
    | exact wpAny_bind (wpAny_pure (wpAny_pure ⟨.none, rfl, wpAny_pure h⟩))
    | exact wpAny_pure ⟨.none, rfl, wpAny_pure h⟩
end
section
variable {X : Cx}
theorem set_cut {pins : List (Addr × Obj)} {s : Shared} {σ : St} {H : Hp} {l b sl : Addr} {xs ys : List V} {a c : Nat} {vl vu : Value} {Q : Unit → Shared → Prop} (I : Inv X pins σ H s)
    (hH : H l = some (.lst xs)) (hB : H b = some (.lst ys)) (hne : l ≠ b) (hs : s.heap.IsSliceOf sl vl vu .none) (pl : IsPart vl (some (a : Int))) (pu : IsPart vu (some (c : Int))) (hac : a ≤ c) (ha : a ≤ xs.length)
    (hz : xs.length + ys.length ≤ sizeLine) (h : ∀ s', Inv X pins σ (upd H l (.lst (xs.take a ++ ys ++ xs.drop c))) s' → Q () s') :
    wpAny (model X.prog X.w) X.A (setItem (.ref l) (.ref sl) (.ref b)) Q X.xe s := by
  obtain ⟨z, its, n, r, hl, e⟩ := I.lstM hH
  obtain ⟨z2, its2, n2, r2, hl2, e2⟩ := I.lstM hB
  refine setItem_cut (a := a) (c := c) e e2 hne hs pl pu hac (by rw [List.size_toArray]; omega) (by rw [List.size_toArray, List.size_toArray]; omega) (h _ ?_)
  have ed : xs.drop c = xs.drop (min c its.toArray.size) := by
    rw [List.size_toArray, ← hl]
    by_cases hc : c ≤ xs.length
    · rw [Nat.min_eq_left hc]
    · rw [List.drop_of_length_le (by omega), List.drop_of_length_le (by omega)]
  rw [ed]
  refine I.lset (its' := its.take a ++ its2 ++ its.drop (min c its.toArray.size)) (t' := s.toks) hH e ?_ (Vals.append (Vals.append (r.take _) r2) (r.drop _)) ?_
  · exact splice_eq its its2 a (min c its.toArray.size)
  · have h3 : (xs.take a).length + (xs.drop (min c its.toArray.size)).length ≤ xs.length := by
      rw [List.length_take, List.length_drop, List.size_toArray, ← hl]
      have q1 : min a xs.length = a := Nat.min_eq_left ha
      have q2 : a ≤ min c xs.length := Nat.le_min.mpr ⟨hac, ha⟩
      rw [q1]
      omega
    rw [List.length_append, List.length_append]
    omega
/-- o[lo:hi] = .. -/
def gSlc (to : TE) (tl th : TO) : TG := fun v σ H Q => to σ H fun x H1 => tl σ H1 fun lo H2 => th σ H2 fun hi H3 => ∃ (l b : Addr) (xs ys : List V) (a c : Nat), x = .ref l ∧ v = .ref b ∧ lo = some (a : Int) ∧ hi = some (c : Int) ∧ H3 l = some (.lst xs) ∧ H3 b = some (.lst ys) ∧ l ≠ b ∧ a ≤ c ∧ a ≤ xs.length ∧ xs.length + ys.length ≤ sizeLine ∧
  Q σ (upd H3 l (.lst (xs.take a ++ ys ++ xs.drop c)))
theorem pg_slc {o : Expr} {lo hi : Option Expr} {to : TE} {tl th : TO} {p2 pos : Pos} (ho : PE X o to) (hl : PO X lo tl) (hu : PO X hi th)
    (ha : ∀ v, assign (.Subscript o (.Slice lo hi none p2) pos) X.env v = (do
      let ov ← holding [v] (eval o X.env)
      let iv ← holding [v, ov] (eval (.Slice lo hi none p2) X.env)
      standAt pos
      holding [v, ov, iv] (setItem ov iv v)
      release [iv, v, ov] []) := by intro _; rfl) : PG X (.Subscript o (.Slice lo hi none p2) pos) (gSlc to tl th) := by
  refine ⟨fun pins s σ H v u Q I r h => ?_⟩
  rw [ha]
  refine wpAny_bind (wpAny_holding (thn (ho.run pins s σ H _ I h) fun ov s1 hh => ?_))
  obtain ⟨x, H1, I1, r1, q1⟩ := hh
  refine wpAny_bind (wpAny_holding (wpAny_Slice (thn (hl.run pins s1 σ H1 _ I1 q1) fun vl s2 hh => ?_)))
  obtain ⟨l, H2, I2, pl, q2⟩ := hh
  refine thn (hu.run pins s2 σ H2 _ I2 q2) fun vu s3 hh => ?_
  obtain ⟨u', H3, I3, pu, q3⟩ := hh
  rw [evalPart_none]
  refine wpAny_pure ?_
  have I4 : Inv X pins σ H3 { s3 with heap := s3.heap.push { cls := .type "slice", data := .fields #[vl, vu, .none] } } := I3.kept (t' := s3.toks) fun b ob q => Heap.get?_push_of_some _ q
  obtain ⟨a, b, xs, ys, i, c, ex, ev, el, eu, ea, eb, hne, hac, hax, hz, q⟩ := q3
  subst ex ev el eu
  obtain rfl : ov = Value.ref a := r1
  obtain rfl : u = Value.ref b := r
  refine wpAny_bind (wpAny_standAt (wpAny_bind (wpAny_holding (set_cut I4 ea eb hne (Heap.IsSliceOf.new ..) pl pu hac hax hz fun s' J => ?_))))
  exact wpAny_release ⟨σ, _, J, q⟩
end
end L2
set_option Elab.async false
set_option linter.all false
set_option maxRecDepth 100000
set_option maxHeartbeats 4000000
/-! A paper is bent. -/
namespace K5
open PySem L2 PySem.Spec PyProof.Rows
local macro_rules | `(tactic| walk_at "DP") => `(tactic| first | with_reducible assumption | with_reducible exact Dp.int _ | with_reducible exact Dp.str _ | with_reducible exact Dp.bl _ | with_reducible exact Dp.non | with_reducible exact dp_up (by assumption) (by assumption))
local macro_rules | `(tactic| walk_at "SH") => `(tactic| first | with_reducible assumption | rfl)
local macro_rules | `(tactic| walk_at "RD") => `(tactic| first | with_reducible assumption | exact rd_addI | exact rd_I0 fun _ => .int _ | exact rd_I0 fun _ => .bl _ | exact rd_ixL (by with_reducible assumption) | exact rd_ixT (by with_reducible assumption) | exact rd_ixS (by with_reducible assumption) (by with_reducible assumption) | exact rd_eqD (by walk_at "SH") (by walk_at "SH") | exact rd_neD (by walk_at "SH") (by walk_at "SH") | exact rd_inS | exact rd_notN | exact rd_isN | exact rd_addL (by with_reducible assumption) | exact rd_addT (by with_reducible assumption) | exact rd_addS (by with_reducible assumption))
local macro_rules | `(tactic| walk_at "OV") => `(tactic| first | with_reducible exact ov_no | ((with_reducible apply ov_some); walk_at "EV"))
local macro_rules | `(tactic| walk_at "AV") => `(tactic| first | with_reducible assumption | with_reducible exact av_nil | ((with_reducible apply av_cons); walk_at "EV"; walk_at "AV"))
local macro_rules | `(tactic| walk_at "RC") => `(tactic| first | with_reducible assumption | exact rc_len (by (first | with_reducible assumption | trivial)) | exact rc_tupL | exact rc_tupT | exact rc_lstL | exact rc_lstT | exact rc_all | exact rc_sum | exact rc_min2 | exact rc_min3)
local macro_rules | `(tactic| walk_at "KIT") => `(tactic| first | with_reducible exact kit_int _ | with_reducible exact kit_bool _ | with_reducible exact kit_str _ | with_reducible exact kit_tuple _)
local macro_rules | `(tactic| walk_at "EV") => `(tactic| first | with_reducible assumption | with_reducible exact ev_int | with_reducible exact ev_str | with_reducible exact ev_bl | with_reducible exact ev_non | ((with_reducible apply ev_var); exact sl_mk rfl (by walk_at "DP")) | ((with_reducible apply ev_op); walk_at "EV"; walk_at "EV"; walk_at "RD") | ((with_reducible apply ev_neg); walk_at "EV") | ((with_reducible apply ev_tup); walk_at "AV"; (first | (with_reducible assumption) | decide)) | ((with_reducible apply ev_lst); walk_at "AV"; (first | (with_reducible assumption) | decide)) | ((with_reducible apply ev_call); walk_at "AV"; with_reducible assumption) | ((with_reducible apply ev_isi2); exact rfl; walk_at "EV"; walk_at "KIT") | ((with_reducible apply ev_cb); walk_at "AV"; walk_at "RC") | ((with_reducible apply ev_chain); walk_at "EV"; walk_at "EV"; walk_at "RD"; intro _; walk_at "EV"; intro _; walk_at "RD") | ((with_reducible apply ev_andV); walk_at "EV"; intro _; walk_at "EV") | ((with_reducible apply ev_orV); walk_at "EV"; intro _; walk_at "EV") | ((with_reducible apply ev_notV); walk_at "EV") | ((with_reducible apply ev_sl2); exact rfl; walk_at "EV"; walk_at "OV"; walk_at "OV"; walk_at "SLD") | ((with_reducible apply ev_rev2); exact rfl; walk_at "EV"))
local macro_rules | `(tactic| walk_at "SLD") => `(tactic| first | with_reducible exact SlD.l | with_reducible exact SlD.t | with_reducible exact SlD.s (by with_reducible assumption))
local macro_rules | `(tactic| walk_at "TV") => `(tactic| first | with_reducible assumption | ((with_reducible apply tv_and); walk_at "TV"; intro _; walk_at "TV") | ((with_reducible apply tv_or); walk_at "TV"; intro _; walk_at "TV") | ((with_reducible apply tv_not); walk_at "TV") | ((with_reducible apply tv_B); walk_at "EV") | ((with_reducible apply tv_T); walk_at "EV"))
local macro_rules | `(tactic| walk_at "NX") => `(tactic| ((try dsimp only); (try with_reducible apply s_next); (try dsimp only); (try with_reducible apply s_seq)))

/-- rows that are lists of atoms, each a list of its own -/
def goodR (n : Nat) (r : List D) : Prop := r.length ≤ n ∧ ∀ x ∈ r, atomD x = true ∧ gdn 0 x = true
def goodS (ss : List D) : Prop := ∀ s ∈ ss, noL s = true ∧ gdn 3 s = true
def RwsI (K : PySem.W.Frag) (n : Nat) (H0 H : Hp) (rp : Addr) (ps : List Addr) (rows : List (List D)) : Prop :=
  H rp = some (.lst (ps.map V.ref)) ∧ H0 rp = none ∧ ps.length = rows.length ∧ ps.Nodup ∧ rp ∉ ps ∧ ∀ (i : Nat) (p : Addr) (r : List D), ps[i]? = some p → rows[i]? = some r → H0 p = none ∧ goodR n r ∧ ∃ xs, H p = some (.lst xs) ∧ DpAll K H xs r
theorem cons_go {te : TE} {ta : TA} {s : L2.St} {H : Hp} {Q : List V → Hp → Prop} (h : te s H fun x H1 => ta s H1 fun xs H2 => Q (x :: xs) H2) : tCons te ta s H Q := h
theorem lc_go {wi : TI} {g : TG} {tt : TT} {te : TE} {vs : List Nat} {s : L2.St} {H : Hp} {Q : VK} (h : wi s H fun J H1 => ∀ D, H1 D = none → ∃ W : Nat → Nat → Hp → Prop, (∃ m, W 0 m (upd H1 D (.lst []))) ∧ ∀ i m H, W i m H →
  (J.stop i H ∧ Q (.ref D) H) ∨ (J.go i H ∧ ∃ Nx : Hp → Prop, (∀ H', Nx H' → ∃ m', m' < m ∧ W (i + 1) m' H') ∧ ∀ x H', J.yld i H x H' → g x (wipe s vs) H' fun σ2 H2 => wipe σ2 vs = wipe s vs ∧ tt σ2 H2 fun b H3 =>
    if b = true then te σ2 H3 fun y H4 => ∃ acc, H4 D = some (.lst acc) ∧ acc.length < sizeLine ∧ Nx (upd H4 D (.lst (acc ++ [y]))) else Nx H3)) : tLc wi g tt te vs s H Q := h
variable {K : PySem.W.Frag}
theorem goodR.atoms {n : Nat} {r : List D} (h : goodR n r) : ∀ x ∈ r, atomD x = true := fun x hx => (h.2 x hx).1
theorem goodR.mono {n m : Nat} {r : List D} (h : goodR n r) (k : n ≤ m) : goodR m r := ⟨Nat.le_trans h.1 k, h.2⟩
theorem RwsI.mono {n m : Nat} {H0 H : Hp} {rp : Addr} {ps : List Addr} {rows : List (List D)} (h : RwsI K n H0 H rp ps rows) (k : n ≤ m) : RwsI K m H0 H rp ps rows := by
  obtain ⟨h1, h2, h3, h4, h5, h6⟩ := h
  exact ⟨h1, h2, h3, h4, h5, fun i p r e1 e2 => ⟨(h6 i p r e1 e2).1, (h6 i p r e1 e2).2.1.mono k, (h6 i p r e1 e2).2.2⟩⟩
theorem RwsI.but {n : Nat} {a : Addr} {H0 H H' : Hp} {rp : Addr} {ps : List Addr} {rows : List (List D)} (h : RwsI K n H0 H rp ps rows) (b : But a H H') (ha : ∀ p, H0 p = none → p ≠ a) : RwsI K n H0 H' rp ps rows := by
  obtain ⟨h1, h2, h3, h4, h5, h6⟩ := h
  refine ⟨b rp _ (ha _ h2) h1, h2, h3, h4, h5, fun i p r e1 e2 => ?_⟩
  obtain ⟨q1, q2, xs, q3, q4⟩ := h6 i p r e1 e2
  exact ⟨q1, q2, xs, b p _ (ha _ q1) q3, dps_atom q2.atoms q4⟩
theorem RwsI.same {n : Nat} {H0 H H' : Hp} {rp : Addr} {ps : List Addr} {rows : List (List D)} (h : RwsI K n H0 H rp ps rows) (e : Same H H') : RwsI K n H0 H' rp ps rows := by
  obtain ⟨h1, h2, h3, h4, h5, h6⟩ := h
  refine ⟨e _ _ h1, h2, h3, h4, h5, fun i p r e1 e2 => ?_⟩
  obtain ⟨q1, q2, xs, q3, q4⟩ := h6 i p r e1 e2
  exact ⟨q1, q2, xs, e p _ q3, dps_atom q2.atoms q4⟩
theorem RwsI.get {n : Nat} {H0 H : Hp} {rp : Addr} {ps : List Addr} {rows : List (List D)} (h : RwsI K n H0 H rp ps rows) {i : Nat} (hi : i < rows.length) : ∃ p r xs, ps[i]? = some p ∧ rows[i]? = some r ∧ goodR n r ∧ H0 p = none ∧ H p = some (.lst xs) ∧ DpAll K H xs r := by
  obtain ⟨h1, h2, h3, h4, h5, h6⟩ := h
  have hj : i < ps.length := by omega
  obtain ⟨q1, q2, xs, q3, q4⟩ := h6 i _ _ (List.getElem?_eq_getElem hj) (List.getElem?_eq_getElem hi)
  exact ⟨_, _, xs, List.getElem?_eq_getElem hj, List.getElem?_eq_getElem hi, q2, q1, q3, q4⟩
theorem nodup_ix {ps : List Addr} (h : ps.Nodup) {i j : Nat} {p : Addr} (hi : ps[i]? = some p) (hj : ps[j]? = some p) : i = j := by
  exact (List.getElem?_inj (List.getElem?_eq_some_iff.mp hi).1 h).mp (hi.trans hj.symm)
theorem RwsI.put {n : Nat} {H0 H : Hp} {rp : Addr} {ps : List Addr} {rows : List (List D)} (h : RwsI K n H0 H rp ps rows) {i : Nat} {p : Addr} {xs : List V} {r : List D} (hp : ps[i]? = some p) (hr : goodR n r) (dx : DpAll K H xs r) : RwsI K n H0 (upd H p (.lst xs)) rp ps (rows.set i r) := by
  obtain ⟨h1, h2, h3, h4, h5, h6⟩ := h
  have hpm : p ∈ ps := List.mem_of_getElem? hp
  refine ⟨by rw [upd_ne (fun z => h5 (by rw [z]; exact hpm))]; exact h1, h2, by rw [List.length_set]; exact h3, h4, h5, fun j p2 r2 e1 e2 => ?_⟩
  by_cases hij : i = j
  · subst hij
    rw [hp] at e1
    obtain rfl := Option.some.inj e1
    have hi : i < rows.length := by rw [← h3]; exact (List.getElem?_eq_some_iff.mp hp).1
    rw [List.getElem?_set_self hi] at e2
    obtain rfl := Option.some.inj e2
    exact ⟨(h6 i p _ hp (List.getElem?_eq_getElem hi)).1, hr, xs, upd_same, dps_atom hr.atoms dx⟩
  · rw [List.getElem?_set_ne hij] at e2
    obtain ⟨q1, q2, xs2, q3, q4⟩ := h6 j p2 r2 e1 e2
    refine ⟨q1, q2, xs2, ?_, dps_atom q2.atoms q4⟩
    rw [upd_ne fun z => hij (nodup_ix h4 hp (by rw [← z]; exact e1))]
    exact q3
theorem RwsI.push {n : Nat} {H0 H : Hp} {rp p : Addr} {ps : List Addr} {rows : List (List D)} (h : RwsI K n H0 H rp ps rows) {xs : List V} {r : List D} (hp0 : H0 p = none) (hp : H p = none) (hr : goodR n r) (dx : DpAll K H xs r) : RwsI K n H0 (upd (upd H p (.lst xs)) rp (.lst (ps.map V.ref ++ [V.ref p]))) rp (ps ++ [p]) (rows ++ [r]) := by
  obtain ⟨h1, h2, h3, h4, h5, h6⟩ := h
  have hne : p ≠ rp := fun z => by rw [z, h1] at hp; cases hp
  have hpm : p ∉ ps := fun z => by
    obtain ⟨j, hj, e⟩ := List.mem_iff_getElem.mp z
    obtain ⟨_, _, xs2, q3, _⟩ := h6 j p _ (by rw [List.getElem?_eq_getElem hj, e]) (List.getElem?_eq_getElem (by omega))
    rw [hp] at q3; cases q3
  refine ⟨by rw [upd_same, List.map_append]; rfl, h2, by rw [List.length_append, List.length_append, h3]; rfl, ?_, ?_, fun j p2 r2 e1 e2 => ?_⟩
  · rw [List.nodup_append]
    exact ⟨h4, by simp, fun x hx y hy z => hpm (by rw [← List.mem_singleton.mp hy, ← z]; exact hx)⟩
  · intro z
    rcases List.mem_append.mp z with z | z
    · exact h5 z
    · exact hne (List.mem_singleton.mp z).symm
  · by_cases hj : j < ps.length
    · rw [List.getElem?_append_left hj] at e1
      rw [List.getElem?_append_left (by omega)] at e2
      obtain ⟨q1, q2, xs2, q3, q4⟩ := h6 j p2 r2 e1 e2
      refine ⟨q1, q2, xs2, ?_, dps_atom q2.atoms q4⟩
      rw [upd_ne (fun z => h5 (by rw [← z]; exact List.mem_of_getElem? e1)), upd_ne (fun z => hpm (by rw [← z]; exact List.mem_of_getElem? e1))]
      exact q3
    · have hl : j = ps.length := by
        obtain ⟨a1, _⟩ := List.getElem?_eq_some_iff.mp e1
        rw [List.length_append, List.length_singleton] at a1
        omega
      rw [hl, List.getElem?_append_right (Nat.le_refl _), Nat.sub_self] at e1
      rw [hl, h3, List.getElem?_append_right (Nat.le_refl _), Nat.sub_self] at e2
      obtain rfl : p = p2 := by simpa using e1
      obtain rfl : r = r2 := by simpa using e2
      exact ⟨hp0, hr, xs, by rw [upd_ne hne]; exact upd_same, dps_atom hr.atoms dx⟩
theorem RwsI.dp {n : Nat} {H0 H : Hp} {rp : Addr} {ps : List Addr} {rows : List (List D)} (h : RwsI K n H0 H rp ps rows) : Dp K H (.ref rp) (.list (rows.map .list)) := by
  obtain ⟨h1, _, h3, _, _, h6⟩ := h
  refine .lst (SqL.of h1) ?_
  have : ∀ (ps : List Addr) (rows : List (List D)), ps.length = rows.length → (∀ (i : Nat) (p : Addr) (r : List D), ps[i]? = some p → rows[i]? = some r → ∃ xs, H p = some (.lst xs) ∧ DpAll K H xs r) → DpAll K H (ps.map V.ref) (rows.map .list) := by
    intro ps
    induction ps with
    | nil =>
      intro rows hl _
      cases rows with
      | nil => exact .nil
      | cons _ _ => cases hl
    | cons p ps ih =>
      intro rows hl hh
      cases rows with
      | nil => cases hl
      | cons r rows =>
        obtain ⟨xs, q1, q2⟩ := hh 0 p r rfl rfl
        exact .cons (.lst (SqL.of q1) q2) (ih rows (by simpa using hl) fun i p r e1 e2 => hh (i + 1) p r e1 e2)
  exact this ps rows h3 fun i p r e1 e2 => (h6 i p r e1 e2).2.2
theorem rd_pw {H : Hp} {i j : Int} (h : CPow i j) : RD K (rI CPow fun i j => V.int (i ^ j.toNat)) H (.int i) (.int j) (.int (i ^ j.toNat)) := fun H1 x y _ dx dy Q q => ⟨i, j, dp_int dx, dp_int dy, h, q _ H1 (Same.refl _) (.int _)⟩
theorem slc_go {s : L2.St} {H : Hp} {L rp p : Addr} {ps : List Addr} {xs ys : List V} {at_ pl : Nat} {Q : L2.St → Hp → Prop} (h3 : s[3]? = some (some (.ref L))) (h5 : s[5]? = some (some (.int (at_ : Nat)))) (h7 : s[7]? = some (some (.int (pl : Nat))))
    (hL : H L = some (.lst (ps.map V.ref))) (hp : ps[at_]? = some rp) (hr : H rp = some (.lst xs)) (hy : H p = some (.lst ys)) (hne : rp ≠ p) (hpl : pl ≤ xs.length) (hz : xs.length + ys.length ≤ sizeLine)
    (q : Q s (upd H rp (.lst (xs.take pl ++ ys ++ xs.drop (pl + 1))))) : gSlc (tOp (rIx K) (tVar 3) (tVar 5)) (tPart (tVar 7)) (tPart (tOp (rAddU K) (tVar 7) (tC (.int 1)))) (.ref p) s H Q := by
  refine ⟨.ref L, h3, .int (at_ : Nat), h5, .inl ⟨L, ps.map V.ref, (at_ : Nat), .ref rp, rfl, rfl, SqL.of hL, ?_, ?_⟩⟩
  · unfold atI
    have hat : at_ < ps.length := (List.getElem?_eq_some_iff.mp hp).1
    rw [ix_of (by rw [List.length_map]; exact hat)]
    show (ps.map V.ref)[at_]? = _
    rw [List.getElem?_map, hp]
    rfl
  · refine ⟨.int (pl : Nat), h7, (pl : Nat), rfl, ?_⟩
    refine ⟨.int (pl : Nat), h7, .inl ⟨(pl : Nat), 1, rfl, rfl, (pl : Nat) + 1, rfl, ?_⟩⟩
    exact ⟨rp, p, xs, ys, pl, pl + 1, rfl, rfl, rfl, by rw [Int.natCast_add]; rfl, hr, hy, hne, by omega, hpl, hz, q⟩
def isI (d : D) : Bool := match d with | .int _ => true | .bool _ => true | _ => false
def tupOf (d : D) : D := match d with | .list xs => .tuple xs | x => x
theorem noL_tup {xs : List D} (h : ∀ x ∈ xs, noL x = true) : noL (.tuple xs) = true := by
  unfold noL
  exact noLs_all h
theorem noL_atom {d : D} (h : atomD d = true) : noL d = true := by
  cases d <;> first | rfl | cases h
theorem noL_tups {n : Nat} {rs : List (List D)} (h : ∀ r ∈ rs, goodR n r) : noL (.tuple (rs.map .tuple)) = true := by
  unfold noL
  refine noLs_all fun s hs => ?_
  obtain ⟨r, hr, rfl⟩ := List.mem_map.mp hs
  unfold noL
  exact noLs_all fun x hx => noL_atom ((h r hr).2 x hx).1
section
variable {P : Program} {w : World} {K : PySem.W.Frag} {mg : Str → Option Value} {base : Heap}
abbrev s_L_bent : Stmt := topS 59
abbrev N_L_bent : List Str := ["_law_state", "_law_paper", "_law_steps", "_law_rows", "_law_j", "_law_at", "_law_way", "_law_place", "_law_spot", "_law_odd", "_law_step", "_law_fresh", "_law_row"]
theorem sc_L_bent : FnScope N_L_bent ["_law_state", "_law_paper"] (defScope s_L_bent) := ⟨rfl, rfl, rfl, by decide +kernel, rfl, by decide +kernel, by decide +kernel⟩
def spBent (K : PySem.W.Frag) : Sp := fun vs H Q _ => ∃ (a : Addr) (x : V) (t : Int) (ss : List D) (rs : List (List D)), vs = [.ref a, x] ∧ Dp K H x (.tuple [.tuple ss, .tuple (rs.map .tuple)]) ∧ StA H a t ∧ t ≤ 700000 ∧ ss.length ≤ 100 ∧ 1 ≤ rs.length ∧ rs.length ≤ 100 ∧ (∀ r ∈ rs, goodR 100 r) ∧ goodS ss ∧
  ∀ u (ss' : List D) (rs' : List (List D)) H', But a H H' → StA H' a (t + 200) → goodS ss' → (∀ r ∈ rs', goodR 110 r) → Dp K H' u (.tuple [.tuple ss', .tuple (rs'.map .tuple)]) → Q u H'
theorem c_L_bent (T : Txt w K mg) (d : DefAt K mg "_law_bent" s_L_bent) (G_L_digit : KCal P w K mg base CX0 2 "_law_digit" ["_law_state", "_law_many"] (spDigit K)) : KCal P w K mg base CX0 3 "_law_bent" ["_law_state", "_law_paper"] (spBent K) := by
  refine d.cal (fun _ _ _ _ _ _ us hl => match us, hl with | [_, _], _ => rfl) fun f fd F => F.ok sc_L_bent (fun vs H Q E h => by obtain ⟨_, _, _, _, _, rfl, _⟩ := h; rfl) (fun cdv A outer s H vs Q E hr h => ?_)
  have hu := hr.units
  refine ⟨_, (pss_cons (ps_par (i := 2) (j := 3) rfl sc_L_bent.nd rfl rfl (by decide) rfl rfl (pa_cons (pe_callTy call_list_of (by rfl) T.n_list (by decide +kernel) (pa_cons (pe_ix ix_seq (pv 1) pe_int (fun _ _ => rfl)) pa_nil)) (pa_cons (pe_lc (own := [("_law_row", 12)]) rfl sc_L_bent.nd (pi_any (pe_ix ix_seq (pv 1) pe_int (fun _ _ => rfl))) (blkOk_by (N := N_L_bent) (sc := defScope s_L_bent) (by decide +kernel)) (fun _ _ _ _ _ => (pg_name (i := 12) sc_L_bent.nd rfl (Or.inl rfl))) (fun _ _ _ _ _ => pts_nil) (fun _ _ _ _ _ => (pe_callTy (show CallR _ _ (rListOf K) from call_list_of) (by rfl) T.n_list (by decide +kernel) (pa_cons (pv 12) pa_nil)))) pa_nil)) (by rfl))
  (pss_cons (ps_for PassesOwn.never rfl (pi_range1 (by rfl) T.n_range (pa_cons (pc0 G_L_digit hr (by decide) (by rfl) (pa_cons (pv 0) (pa_cons pe_int pa_nil))) pa_nil)) (pg_name (i := 4) sc_L_bent.nd rfl (Or.inl rfl))
  (pss_cons (ps_par (i := 5) (j := 6) rfl sc_L_bent.nd rfl rfl (by decide) rfl rfl (pa_cons (pc0 G_L_digit hr (by decide) (by rfl) (pa_cons (pv 0) (pa_cons (pe_callB call_len (by rfl) T.n_len (by decide +kernel) (pa_cons (pv 3) pa_nil)) pa_nil))) (pa_cons (pc0 G_L_digit hr (by decide) (by rfl) (pa_cons (pv 0) (pa_cons pe_int pa_nil))) pa_nil)) (by rfl))
  (pss_cons (ps_par (i := 7) (j := 8) rfl sc_L_bent.nd rfl rfl (by decide) rfl rfl (pa_cons (pc0 G_L_digit hr (by decide) (by rfl) (pa_cons (pv 0) (pa_cons (pe_op opAddU (pe_callB call_len (by rfl) T.n_len (by decide +kernel) (pa_cons (pe_ix ix_seq (pv 3) (pv 5) (fun _ _ => rfl)) pa_nil)) pe_int) pa_nil))) (pa_cons (pc0 G_L_digit hr (by decide) (by rfl) (pa_cons (pv 0) (pa_cons (pe_op opAddU (pe_callB call_len (by rfl) T.n_len (by decide +kernel) (pa_cons (pv 2) pa_nil)) pe_int) pa_nil))) pa_nil)) (by rfl))
  (pss_cons (ps_set (i := 9) sc_L_bent.nd rfl (Or.inl rfl) (pe_ix ix_seq (pe_lst (pa_cons pe_non (pa_cons pe_str (pa_cons pe_bl (pa_cons pe_bl (pa_cons pe_int (pa_cons (pe_op op_pow pe_int pe_int) (pa_cons (pe_op op_sub pe_int (pe_op op_pow pe_int pe_int)) pa_nil)))))))) (pc0 G_L_digit hr (by decide) (by rfl) (pa_cons (pv 0) (pa_cons pe_int pa_nil))) (fun _ _ => rfl)))
  (pss_cons (ps_set (i := 10) sc_L_bent.nd rfl (Or.inl rfl) (pe_lst (pa_cons (pe_tup (pa_cons pe_str pa_nil)) (pa_cons (pe_tup (pa_cons pe_str pa_nil)) (pa_cons (pe_tup (pa_cons pe_str (pa_cons pe_str pa_nil))) (pa_cons (pe_tup (pa_cons pe_str (pa_cons pe_str pa_nil))) (pa_cons (pe_tup (pa_cons pe_str (pa_cons (pv 9) pa_nil))) (pa_cons (pe_tup (pa_cons pe_str (pa_cons pe_str pa_nil))) (pa_cons (pe_tup (pa_cons pe_str (pa_cons pe_str pa_nil))) (pa_cons (pv 9) pa_nil))))))))))
  (pss_cons (ps_set (i := 10) sc_L_bent.nd rfl (Or.inl rfl) (pe_ix ix_seq (pv 10) (pc0 G_L_digit hr (by decide) (by rfl) (pa_cons (pv 0) (pa_cons pe_int pa_nil))) (fun _ _ => rfl)))
  (pss_cons (ps_set (i := 11) sc_L_bent.nd rfl (Or.inl rfl) (pe_ix ix_seq (pe_op opAddU (pe_ix ix_seq (pv 3) (pv 5) (fun _ _ => rfl)) (pe_lst (pa_cons pe_int pa_nil))) (pv 7) (fun _ _ => rfl)))
  (pss_one (ps_if (PW.pt (pw_and (pt_cmpR op_lt (pv 6) pe_int (nomark _)) (pw_and1 (pt_val (pe_callB call_isi (by rfl) T.n_isinstance (by decide +kernel) (pa_cons (pv 11) (pa_cons (pe_bltn (v := .ty "int") rfl T.n_int (by decide +kernel) rfl) pa_nil))))))) (pss_one (ps_asg (pe_lst (pa_cons (pe_op opAddU (pv 11) (pe_ix ix_seq (pe_lst (pa_cons pe_int (pa_cons (pe_un un_neg pe_int) (pa_cons (pe_un un_neg pe_int) (pa_cons pe_int (pa_cons (pe_un un_neg pe_int) (pa_cons (pe_un un_neg pe_int) (pa_cons pe_int pa_nil)))))))) (pv 6) (fun _ _ => rfl))) pa_nil)) (pg_slc (pe_ix ix_seq (pv 3) (pv 5) (fun _ _ => rfl)) (po_some (pv 7)) (po_some (pe_op opAddU (pv 7) pe_int)) (fun _ => rfl)))) (pss_one (ps_if (pt_cmpR (op_eqD hu) (pv 6) pe_int (nomark _)) (pss_one (ps_asg (pe_lst (pa_cons (pv 9) pa_nil)) (pg_slc (pe_ix ix_seq (pv 3) (pv 5) (fun _ _ => rfl)) (po_some (pv 7)) (po_some (pe_op opAddU (pv 7) pe_int)) (fun _ => rfl)))) (pss_one (ps_if (pt_cmpR (op_eqD hu) (pv 6) pe_int (nomark _)) (pss_one (ps_asg (pe_lst pa_nil) (pg_slc (pe_ix ix_seq (pv 3) (pv 5) (fun _ _ => rfl)) (po_some (pv 7)) (po_some (pe_op opAddU (pv 7) pe_int)) (fun _ => rfl)))) (pss_one (ps_if (pt_cmpR op_gt (pv 6) pe_int (nomark _)) (pss_one (ps_set (i := 2) sc_L_bent.nd rfl (Or.inl rfl) (pe_op opAddU (pe_op opAddU (pe_slice slU (pv 2) po_none (po_some (pv 8))) (pe_slice slU (pe_lst (pa_cons (pv 10) pa_nil)) po_none (po_some (pe_op op_sub pe_int (pv 6))))) (pe_slice slU (pv 2) (po_some (pe_op op_sub (pe_op opAddU (pv 8) (pv 6)) pe_int)) po_none)))) pss_nil)))))))))))))))
  (pss_one (ps_ret (pe_tup (pa_cons (pe_callTy call_tuple_of (by rfl) T.n_tuple (by decide +kernel) (pa_cons (pv 2) pa_nil)) (pa_cons (pe_callTy call_tuple_of (by rfl) T.n_tuple (by decide +kernel) (pa_cons (pe_lc (own := [("_law_row", 12)]) rfl sc_L_bent.nd (pi_any (pv 3)) (blkOk_by (N := N_L_bent) (sc := defScope s_L_bent) (by decide +kernel)) (fun _ _ _ _ _ => (pg_name (i := 12) sc_L_bent.nd rfl (Or.inl rfl))) (fun _ _ _ _ _ => pts_nil) (fun _ _ _ _ _ => (pe_callTy (show CallR _ _ (rTupOf K) from call_tuple_of) (by rfl) T.n_tuple (by decide +kernel) (pa_cons (pv 12) pa_nil)))) pa_nil)) pa_nil))))))), ?_⟩
  obtain ⟨a, x, t, ss, rs, rfl, hx, st, ht, hs, r1, r100, rr, gs, k⟩ := h
  obtain ⟨px, usx, rfl, sqx, dux⟩ := dp_tup hx
  have ne : ∀ p, H p = none → p ≠ a := fun p hp => st.ne hp
  walk_at "NX"
  refine op_go ?_
  refine Ev.go (K := K) (c := .tuple ss) (ev_op (ev_var ⟨_, rfl, hx⟩) ev_int (rd_ixT rfl)) fun v1 H1 e1 d1 => ?_
  obtain ⟨p1, us1, rfl, sq1, du1⟩ := dp_tup d1
  refine ⟨p1, us1, rfl, .inr sq1, fun q hq => ?_⟩
  have e2 : Same H (upd H1 q (.lst us1)) := e1.trans (Same.new hq)
  have hq0 : H q = none := none_of e1 hq
  refine cons_go (lc_go ?_)
  refine yd_any (K := K) (d := .tuple (rs.map .tuple)) (ds := rs.map .tuple) ?_ rfl _ (Pr.of e2) _ fun J H3 v e3 dv w => ?_
  · exact ev_op (b := .int 1) (ev_var ⟨_, rfl, hx⟩) ev_int (rd_ixT rfl)
  intro L hL
  have hL0 : H L = none := none_of (e2.trans e3) hL
  have hqL : q ≠ L := fun z => by
    have := e3 q _ upd_same
    rw [z, hL] at this; cases this
  have du3 : DpAll K H3 us1 ss := dps_same ((Same.new hq).trans e3) du1
  have nls : noLs ss = true := noLs_all fun s hs => (gs s hs).1
  have nlr := noL_tups rr
  refine lc_it w (fun i Hc => ∃ ps, RwsI K 100 H Hc L ps (rs.take i) ∧ q ∉ ps ∧ Hc q = some (.lst us1) ∧ DpAll K Hc us1 ss ∧ Dp K Hc v (.tuple (rs.map .tuple)) ∧ But a H Hc ∧ StA Hc a t) ⟨[], ⟨upd_same, hL0, rfl, .nil, List.not_mem_nil, fun i p r e1 _ => by cases e1⟩, List.not_mem_nil, (Same.new hL) _ _ (e3 _ _ upd_same), dps_same (Same.new hL) du3, dp_same (Same.new hL) dv, ((But.of e2).s e3).s (Same.new hL), ((st.same e2).same e3).same (Same.new hL)⟩ (fun i Hc _ p => p.choose_spec.2.2.2.2.1) (fun i x Ha Hb hi p y => ?_) fun Hc p => ?_
  · obtain ⟨ps, q1, q2, q3, q4, q5, q6, q7⟩ := p
    obtain ⟨e4, d4, hd4, dx⟩ := y
    rw [List.getElem?_map] at hd4
    obtain ⟨r, hr1, rfl⟩ := Option.map_eq_some_iff.mp hd4
    obtain ⟨pr, ur, rfl, sqr, dur⟩ := dp_tup dx
    refine ⟨wipe1, s_yes ?_⟩
    refine ⟨.ref pr, rfl, pr, ur, rfl, .inr sqr, fun l hl => ?_⟩
    have rw' := q1.same e4
    have e5 := Same.new (o := .lst ur) hl
    have hl0 : H l = none := but_none q6 (q7.ne (none_of e4 hl)) (none_of e4 hl)
    have hL5 := e5 _ _ rw'.1
    have hgr := rr r (List.mem_of_getElem? hr1)
    refine ⟨_, hL5, by rw [List.length_map, rw'.2.2.1, List.length_take]; exact Nat.lt_of_le_of_lt (Nat.min_le_right _ _) (Nat.lt_of_le_of_lt r100 (by decide)), ps ++ [l], ?_, ?_, ?_, ?_, ?_, ?_, ?_⟩
    · rw [take_step hr1]
      exact rw'.push hl0 hl hgr dur
    · intro z
      rcases List.mem_append.mp z with z | z
      · exact q2 z
      · have := e4 _ _ q3
        rw [List.mem_singleton.mp z, hl] at this
        cases this
    · rw [upd_ne hqL]
      exact e5 _ _ (e4 _ _ q3)
    · exact dps_mutL hL5 nls (dps_same (e4.trans e5) q4)
    · exact dp_mutL hL5 nlr (dp_same (e4.trans e5) q5)
    · exact but_mut ((q6.s e4).s e5) hL0
    · exact ((q7.same e4).same e5).mut (ne _ hL0)
  · obtain ⟨ps, q1, q2, q3, q4, _, q6, q7⟩ := p
    rw [List.take_of_length_le (by rw [List.length_map]; exact Nat.le_refl _)] at q1
    have hq1 : 100 = 100 + 0 := rfl
    refine ⟨_, _, rfl, ?_⟩
    walk_at "NX"
    refine for_dig (K := K) (i := 0) (a := a) (m := 3) rfl ev_int (by decide) (by decide) q7 (by omega) fun n H4 n0 n1 b4 st4 => ?_
    refine ⟨(fun i σ Hx => ∃ (q : Addr) (ss' : List D) (us : List V) (ps : List Addr) (rows : List (List D)) (o4 o5 o6 o7 o8 o9 o10 o11 o12 : Option V), σ = [some (.ref a), some (.ref px), some (.ref q), some (.ref L), o4, o5, o6, o7, o8, o9, o10, o11, o12] ∧ RwsI K (100 + i) H Hx L ps rows ∧ q ∉ ps ∧ q ≠ L ∧ Hx q = some (.lst us) ∧ H q = none ∧ DpAll K Hx us ss' ∧ goodS ss' ∧ ss'.length ≤ 100 + 2 * i ∧ rows.length = rs.length ∧ But a H Hx ∧ StA Hx a (t + 4 + 60 * i)),
      ⟨q, ss, us1, ps, rs, _, _, _, _, _, _, _, _, _, rfl, q1.but b4 ne, q2, hqL, b4 _ _ (ne q hq0) q3, hq0, (q7.pr b4).dps q4, gs, by omega, rfl, q6.trans b4, by simpa using st4⟩, (fun i σ Hx hi z => ?_), fun σ Hx z => ?_⟩
    · obtain ⟨q, ss', us, ps, rows, o4, o5, o6, o7, o8, o9, o10, o11, o12, rfl, z1, z2, zL, z3, z4, z5, z6, z7, z8, z9, z10⟩ := z
      have hi3 : i < 2 := by omega
      have dr := z1.dp
      have dst : Dp K Hx (.ref q) (.list ss') := .lst (SqL.of z3) z5
      show tSeq _ _ _ [some (.ref a), some (.ref px), some (.ref q), some (.ref L), some (.int (0 + (i : Nat))), o5, o6, o7, o8, o9, o10, o11, o12] Hx
      walk_at "NX"
      refine ev_dig (K := K) (i := 0) (a := a) (m := (rows.length : Nat)) rfl (ev_is (d := .int ((lenD (.list (rows.map PyData.list)) : Nat) : Int)) (ev_cb (av_cons (ev_var ⟨_, rfl, dr⟩) av_nil) (rc_len trivial)) (by rw [show lenD (.list (rows.map PyData.list)) = rows.length from List.length_map _])) (by omega) (by omega) z10 (by omega) fun at_ H5 a0 a1 b5 st5 => ?_
      refine ev_dig (K := K) (i := 0) (a := a) rfl ev_int (by decide) (by decide) st5 (by omega) fun way H6 w0 w1 b6 st6 => ⟨_, _, rfl, ?_⟩
      obtain ⟨at_, rfl⟩ := Int.eq_ofNat_of_zero_le a0
      have hat : at_ < rows.length := by omega
      have b46 := b5.trans b6
      have y1 := z1.but b46 ne
      have dr6 := y1.dp
      have p6 := z10.pr (K := K) b46
      have dst6 := p6.dp dst
      obtain ⟨rp, r, rxs, g1, g2, g3, g4, g5, g6⟩ := y1.get hat
      have ixr : atI (rows.map PyData.list) ((at_ : Nat) : Int) = some (.list r) := by
        unfold atI
        rw [ix_of (by rw [List.length_map]; exact hat)]
        show (rows.map PyData.list)[at_]? = _
        rw [List.getElem?_map, g2]
        rfl
      have hr100 := g3.1
      have evL : ∀ {s : L2.St} {Hc : Hp} {te : TE} {z : List D}, Ev K te s Hc (.list z) → Ev K (tCB (fun xs H Q => ∃ x n, xs = [x] ∧ LenV K x H n ∧ Q (.int n) H) (tCons te tNil)) s Hc (.int (z.length : Nat)) := fun h => ev_cb (av_cons h av_nil) (rc_len (d := .list _) trivial)
      walk_at "NX"
      refine ev_dig (K := K) (i := 0) (a := a) (m := (r.length : Nat) + 1) rfl (ev_op (evL (ev_op (ev_var ⟨_, rfl, dr6⟩) (ev_var ⟨_, rfl, .int _⟩) (rd_ixL ixr))) ev_int rd_addI) (by omega) (by omega) st6 (by omega) fun pl H7 p0 p1 b7 st7 => ?_
      have dst7 := (st6.pr (K := K) b7).dp dst6
      refine ev_dig (K := K) (i := 0) (a := a) (m := (ss'.length : Nat) + 1) rfl (ev_op (evL (ev_var ⟨_, rfl, dst7⟩)) ev_int rd_addI) (by omega) (by omega) st7 (by omega) fun sp H8 s0 s1 b8 st8 => ⟨_, _, rfl, ?_⟩
      obtain ⟨pl, rfl⟩ := Int.eq_ofNat_of_zero_le p0
      obtain ⟨sp, rfl⟩ := Int.eq_ofNat_of_zero_le s0
      have evP : ∀ {s : L2.St} {Hc : Hp}, Ev K (tOp (rI CPow fun i j => V.int (i ^ j.toNat)) (tC (.int 10)) (tC (.int 30))) s Hc (.int (10 ^ 30)) := fun {s Hc} => ev_op ev_int ev_int (rd_pw ⟨by decide, by decide, by decide +kernel⟩)
      walk_at "NX"
      refine op_go ?_
      refine Ev.go (K := K) (c := .list [.none, .str "0", .bool true, .bool false, .int 0, .int (10 ^ 30), .int (0 - 10 ^ 30)]) (ev_lst (av_cons ev_non (av_cons ev_str (av_cons ev_bl (av_cons ev_bl (av_cons ev_int (av_cons evP (av_cons (ev_op ev_int evP (rd_I0 fun _ => .int _)) av_nil))))))) (by show 7 ≤ 100000; decide)) fun vo H9 e9 dvo => ?_
      refine ev_dig (K := K) (i := 0) (a := a) rfl ev_int (by decide) (by decide) (st8.same e9) (by omega) fun ro H10 ro0 ro1 b10 st10 => ?_
      obtain ⟨po, xo, rfl, sqo, dxo⟩ := dp_lst (((st8.same e9).pr (K := K) b10).dp dvo)
      obtain ⟨odd, hx1, hx2⟩ := atI_nat (xs := xo) (r := ro) ro0 (by rw [dps_len dxo]; exact ro1)
      refine .inl ⟨po, xo, ro, odd, rfl, rfl, sqo, hx1, ?_⟩
      obtain ⟨dodd, hd1, hd2⟩ := dps_mem dxo hx2
      have god : atomD dodd = true ∧ gdn 0 dodd = true := by
        simp only [List.mem_cons, List.not_mem_nil, or_false] at hd1
        rcases hd1 with h | h | h | h | h | h | h <;> subst h <;> first | exact ⟨rfl, rfl⟩ | exact ⟨rfl, by decide +kernel⟩
      refine gname_go ?_
      have b810 : But a H8 H10 := (But.of e9).trans b10
      have b010 : But a Hx H10 := b46.trans (b7.trans (b8.trans b810))
      have do10 : Dp K H10 odd dodd := hd2
      walk_at "NX"
      have v9 : ∀ {te : TE}, te = tVar 9 → True := fun _ => trivial
      have l2o : ([PyData.str "put", dodd] : List D).length ≤ 100000 := by show 2 ≤ 100000; decide
      refine Ev.go (K := K) (c := .list [.tuple [.str "kept"], .tuple [.str "left"], .tuple [.str "put", .str "a"], .tuple [.str "other", .str "b"], .tuple [.str "put", dodd], .tuple [.str "put", .str "a1"], .tuple [.str "new", .str "a"], dodd]) (ev_lst (by walk_at "AV") (by show 8 ≤ 100000; decide)) fun vs8 H11 e11 dv8 => ?_
      refine gname_go ?_
      walk_at "NX"
      refine op_go ?_
      refine Ev.go (K := K) (ev_var ⟨_, rfl, dv8⟩) fun vs9 H12 e12 dv9 => ?_
      refine ev_dig (K := K) (i := 0) (a := a) rfl ev_int (by decide) (by decide) ((st10.same e11).same e12) (by omega) fun rs8 H13 rs0 rs1 b13 st13 => ?_
      obtain ⟨p8, x8, rfl, sq8, dx8⟩ := dp_lst ((((st10.same e11).same e12).pr (K := K) b13).dp dv9)
      obtain ⟨stp, hs1, hs2⟩ := atI_nat (xs := x8) (r := rs8) rs0 (by rw [dps_len dx8]; exact rs1)
      refine .inl ⟨p8, x8, rs8, stp, rfl, rfl, sq8, hs1, ?_⟩
      obtain ⟨dstp, hd3, hd4⟩ := dps_mem dx8 hs2
      have gos : noL dstp = true ∧ gdn 3 dstp = true := by
        have na := noL_atom god.1
        have ga : ∀ n, gdn n dodd = true := fun n => by
          have := god.2
          have h0 := god.1
          cases dodd <;> first | (cases n <;> exact this) | cases h0
        simp only [List.mem_cons, List.not_mem_nil, or_false] at hd3
        rcases hd3 with h | h | h | h | h | h | h | h <;> subst h
        · exact ⟨rfl, by decide +kernel⟩
        · exact ⟨rfl, by decide +kernel⟩
        · exact ⟨rfl, by decide +kernel⟩
        · exact ⟨rfl, by decide +kernel⟩
        · refine ⟨by simp [noL, noLs, na], ?_⟩
          show ([PyData.str "put", dodd].all (gdn 2)) = true
          rw [List.all_cons, List.all_cons, ga 2, show gdn 2 (.str "put") = true from by decide +kernel]
          rfl
        · exact ⟨rfl, by decide +kernel⟩
        · exact ⟨rfl, by decide +kernel⟩
        · exact ⟨na, ga 3⟩
      refine gname_go ?_
      have b013 : But a Hx H13 := ((b010.s e11).s e12).trans b13
      have w1 := z1.but b013 ne
      obtain ⟨rp2, r2, rxs2, g1', g2', g3', g4', g5', g6'⟩ := w1.get hat
      obtain rfl : r = r2 := by rw [g2] at g2'; exact Option.some.inj g2'
      obtain rfl : rp = rp2 := by rw [g1] at g1'; exact Option.some.inj g1'
      have dr13 := w1.dp
      have do13 : Dp K H13 odd dodd := dp_atom god.1 hd2
      have fr : ∃ fr, atI (r ++ [PyData.int 0]) ((pl : Nat) : Int) = some fr ∧ atomD fr = true ∧ gdn 0 fr = true := by
        obtain ⟨fr, f1, f2⟩ := atI_nat (xs := r ++ [PyData.int 0]) (r := ((pl : Nat) : Int)) (by omega) (by rw [List.length_append, List.length_singleton]; omega)
        refine ⟨fr, f1, ?_⟩
        rcases List.mem_append.mp f2 with h | h
        · exact g3.2 fr h
        · rw [List.mem_singleton.mp h]; exact ⟨rfl, rfl⟩
      obtain ⟨fr, f1, f2, f3⟩ := fr
      have rl : r.length + [PyData.int 0].length ≤ 100000 := by show r.length + 1 ≤ 100000; omega
      walk_at "NX"
      refine Ev.go (K := K) (c := fr) (by walk_at "EV") fun vf H14 e14 dvf => ?_
      refine gname_go ?_
      walk_at "NX"
      have w2 := w1.same e14
      have b014 : But a Hx H14 := b013.s e14
      have st14 := st13.same e14
      have q14 : H14 q = some (.lst us) := b014 q _ (ne q z4) z3
      have d14 : DpAll K H14 us ss' := (z10.pr (K := K) b014).dps z5
      have nls' : noLs ss' = true := noLs_all fun s hs => (z6 s hs).1
      have tm : t + 4 + 60 * (i : Int) + 4 + 4 + 4 + 4 + 4 + 4 ≤ t + 4 + 60 * ((i + 1 : Nat) : Int) := by rw [Int.natCast_add]; omega
      have key : ∀ {Hy : Hp} {ys : List V} {dy : List D} {p : Addr} {σ : L2.St} {R : L2.St → Hp → Prop}, Same H14 Hy → H14 p = none → Hy p = some (.lst ys) → DpAll K Hy ys dy → (∀ x ∈ dy, atomD x = true ∧ gdn 0 x = true) → dy.length ≤ 1 → σ[3]? = some (some (.ref L)) → σ[5]? = some (some (.int (at_ : Nat))) → σ[7]? = some (some (.int (pl : Nat))) →
          (∀ Hz rows', RwsI K (100 + (i + 1)) H Hz L ps rows' → Hz q = some (.lst us) → DpAll K Hz us ss' → rows'.length = rs.length → But a H Hz → StA Hz a (t + 4 + 60 * ((i + 1 : Nat) : Int)) → R σ Hz) →
          gSlc (tOp (rIx K) (tVar 3) (tVar 5)) (tPart (tVar 7)) (tPart (tOp (rAddU K) (tVar 7) (tC (.int 1)))) (.ref p) σ Hy R := by
        intro Hy ys dy p σ R e hp0 hpy dyy gy ly h3 h5 h7 hk
        have w3 := (w2.same e).mono (show 100 + i ≤ 100 + (i + 1) by omega)
        obtain ⟨rp3, r3, rxs3, k1, k2, k3, k4, k5, k6⟩ := w3.get hat
        obtain rfl : r = r3 := by rw [g2] at k2; exact Option.some.inj k2
        obtain rfl : rp = rp3 := by rw [g1] at k1; exact Option.some.inj k1
        have lx := dps_len k6
        have lyy := dps_len dyy
        have rlen := g3.1
        have hrp14 : H14 rp = some (.lst rxs2) := e14 _ _ g5'
        have hne : rp ≠ p := fun z => by rw [z, hp0] at hrp14; cases hrp14
        refine slc_go h3 h5 h7 w3.1 g1 k5 hpy hne (by omega) (Nat.le_trans (by omega : _ ≤ 1000) (by decide)) (hk _ (rows.set at_ (r.take pl ++ dy ++ r.drop (pl + 1))) (w3.put g1 ⟨?_, fun x hx => ?_⟩ (dps_app (dps_app (dps_take pl k6) dyy) (dps_drop (pl + 1) k6))) ?_ ?_ ?_ ?_ ?_)
        · rw [List.length_append, List.length_append, List.length_take, List.length_drop]
          omega
        · rcases List.mem_append.mp hx with hx | hx
          · rcases List.mem_append.mp hx with hx | hx
            · exact g3.2 x (List.mem_of_mem_take hx)
            · exact gy x hx
          · exact g3.2 x (List.mem_of_mem_drop hx)
        · rw [upd_ne fun z => z2 (by rw [z]; exact List.mem_of_getElem? g1)]
          exact e _ _ q14
        · exact dps_mutL k5 nls' (dps_same e d14)
        · rw [List.length_set]; exact z8
        · exact but_mut (z9.trans (b014.s e)) g4
        · exact ((st14.same e).mut (ne _ g4)).mono (by omega)
      refine s_if (K := K) (b := decide (way < 7) && isI fr) (tv_and (tv_T (ev_op (ev_var ⟨_, rfl, .int _⟩) ev_int (rd_I0 fun _ => .bl _))) fun _ => tv_B (ev_isi2 rfl (ev_var ⟨_, rfl, dvf⟩) (kit_int _))) (fun hb H15 e15 => ?_) fun hb H15 e15 => ?_
      · rw [Bool.and_eq_true, decide_eq_true_eq] at hb
        refine lst1_go ?_
        obtain ⟨cd, hc1, hc2⟩ := atI_nat (xs := ([.int 1, .int (-1), .int (-1), .int 2, .int (-9), .int (-1), .int 1] : List D)) (r := way) w0 (by show way < 7; exact hb.1)
        have hc3 : ∃ c, cd = .int c := by
          simp only [List.mem_cons, List.not_mem_nil, or_false] at hc2
          rcases hc2 with h | h | h | h | h | h | h <;> exact ⟨_, h⟩
        obtain ⟨c, rfl⟩ := hc3
        have hfr : (∃ m, fr = .int m) ∨ ∃ b, fr = .bool b := by
          have := hb.2
          cases fr <;> first | exact .inl ⟨_, rfl⟩ | exact .inr ⟨_, rfl⟩ | cases this
        rcases hfr with ⟨m, rfl⟩ | ⟨b, rfl⟩
        · refine Ev.go (K := K) (c := .int (m + c)) (ev_op (ev_var ⟨_, rfl, dp_same e15 dvf⟩) (ev_op (ev_lst (by walk_at "AV") (by show 7 ≤ 100000; decide)) (ev_var ⟨_, rfl, .int _⟩) (rd_ixL hc1)) rd_addI) fun vn H16 e16 dn => ?_
          obtain rfl := dp_int dn
          exact ⟨by show 1 ≤ sizeLine; decide, fun p hp => key (dy := [.int (m + c)]) ((e15.trans e16).trans (Same.new hp)) (none_of (e15.trans e16) hp) upd_same (.cons (.int _) .nil) (fun x hx => by rw [List.mem_singleton.mp hx]; exact ⟨rfl, rfl⟩) (Nat.le_refl 1) rfl rfl rfl fun Hz rows' m1 m2 m3 m4 m5 m6 => ⟨q, ss', us, ps, rows', _, _, _, _, _, _, _, _, _, rfl, m1, z2, zL, m2, z4, m3, z6, by omega, m4, m5, m6⟩⟩
        · refine Ev.go (K := K) (c := .int ((if b = true then (1 : Int) else 0) + c)) (ev_op (ev_var ⟨_, rfl, dp_same e15 dvf⟩) (ev_op (ev_lst (by walk_at "AV") (by show 7 ≤ 100000; decide)) (ev_var ⟨_, rfl, .int _⟩) (rd_ixL hc1)) rd_addB) fun vn H16 e16 dn => ?_
          obtain rfl := dp_int dn
          exact ⟨by show 1 ≤ sizeLine; decide, fun p hp => key (dy := [.int ((if b = true then (1 : Int) else 0) + c)]) ((e15.trans e16).trans (Same.new hp)) (none_of (e15.trans e16) hp) upd_same (.cons (.int _) .nil) (fun x hx => by rw [List.mem_singleton.mp hx]; exact ⟨rfl, rfl⟩) (Nat.le_refl 1) rfl rfl rfl fun Hz rows' m1 m2 m3 m4 m5 m6 => ⟨q, ss', us, ps, rows', _, _, _, _, _, _, _, _, _, rfl, m1, z2, zL, m2, z4, m3, z6, by omega, m4, m5, m6⟩⟩
      · try dsimp only
        refine s_if (K := K) (b := (way == 7)) (tv_is (by walk_at "TV") eqv_ints) (fun hb H16 e16 => ?_) fun hb7 H16 e16 => ?_
        · have e56 := e15.trans e16
          refine lst1_go ⟨odd, rfl, by show 1 ≤ sizeLine; decide, fun p hp => key (dy := [dodd]) (e56.trans (Same.new hp)) (none_of e56 hp) upd_same (.cons (dp_atom god.1 hd2) .nil) (fun x hx => by rw [List.mem_singleton.mp hx]; exact god) (Nat.le_refl 1) rfl rfl rfl fun Hz rows' m1 m2 m3 m4 m5 m6 => ⟨q, ss', us, ps, rows', _, _, _, _, _, _, _, _, _, rfl, m1, z2, zL, m2, z4, m3, z6, by omega, m4, m5, m6⟩⟩
        · try dsimp only
          refine s_if (K := K) (b := (way == 8)) (tv_is (by walk_at "TV") eqv_ints) (fun hb H17 e17 => ?_) fun hb8 H17 e17 => ?_
          · have e57 := (e15.trans e16).trans e17
            exact ⟨by show 0 ≤ sizeLine; decide, fun p hp => key (dy := []) (e57.trans (Same.new hp)) (none_of e57 hp) upd_same .nil (fun x hx => absurd hx List.not_mem_nil) (Nat.zero_le 1) rfl rfl rfl fun Hz rows' m1 m2 m3 m4 m5 m6 => ⟨q, ss', us, ps, rows', _, _, _, _, _, _, _, _, _, rfl, m1, z2, zL, m2, z4, m3, z6, by omega, m4, m5, m6⟩⟩
          · try dsimp only
            refine s_if (K := K) (b := decide ((8 : Int) < way)) (tv_T (ev_op (ev_var ⟨_, rfl, .int _⟩) ev_int (rd_I0 fun _ => .bl _))) (fun hb H18 e18 => ?_) fun hb9 H18 e18 => ?_
            · have e58 := ((e15.trans e16).trans e17).trans e18
              have d18 : Dp K H18 (.ref q) (.list ss') := .lst (SqL.of (e58 _ _ q14)) (dps_same e58 d14)
              have ds18 : Dp K H18 stp dstp := by
                have := dp_same (e14.trans e58) hd4
                exact this
              have w8 : 8 < way := of_decide_eq_true hb
              have t1 := List.length_take (l := ss') (i := sp)
              have t2 := List.length_drop (l := ss') (i := ((sp : Int) + way - 9).toNat)
              have t3 := List.length_take (l := [dstp]) (i := (11 - way).toNat)
              have t31 : (([dstp] : List D).take (11 - way).toNat).length ≤ 1 := by rw [t3]; exact Nat.min_le_right _ _
              have ln : (ss'.take sp ++ [dstp].take (11 - way).toNat ++ ss'.drop ((sp : Int) + way - 9).toNat).length ≤ ss'.length + 1 := by
                rw [List.length_append, List.length_append, t1, t2]
                omega
              have rl3 : ∀ z : Int, ([dstp] : List D).length ≤ 100000 := fun _ => by show 1 ≤ 100000; decide
              have rl4 := rl3 0
              refine evn_cat (K := K) (xs := ss'.take sp ++ [dstp].take (11 - way).toNat) (ys := ss'.drop ((sp : Int) + way - 9).toNat)
                (ev_op (ev_is (d := .list (cutD ss' none (some ((sp : Nat) : Int)))) (by walk_at "EV") (by rw [cut_to (by omega)]; rfl)) (ev_is (d := .list (cutD [dstp] none (some (11 - way)))) (ev_sl2 rfl (ev_lst (av_cons (ev_var ⟨_, rfl, ds18⟩) av_nil) rl4) ov_no (ov_some (ev_op ev_int (ev_var ⟨_, rfl, .int _⟩) (rd_I0 fun _ => .int _))) SlD.l) (by rw [cut_to (by omega)])) (rd_addL (by rw [t1]; omega)))
                (ev_is (d := .list (cutD ss' (some ((sp : Int) + way - 9)) none)) (ev_sl2 rfl (ev_var ⟨_, rfl, d18⟩) (ov_some (ev_op (ev_op (ev_var ⟨_, rfl, .int _⟩) (ev_var ⟨_, rfl, .int _⟩) rd_addI) ev_int (rd_I0 fun _ => .int _))) ov_no SlD.l) (by rw [cut_from (by omega)])) (by rw [← List.length_append]; omega) rfl fun p9 us9 H19 e19 hp0 hp du => ?_
              have e59 := e58.trans e19
              have b59 := (z9.trans (b014.s e58))
              have w9 := w2.same e58
              refine ⟨p9, _, us9, ps, rows, _, _, _, _, _, _, _, _, _, rfl, (w2.same e59).mono (by omega), fun z => ?_, fun z => ?_, hp, but_none b59 ((st14.same e58).ne hp0) hp0, du, fun x hx => ?_, by omega, z8, b59.s e19, (st14.same e59).mono (by omega)⟩
              · obtain ⟨j, hj, ej⟩ := List.mem_iff_getElem.mp z
                obtain ⟨_, _, xs2, q3, _⟩ := w9.2.2.2.2.2 j p9 _ (by rw [List.getElem?_eq_getElem hj, ej]) (List.getElem?_eq_getElem (by rw [← w9.2.2.1]; exact hj))
                rw [hp0] at q3; cases q3
              · have := w9.1
                rw [← z, hp0] at this; cases this
              · rcases List.mem_append.mp hx with hx | hx
                · rcases List.mem_append.mp hx with hx | hx
                  · exact z6 x (List.mem_of_mem_take hx)
                  · rw [List.mem_singleton.mp (List.mem_of_mem_take hx)]; exact gos
                · exact z6 x (List.mem_of_mem_drop hx)
            · have e58 := ((e15.trans e16).trans e17).trans e18
              exact ⟨q, ss', us, ps, rows, _, _, _, _, _, _, _, _, _, rfl, (w2.same e58).mono (by omega), z2, zL, e58 _ _ q14, z4, dps_same e58 d14, z6, by omega, z8, z9.trans (b014.s e58), (st14.same e58).mono (by omega)⟩
    · obtain ⟨q, ss', us, ps, rows, o4, o5, o6, o7, o8, o9, o10, o11, o12, rfl, z1, z2, zL, z3, z4, z5, z6, z7, z8, z9, z10⟩ := z
      have hn2 : n.toNat ≤ 2 := by omega
      have dr := z1.dp
      have dst : Dp K Hx (.ref q) (.list ss') := .lst (SqL.of z3) z5
      have gr : ∀ r ∈ rows, goodR 110 r := fun r hr => by
        obtain ⟨j, hj, ej⟩ := List.mem_iff_getElem.mp hr
        obtain ⟨_, r2, _, _, g2, g3, _⟩ := z1.get hj
        rw [List.getElem?_eq_getElem hj, ej] at g2
        obtain rfl := Option.some.inj g2
        exact g3.mono (by omega)
      have em : ((rows.map PyData.list).filter fun _ => true).map tupOf = rows.map PyData.tuple := by
        rw [List.filter_eq_self.mpr fun _ _ => rfl, List.map_map]
        rfl
      try dsimp only
      refine s_ret (K := K) (d := .tuple [.tuple ss', .tuple (rows.map .tuple)]) (ev_tup (av_cons (ev_cb (av_cons (ev_var ⟨_, rfl, dst⟩) av_nil) rc_tupL) (av_cons (ev_cb (av_cons (ev_is (ev_lc (ds := rows.map PyData.list) (p := fun _ => true) (f := tupOf) (yd_any (ev_var ⟨_, rfl, dr⟩) rfl) (fun e he v' H4 k4 dv' R q => ?_) (by rw [List.length_map]; omega)) (congrArg PyData.list em)) av_nil) rc_tupL) av_nil)) (by show 2 ≤ 100000; decide)) fun u H2 e2 du => k u ss' rows H2 (z9.s e2) ((z10.same e2).mono (by omega)) z6 gr du
      obtain ⟨r, hr, rfl⟩ := List.mem_map.mp he
      refine q _ wipe1 (fun _ _ _ q => q _ (Same.refl _)) fun _ => ⟨ev_cb (av_cons (ev_var ⟨_, rfl, dv'⟩) av_nil) rc_tupL, ?_⟩
      exact noL_tup fun x hx => noL_atom ((gr r hr).2 x hx).1
end
end K5
set_option Elab.async false
set_option linter.all false
set_option maxRecDepth 100000
set_option maxHeartbeats 4000000
/-! Many bent papers. -/
namespace K5
open PySem L2 PySem.Spec PyProof.Rows
theorem lc_bents {K : PySem.W.Frag} {s : L2.St} {H : Hp} {n : Nat} {te : TE} {a : Addr} {t : Int} {j : Nat} {Q : VK} (hn : n ≤ 100) (st : StA H a t)
    (hs : ∀ (i : Nat) (Hc : Hp) (tc : Int), i < n → But a H Hc → StA Hc a tc → tc ≤ t + 200 * (n : Int) → ∀ R : VK, (∀ u d H', But a Hc H' → StA H' a (tc + 200) → okT d ∧ noL d = true → Dp K H' u d → R u H') → te ((wipe s [j]).set j (some (.int (0 + (i : Nat))))) Hc R)
    (k : ∀ p ds H', But a H H' → StA H' a (t + 200 * (n : Int)) → ds.length = n → (∀ d ∈ ds, okT d) → Dp K H' (.ref p) (.list ds) → Q (.ref p) H') :
    tLc (iRng1 (tCons (tC (.int ((n : Nat) : Int))) tNil)) (gName j) tYes te [j] s H Q := by
  refine ⟨(n : Nat), rfl, by omega, by omega, ?_⟩
  intro L hL
  have hLa : L ≠ a := st.ne hL
  rw [show ((n : Nat) : Int).toNat = n from Int.toNat_natCast n]
  refine lc_it walk_range (fun i Hc => ∃ (acc : List V) (ds : List D), Hc L = some (.lst acc) ∧ DpAll K Hc acc ds ∧ ds.length = i ∧ (∀ d ∈ ds, okT d ∧ noL d = true) ∧ But a H Hc ∧ StA Hc a (t + 200 * (i : Int))) ⟨[], [], upd_same, .nil, rfl, fun d hd => absurd hd List.not_mem_nil, but_mut (But.refl H) hL, by simpa using st.mut hLa⟩ (fun _ _ _ _ => trivial) (fun i x Ha Hb hi q y => ?_) fun H3 q => ?_
  · obtain ⟨acc, ds, q1, q2, q3, q4, q5, q6⟩ := q
    obtain ⟨rfl, rfl⟩ := y
    refine ⟨wipe1, s_yes ?_⟩
    refine hs i _ _ hi q5 q6 (by omega) _ fun u d H' b st' hd du => ?_
    have hL' := b L _ hLa q1
    have nls : noLs (ds ++ [d]) = true := noLs_all fun x hx => by
      rcases List.mem_append.mp hx with h | h
      · exact (q4 x h).2
      · rw [List.mem_singleton.mp h]; exact hd.2
    refine ⟨acc, hL', by rw [dps_len q2, q3]; exact Nat.lt_of_lt_of_le (by omega : i < 1000) (by decide), acc ++ [u], ds ++ [d], upd_same, dps_mutL hL' nls (dps_app ((q6.pr b).dps q2) (.cons du .nil)), by rw [List.length_append, q3]; rfl, fun x hx => ?_, but_mut (q5.trans b) hL, (st'.mut hLa).mono (by rw [Int.natCast_add]; omega)⟩
    rcases List.mem_append.mp hx with h | h
    · exact q4 x h
    · rw [List.mem_singleton.mp h]; exact hd
  · obtain ⟨acc, ds, q1, q2, q3, q4, q5, q6⟩ := q
    exact k L ds H3 q5 q6 q3 (fun d hd => (q4 d hd).1) (.lst (SqL.of q1) q2)
def rowsI (rs : List (List Int)) : List D := rs.map fun r => .tuple (r.map .int)
def mapI (g : Int → Int) (d : D) : D := match d with | .int i => .int (g i) | x => x
def mapT (h : D → D) (d : D) : D := match d with | .tuple xs => .tuple (xs.map h) | x => x
theorem mapI_row {g : Int → Int} {r : List Int} : ((r.map PyData.int).filter fun _ => true).map (mapI g) = (r.map g).map PyData.int := by
  rw [List.filter_eq_self.mpr fun _ _ => rfl, List.map_map, List.map_map]
  rfl
theorem mapT_rows {g : Int → Int} {rs : List (List Int)} : ((rowsI rs).filter fun _ => true).map (mapT (mapI g)) = rowsI (rs.map fun r => r.map g) := by
  rw [List.filter_eq_self.mpr fun _ _ => rfl]
  unfold rowsI
  rw [List.map_map, List.map_map]
  refine List.map_congr_left fun r _ => ?_
  show PyData.tuple ((r.map PyData.int).map (mapI g)) = .tuple ((r.map g).map .int)
  rw [List.map_map, List.map_map]
  rfl
theorem cutD_len {xs : List D} {lo hi : Option Int} : (cutD xs lo hi).length ≤ xs.length := by
  unfold cutD
  rw [List.length_take, List.length_drop]
  omega
def itemsT (d : D) : List D := match d with | .tuple xs => xs | _ => []
theorem items_rows {rs : List (List Int)} : (((rowsI rs).filter fun _ => true).map itemsT).map PyData.list = rs.map fun r => .list (r.map .int) := by
  rw [List.filter_eq_self.mpr fun _ _ => rfl]
  unfold rowsI
  rw [List.map_map, List.map_map]
  rfl
def onT (h : List D → List D) (d : D) : D := match d with | .tuple xs => .tuple (h xs) | x => x
theorem onT_rows {h : List D → List D} {g : List Int → List Int} {rs : List (List Int)} (e : ∀ r : List Int, h (r.map PyData.int) = (g r).map PyData.int) : ((rowsI rs).filter fun _ => true).map (onT h) = rs.map fun r => PyData.tuple ((g r).map .int) := by
  rw [List.filter_eq_self.mpr fun _ _ => rfl]
  unfold rowsI
  rw [List.map_map]
  exact List.map_congr_left fun r _ => congrArg PyData.tuple (e r)
theorem rowsI_eq {rs : List (List Int)} : rowsI rs = (rs.map fun r => r.map PyData.int).map .tuple := by
  unfold rowsI
  rw [List.map_map]
  rfl
theorem okT_noL {d : D} (h : noL d = true) (g : gdn 6 d = true) : okT d := by
  have two : ∀ s r, d = .tuple [s, r] → noL s = true ∧ noL r = true := fun s r e => by
    subst e
    unfold noL at h
    exact ⟨noLs_mem h s (by simp), noLs_mem h r (by simp)⟩
  refine ⟨g, fun s r e rs er xs hx => ?_, fun s r e ss es => ?_⟩
  · have := (two s r e).2
    rw [er] at this
    unfold noL at this
    have := noLs_mem this _ hx
    unfold noL at this
    exact this
  · have := (two s r e).1
    rw [es] at this
    unfold noL at this
    exact this
theorem ok_bent {n : Nat} {ss : List D} {rs : List (List D)} (h : goodS ss) (g : ∀ r ∈ rs, goodR n r) : okT (.tuple [.tuple ss, .tuple (rs.map .tuple)]) ∧ noL (.tuple [.tuple ss, .tuple (rs.map .tuple)]) = true := by
  have n1 : noL (.tuple ss) = true := noL_tup fun x hx => (h x hx).1
  have n2 := noL_tups g
  have n3 : noL (.tuple [.tuple ss, .tuple (rs.map .tuple)]) = true := noL_tup fun x hx => by
    simp only [List.mem_cons, List.not_mem_nil, or_false] at hx
    rcases hx with rfl | rfl
    · exact n1
    · exact n2
  have g1 : gdn 4 (.tuple ss) = true := List.all_eq_true.mpr fun x hx => (h x hx).2
  have g2 : gdn 4 (.tuple (rs.map .tuple)) = true := List.all_eq_true.mpr fun x hx => by
    obtain ⟨r, hr, rfl⟩ := List.mem_map.mp hx
    exact List.all_eq_true.mpr fun y hy => gdn_mono ((g r hr).2 y hy).2 (by decide)
  have g3 : gdn 5 (.tuple [.tuple ss, .tuple (rs.map .tuple)]) = true := List.all_eq_true.mpr fun x hx => by
    simp only [List.mem_cons, List.not_mem_nil, or_false] at hx
    rcases hx with rfl | rfl
    · exact g1
    · exact g2
  exact ⟨okT_noL n3 (gdn_mono g3 (by decide)), n3⟩
theorem noL_intT {r : List Int} : noL (.tuple (r.map .int)) = true := noL_tup fun x hx => by
  obtain ⟨i, _, rfl⟩ := List.mem_map.mp hx
  rfl
theorem gdn_ss {ss : List D} (h : goodS ss) : gdn 4 (.tuple ss) = true := List.all_eq_true.mpr fun x hx => (h x hx).2
theorem gdn_ints {r : List Int} : gdn 1 (.tuple (r.map .int)) = true := List.all_eq_true.mpr fun x hx => by
  obtain ⟨i, _, rfl⟩ := List.mem_map.mp hx
  rfl
theorem gdn_rowsI {rs : List (List Int)} : gdn 2 (.tuple (rowsI rs)) = true := List.all_eq_true.mpr fun x hx => by
  obtain ⟨r, _, rfl⟩ := List.mem_map.mp hx
  exact gdn_ints
theorem noL_rowsI {rs : List (List Int)} : noL (.tuple (rowsI rs)) = true := noL_tup fun x hx => by
  obtain ⟨r, _, rfl⟩ := List.mem_map.mp hx
  exact noL_intT
theorem noL_ss {ss : List D} (h : goodS ss) : noL (.tuple ss) = true := noL_tup fun x hx => (h x hx).1
theorem gdn2 {n : Nat} {x y : D} (h1 : gdn n x = true) (h2 : gdn n y = true) : gdn (n + 1) (.tuple [x, y]) = true := List.all_eq_true.mpr fun z hz => by
  simp only [List.mem_cons, List.not_mem_nil, or_false] at hz
  rcases hz with rfl | rfl
  · exact h1
  · exact h2
theorem noL2 {x y : D} (h1 : noL x = true) (h2 : noL y = true) : noL (.tuple [x, y]) = true := noL_tup fun z hz => by
  simp only [List.mem_cons, List.not_mem_nil, or_false] at hz
  rcases hz with rfl | rfl
  · exact h1
  · exact h2
theorem okT_two {x y : D} (h1 : noL x = true) (h2 : noL y = true) (g1 : gdn 4 x = true) (g2 : gdn 4 y = true) : okT (.tuple [x, y]) := okT_noL (noL2 h1 h2) (gdn_mono (gdn2 g1 g2) (by decide))
theorem okT_ll {x : D} {ys : List D} (g1 : gdn 4 x = true) (h1 : noL x = true) (g2 : gdn 4 (.list ys) = true) : okT (.tuple [x, .list ys]) := by
  refine ⟨gdn_mono (gdn2 g1 g2) (by decide), fun s r e => ?_, fun s r e => ?_⟩
  · cases e
    intro rs z
    cases z
  · cases e
    intro ss z
    rw [z] at h1
    unfold noL at h1
    exact h1
theorem okT_lr {xs : List D} {y : D} (g1 : gdn 4 (.list xs) = true) (h2 : noL y = true) (g2 : gdn 4 y = true) : okT (.tuple [.list xs, y]) := by
  refine ⟨gdn_mono (gdn2 g1 g2) (by decide), fun s r e => ?_, fun s r e => ?_⟩
  · cases e
    intro rs z xs2 hx
    rw [z] at h2
    unfold noL at h2
    have := noLs_mem h2 _ hx
    unfold noL at this
    exact this
  · cases e
    intro ss z
    cases z
theorem okT_rl {x : D} {ys : List (List D)} (h1 : noL x = true) (g1 : gdn 4 x = true) (g2 : gdn 4 (.tuple (ys.map .list)) = true) : okT (.tuple [x, .tuple (ys.map .list)]) := by
  refine ⟨gdn_mono (gdn2 g1 g2) (by decide), fun s r e => ?_, fun s r e => ?_⟩
  · cases e
    intro rs z xs2 hx
    cases z
    obtain ⟨r, _, z⟩ := List.mem_map.mp hx
    cases z
  · cases e
    intro ss z
    rw [z] at h1
    unfold noL at h1
    exact h1
theorem rows_g {g : List Int → List Int} {rs : List (List Int)} : (rs.map fun r => PyData.tuple ((g r).map .int)) = rowsI (rs.map g) := by
  unfold rowsI
  rw [List.map_map]
  rfl
theorem rows_l {rs : List (List Int)} : (rs.map fun r => PyData.list (r.map .int)) = (rs.map fun r => r.map PyData.int).map .list := by
  rw [List.map_map]
  rfl
theorem rows_cut {rs : List (List Int)} {lo hi : Option Int} : cutD (rowsI rs) lo hi = rowsI (cutD rs lo hi) := cutD_map
theorem rows_app {rs qs : List (List Int)} : rowsI rs ++ rowsI qs = rowsI (rs ++ qs) := (List.map_append).symm
theorem ok18 {ss : List D} {rs : List (List Int)} {last sp : Int} (gs : goodS ss) : ∀ d ∈ (([PyData.tuple [.tuple ss, .tuple (rowsI rs)], .tuple [.tuple ss, .tuple (rowsI (rs.map fun r => r.map fun i => min2I i last))], .tuple [.tuple ss, .tuple (rowsI (rs.map fun r => r.map fun _ => (0 : Int)))],
    .tuple [.tuple (cutD ss none (some sp) ++ [PyData.tuple [.str "put", .str "a"]] ++ cutD ss (some sp) none), .tuple (rowsI rs)], .tuple [.tuple (rowsI rs), .tuple ss]] ++ [PyData.tuple [.list ss, .tuple (rowsI rs)], .tuple [.tuple ss, .list (rowsI rs)], .tuple [.tuple ss, .tuple (rs.map fun r => .list (r.map .int))], .tuple [.tuple ss]])
    ++ [PyData.none, .list [.tuple ss, .tuple (rowsI rs)], .tuple [.tuple ss, .tuple (rowsI rs), .int 0], .tuple [.tuple ss, .tuple (cutD (rowsI rs) (some 1) none)], .tuple [.tuple ss, .tuple (rowsI rs ++ cutD (rowsI rs) (some (-1)) none)], .tuple [.tuple [], .tuple (rowsI rs)], .tuple ss])
    ++ [PyData.tuple [.tuple ss, .tuple (rs.map fun r => .tuple ((r ++ cutD r (some (-1)) none).map .int))], .tuple [.tuple ss, .tuple (rs.map fun r => .tuple ((cutD r none (some (-1))).map .int))]], okT d := by
  have nS := noL_ss gs
  have gS := gdn_ss gs
  have gR : ∀ rs : List (List Int), gdn 4 (.tuple (rowsI rs)) = true := fun rs => gdn_mono gdn_rowsI (by decide)
  have two : ∀ rs : List (List Int), okT (.tuple [.tuple ss, .tuple (rowsI rs)]) := fun rs => okT_two nS noL_rowsI gS (gR rs)
  have gp : goodS (cutD ss none (some sp) ++ [PyData.tuple [.str "put", .str "a"]] ++ cutD ss (some sp) none) := fun x hx => by
    have mc : ∀ lo hi, x ∈ cutD ss lo hi → x ∈ ss := fun lo hi h => List.mem_of_mem_drop (List.mem_of_mem_take h)
    rcases List.mem_append.mp hx with h | h
    · rcases List.mem_append.mp h with h | h
      · exact gs x (mc _ _ h)
      · rw [List.mem_singleton.mp h]
        exact ⟨rfl, by decide +kernel⟩
    · exact gs x (mc _ _ h)
  intro d hd
  rw [rows_cut, rows_cut, rows_app, rows_g, rows_g, rows_l] at hd
  simp only [List.mem_append, List.mem_cons, List.not_mem_nil, or_false] at hd
  rcases hd with ((((h | h | h | h | h) | h | h | h | h) | h | h | h | h | h | h | h) | h | h) <;> subst h
  · exact two _
  · exact two _
  · exact two _
  · exact okT_two (noL_ss gp) noL_rowsI (gdn_ss gp) (gR _)
  · exact okT_two noL_rowsI nS (gR _) gS
  · exact okT_lr (show gdn 4 (.list ss) = true from gS) noL_rowsI (gR _)
  · exact okT_ll gS nS (show gdn 4 (.list (rowsI rs)) = true from gR _)
  · refine okT_rl nS gS ?_
    rw [← rows_l]
    refine List.all_eq_true.mpr fun x hx => ?_
    obtain ⟨r, _, rfl⟩ := List.mem_map.mp hx
    exact (show gdn 3 (.list (r.map PyData.int)) = true from gdn_mono (n := 1) (show gdn 1 (.list (r.map PyData.int)) = true from gdn_ints (r := r)) (by decide))
  · exact okT_noL (noL_tup fun x hx => by rw [List.mem_singleton.mp hx]; exact nS) (show ([PyData.tuple ss].all (gdn 5)) = true by rw [List.all_cons, gdn_mono gS (by decide : 4 ≤ 5)]; rfl)
  · exact okT_noL rfl rfl
  · exact ⟨gdn_mono (n := 5) (show gdn 5 (.list [.tuple ss, .tuple (rowsI rs)]) = true from gdn2 gS (gR rs)) (by decide), fun s r e => (nomatch e), fun s r e => (nomatch e)⟩
  · refine okT_noL (noL_tup fun x hx => ?_) (show ([PyData.tuple ss, .tuple (rowsI rs), .int 0].all (gdn 5)) = true by rw [List.all_cons, List.all_cons, gdn_mono gS (by decide : 4 ≤ 5), gdn_mono (gR rs) (by decide : 4 ≤ 5)]; rfl)
    simp only [List.mem_cons, List.not_mem_nil, or_false] at hx
    rcases hx with rfl | rfl | rfl
    · exact nS
    · exact noL_rowsI
    · rfl
  · exact two _
  · exact two _
  · exact okT_two rfl noL_rowsI rfl (gR _)
  · exact okT_noL nS (gdn_mono gS (by decide))
  · exact two _
  · exact two _
end K5
set_option Elab.async false
set_option linter.all false
set_option maxRecDepth 100000
set_option maxHeartbeats 4000000
/-! Things near a paper. -/
namespace K5
open PySem L2 PySem.Spec PyProof.Rows
local macro_rules | `(tactic| walk_at "DP") => `(tactic| first | with_reducible assumption | with_reducible exact Dp.int _ | with_reducible exact Dp.str _ | with_reducible exact Dp.bl _ | with_reducible exact Dp.non | with_reducible exact dp_up (by assumption) (by assumption))
local macro_rules | `(tactic| walk_at "SH") => `(tactic| first | with_reducible assumption | rfl)
local macro_rules | `(tactic| walk_at "RD") => `(tactic| first | with_reducible assumption | exact rd_addI | exact rd_I0 fun _ => .int _ | exact rd_I0 fun _ => .bl _ | exact rd_ixL (by with_reducible assumption) | exact rd_ixT (by with_reducible assumption) | exact rd_ixS (by with_reducible assumption) (by with_reducible assumption) | exact rd_eqD (by walk_at "SH") (by walk_at "SH") | exact rd_neD (by walk_at "SH") (by walk_at "SH") | exact rd_inS | exact rd_notN | exact rd_isN | exact rd_addL (by with_reducible assumption) | exact rd_addT (by with_reducible assumption) | exact rd_addS (by with_reducible assumption))
local macro_rules | `(tactic| walk_at "OV") => `(tactic| first | with_reducible exact ov_no | ((with_reducible apply ov_some); walk_at "EV"))
local macro_rules | `(tactic| walk_at "AV") => `(tactic| first | with_reducible assumption | with_reducible exact av_nil | ((with_reducible apply av_cons); walk_at "EV"; walk_at "AV"))
local macro_rules | `(tactic| walk_at "RC") => `(tactic| first | with_reducible assumption | exact rc_len (by (first | with_reducible assumption | trivial)) | exact rc_tupL | exact rc_tupT | exact rc_lstL | exact rc_lstT | exact rc_all | exact rc_sum | exact rc_min2 | exact rc_min3)
local macro_rules | `(tactic| walk_at "KIT") => `(tactic| first | with_reducible exact kit_int _ | with_reducible exact kit_bool _ | with_reducible exact kit_str _ | with_reducible exact kit_tuple _)
local macro_rules | `(tactic| walk_at "EV") => `(tactic| first | with_reducible assumption | with_reducible exact ev_int | with_reducible exact ev_str | with_reducible exact ev_bl | with_reducible exact ev_non | ((with_reducible apply ev_var); exact sl_mk rfl (by walk_at "DP")) | ((with_reducible apply ev_op); walk_at "EV"; walk_at "EV"; walk_at "RD") | ((with_reducible apply ev_neg); walk_at "EV") | ((with_reducible apply ev_tup); walk_at "AV"; (first | (with_reducible assumption) | decide)) | ((with_reducible apply ev_lst); walk_at "AV"; (first | (with_reducible assumption) | decide)) | ((with_reducible apply ev_call); walk_at "AV"; with_reducible assumption) | ((with_reducible apply ev_isi2); exact rfl; walk_at "EV"; walk_at "KIT") | ((with_reducible apply ev_cb); walk_at "AV"; walk_at "RC") | ((with_reducible apply ev_chain); walk_at "EV"; walk_at "EV"; walk_at "RD"; intro _; walk_at "EV"; intro _; walk_at "RD") | ((with_reducible apply ev_andV); walk_at "EV"; intro _; walk_at "EV") | ((with_reducible apply ev_orV); walk_at "EV"; intro _; walk_at "EV") | ((with_reducible apply ev_notV); walk_at "EV") | ((with_reducible apply ev_sl2); exact rfl; walk_at "EV"; walk_at "OV"; walk_at "OV"; walk_at "SLD") | ((with_reducible apply ev_rev2); exact rfl; walk_at "EV"))
local macro_rules | `(tactic| walk_at "SLD") => `(tactic| first | with_reducible exact SlD.l | with_reducible exact SlD.t | with_reducible exact SlD.s (by with_reducible assumption))
local macro_rules | `(tactic| walk_at "TV") => `(tactic| first | with_reducible assumption | ((with_reducible apply tv_and); walk_at "TV"; intro _; walk_at "TV") | ((with_reducible apply tv_or); walk_at "TV"; intro _; walk_at "TV") | ((with_reducible apply tv_not); walk_at "TV") | ((with_reducible apply tv_B); walk_at "EV") | ((with_reducible apply tv_T); walk_at "EV"))
local macro_rules | `(tactic| walk_at "NX") => `(tactic| ((try dsimp only); (try with_reducible apply s_next); (try dsimp only); (try with_reducible apply s_seq)))

section
variable {P : Program} {w : World} {K : PySem.W.Frag} {mg : Str → Option Value} {base : Heap}
abbrev s_L_papers : Stmt := topS 60
abbrev N_L_papers : List Str := ["_law_state", "_law_one", "_law_paper", "_law_steps", "_law_rows", "_law_last", "_law_cut", "_law_flat", "_law_spot", "_law_some", "_law_row", "_law_j", "_law_number"]
theorem sc_L_papers : FnScope N_L_papers ["_law_state", "_law_one", "_law_paper"] (defScope s_L_papers) := ⟨rfl, rfl, rfl, by decide +kernel, rfl, by decide +kernel, by decide +kernel⟩
def spPapers (K : PySem.W.Frag) : Sp := fun vs H Q _ => ∃ (a : Addr) (x y : V) (t : Int) (ws : List Str) (ss : List D) (rs : List (List Int)) (m : Nat), vs = [.ref a, x, y] ∧ Dp K H x (wordsD ws) ∧ Dp K H y (.tuple [.tuple ss, .tuple (rowsI rs)]) ∧ StA H a t ∧ t ≤ 600000 ∧ ws.length ≤ 6 ∧ ss.length ≤ 20 ∧ rs.length = ws.length + 1 ∧ (∀ r ∈ rs, r.length = m + 1) ∧ m ≤ 6 ∧ goodS ss ∧
  ∀ u ds H', But a H H' → StA H' a (t + 3000) → ds.length ≤ 100 → (∀ d ∈ ds, okT d) → Dp K H' u (.list ds) → Q u H'
theorem c_L_papers (T : Txt w K mg) (d : DefAt K mg "_law_papers" s_L_papers) (G_L_digit : KCal P w K mg base CX0 2 "_law_digit" ["_law_state", "_law_many"] (spDigit K)) (G_L_bent : KCal P w K mg base CX0 3 "_law_bent" ["_law_state", "_law_paper"] (spBent K)) : KCal P w K mg base CX0 4 "_law_papers" ["_law_state", "_law_one", "_law_paper"] (spPapers K) := by
  refine d.cal (fun _ _ _ _ _ _ us hl => match us, hl with | [_, _, _], _ => rfl) fun f fd F => F.ok sc_L_papers (fun vs H Q E h => by obtain ⟨_, _, _, _, _, _, _, _, rfl, _⟩ := h; rfl) (fun cdv A outer s H vs Q E hr h => ?_)
  have hu := hr.units
  refine ⟨_, (pss_cons (ps_asg (pe_tup (pa_cons (pv 2) (pa_cons (pe_ix ix_seq (pe_ix ix_seq (pe_ix ix_seq (pv 2) pe_int (fun _ _ => rfl)) (pe_callB call_len (by rfl) T.n_len (by decide +kernel) (pa_cons (pv 1) pa_nil)) (fun _ _ => rfl)) (pe_op op_sub (pe_callB call_len (by rfl) T.n_len (by decide +kernel) (pa_cons (pe_ix ix_seq (pe_ix ix_seq (pv 2) pe_int (fun _ _ => rfl)) pe_int (fun _ _ => rfl)) pa_nil)) pe_int) (fun _ _ => rfl)) pa_nil))) (pg_tup rfl (pgs_cons (pg_tup rfl (pgs_cons (pg_name (i := 3) sc_L_papers.nd rfl (Or.inr rfl)) (pgs_cons (pg_name (i := 4) sc_L_papers.nd rfl (Or.inl rfl)) pgs_nil))) (pgs_cons (pg_name (i := 5) sc_L_papers.nd rfl (Or.inr rfl)) pgs_nil))))
  (pss_cons (ps_set (i := 6) sc_L_papers.nd rfl (Or.inr rfl) (pe_callTy call_tuple_of (by rfl) T.n_tuple (by decide +kernel) (pa_cons (pe_lc (own := [("_law_row", 10)]) rfl sc_L_papers.nd (pi_any (pv 4)) (blkOk_by (N := N_L_papers) (sc := defScope s_L_papers) (by decide +kernel)) (fun _ _ _ _ _ => (pg_name (i := 10) sc_L_papers.nd rfl (Or.inl rfl))) (fun _ _ _ _ _ => pts_nil) (fun _ _ _ _ _ => (pe_callTy (show CallR _ _ (rTupOf K) from call_tuple_of) (by rfl) T.n_tuple (by decide +kernel) (pa_cons (pe_lc (own := [("_law_number", 12)]) rfl sc_L_papers.nd (show PI _ _ _ (iAny K _) from pi_any (pv 10)) (blkOk_by (N := N_L_papers) (sc := relS _ (defScope s_L_papers)) (by decide +kernel)) (fun _ _ _ _ _ => (pg_name (i := 12) sc_L_papers.nd rfl (Or.inl rfl))) (fun _ _ _ _ _ => pts_nil) (fun _ _ _ _ _ => (pe_callB (call_min2 rfl) (by rfl) T.n_min (by decide +kernel) (pa_cons (pv 12) (pa_cons (pv 5) pa_nil))))) pa_nil)))) pa_nil)))
  (pss_cons (ps_par (i := 7) (j := 8) rfl sc_L_papers.nd rfl rfl (by decide) rfl rfl (pa_cons (pe_callTy call_tuple_of (by rfl) T.n_tuple (by decide +kernel) (pa_cons (pe_lc (own := [("_law_row", 10)]) rfl sc_L_papers.nd (pi_any (pv 4)) (blkOk_by (N := N_L_papers) (sc := defScope s_L_papers) (by decide +kernel)) (fun _ _ _ _ _ => (pg_name (i := 10) sc_L_papers.nd rfl (Or.inl rfl))) (fun _ _ _ _ _ => pts_nil) (fun _ _ _ _ _ => (pe_callTy (show CallR _ _ (rTupOf K) from call_tuple_of) (by rfl) T.n_tuple (by decide +kernel) (pa_cons (pe_lc (own := [("_law_number", 12)]) rfl sc_L_papers.nd (show PI _ _ _ (iAny K _) from pi_any (pv 10)) (blkOk_by (N := N_L_papers) (sc := relS _ (defScope s_L_papers)) (by decide +kernel)) (fun _ _ _ _ _ => (pg_name (i := 12) sc_L_papers.nd rfl (Or.inl rfl))) (fun _ _ _ _ _ => pts_nil) (fun _ _ _ _ _ => pe_int)) pa_nil)))) pa_nil)) (pa_cons (pc0 G_L_digit hr (by decide) (by rfl) (pa_cons (pv 0) (pa_cons (pe_op opAddU (pe_callB call_len (by rfl) T.n_len (by decide +kernel) (pa_cons (pv 3) pa_nil)) pe_int) pa_nil))) pa_nil)) (by rfl))
  (pss_cons (ps_set (i := 9) sc_L_papers.nd rfl (Or.inl rfl) (pe_lst (pa_cons (pv 2) (pa_cons (pe_tup (pa_cons (pv 3) (pa_cons (pv 6) pa_nil))) (pa_cons (pe_tup (pa_cons (pv 3) (pa_cons (pv 7) pa_nil))) (pa_cons (pe_tup (pa_cons (pe_op opAddU (pe_op opAddU (pe_slice slU (pv 3) po_none (po_some (pv 8))) (pe_tup (pa_cons (pe_tup (pa_cons pe_str (pa_cons pe_str pa_nil))) pa_nil))) (pe_slice slU (pv 3) (po_some (pv 8)) po_none)) (pa_cons (pv 4) pa_nil))) (pa_cons (pe_tup (pa_cons (pv 4) (pa_cons (pv 3) pa_nil))) pa_nil)))))))
  (pss_cons (ps_set (i := 9) sc_L_papers.nd rfl (Or.inl rfl) (pe_op opAddU (pv 9) (pe_lst (pa_cons (pe_tup (pa_cons (pe_callTy call_list_of (by rfl) T.n_list (by decide +kernel) (pa_cons (pv 3) pa_nil)) (pa_cons (pv 4) pa_nil))) (pa_cons (pe_tup (pa_cons (pv 3) (pa_cons (pe_callTy call_list_of (by rfl) T.n_list (by decide +kernel) (pa_cons (pv 4) pa_nil)) pa_nil))) (pa_cons (pe_tup (pa_cons (pv 3) (pa_cons (pe_callTy call_tuple_of (by rfl) T.n_tuple (by decide +kernel) (pa_cons (pe_lc (own := [("_law_row", 10)]) rfl sc_L_papers.nd (pi_any (pv 4)) (blkOk_by (N := N_L_papers) (sc := defScope s_L_papers) (by decide +kernel)) (fun _ _ _ _ _ => (pg_name (i := 10) sc_L_papers.nd rfl (Or.inl rfl))) (fun _ _ _ _ _ => pts_nil) (fun _ _ _ _ _ => (pe_callTy (show CallR _ _ (rListOf K) from call_list_of) (by rfl) T.n_list (by decide +kernel) (pa_cons (pv 10) pa_nil)))) pa_nil)) pa_nil))) (pa_cons (pe_tup (pa_cons (pv 3) pa_nil)) pa_nil)))))))
  (pss_cons (ps_set (i := 9) sc_L_papers.nd rfl (Or.inl rfl) (pe_op opAddU (pv 9) (pe_lst (pa_cons pe_non (pa_cons (pe_callTy call_list_of (by rfl) T.n_list (by decide +kernel) (pa_cons (pv 2) pa_nil)) (pa_cons (pe_op opAddU (pv 2) (pe_tup (pa_cons pe_int pa_nil))) (pa_cons (pe_tup (pa_cons (pv 3) (pa_cons (pe_slice slU (pv 4) (po_some pe_int) po_none) pa_nil))) (pa_cons (pe_tup (pa_cons (pv 3) (pa_cons (pe_op opAddU (pv 4) (pe_slice slU (pv 4) (po_some (pe_un un_neg pe_int)) po_none)) pa_nil))) (pa_cons (pe_tup (pa_cons (pe_tup pa_nil) (pa_cons (pv 4) pa_nil))) (pa_cons (pv 3) pa_nil))))))))))
  (pss_cons (ps_set (i := 9) sc_L_papers.nd rfl (Or.inl rfl) (pe_op opAddU (pv 9) (pe_lst (pa_cons (pe_tup (pa_cons (pv 3) (pa_cons (pe_callTy call_tuple_of (by rfl) T.n_tuple (by decide +kernel) (pa_cons (pe_lc (own := [("_law_row", 10)]) rfl sc_L_papers.nd (pi_any (pv 4)) (blkOk_by (N := N_L_papers) (sc := defScope s_L_papers) (by decide +kernel)) (fun _ _ _ _ _ => (pg_name (i := 10) sc_L_papers.nd rfl (Or.inl rfl))) (fun _ _ _ _ _ => pts_nil) (fun _ _ _ _ _ => (pe_op (show OpR _ _ (rAddU K) from opAddU) (pv 10) (pe_slice (show SlR _ (rSlU K) from slU) (pv 10) (po_some (pe_un un_neg pe_int)) po_none)))) pa_nil)) pa_nil))) (pa_cons (pe_tup (pa_cons (pv 3) (pa_cons (pe_callTy call_tuple_of (by rfl) T.n_tuple (by decide +kernel) (pa_cons (pe_lc (own := [("_law_row", 10)]) rfl sc_L_papers.nd (pi_any (pv 4)) (blkOk_by (N := N_L_papers) (sc := defScope s_L_papers) (by decide +kernel)) (fun _ _ _ _ _ => (pg_name (i := 10) sc_L_papers.nd rfl (Or.inl rfl))) (fun _ _ _ _ _ => pts_nil) (fun _ _ _ _ _ => (pe_slice (show SlR _ (rSlU K) from slU) (pv 10) po_none (po_some (pe_un un_neg pe_int))))) pa_nil)) pa_nil))) pa_nil)))))
  (pss_one (ps_ret (pe_op opAddU (pe_op opAddU (pv 9) (pe_lc (own := [("_law_j", 11)]) rfl sc_L_papers.nd (pi_range1 (by rfl) T.n_range (pa_cons pe_int pa_nil)) (blkOk_by (N := N_L_papers) (sc := defScope s_L_papers) (by decide +kernel)) (fun _ _ _ _ _ => (pg_name (i := 11) sc_L_papers.nd rfl (Or.inl rfl))) (fun _ _ _ _ _ => pts_nil) (fun _ _ _ _ _ => (pc0 G_L_bent hr (by decide) (by rfl) (pa_cons (pv 0) (pa_cons (pv 2) pa_nil)))))) (pe_lc (own := [("_law_j", 11)]) rfl sc_L_papers.nd (pi_range1 (by rfl) T.n_range (pa_cons pe_int pa_nil)) (blkOk_by (N := N_L_papers) (sc := defScope s_L_papers) (by decide +kernel)) (fun _ _ _ _ _ => (pg_name (i := 11) sc_L_papers.nd rfl (Or.inl rfl))) (fun _ _ _ _ _ => pts_nil) (fun _ _ _ _ _ => (pc0 G_L_bent hr (by decide) (by rfl) (pa_cons (pv 0) (pa_cons (pe_tup (pa_cons (pv 3) (pa_cons (pv 6) pa_nil))) pa_nil))))))))))))))), ?_⟩
  obtain ⟨a, x, y, t, ws, ss, rs, m, rfl, hx, hy, st, ht, w6, s20, rl, rm, m6, gs, k⟩ := h
  walk_at "NX"
  have hr0 : 0 < rs.length := by omega
  have hrw : ws.length < rs.length := by omega
  have le0 := rm _ (List.getElem_mem hr0)
  have lew := rm _ (List.getElem_mem hrw)
  have hlm : m < (rs[ws.length]).length := by omega
  obtain ⟨last, hlast⟩ : ∃ last, last = (rs[ws.length])[m] := ⟨_, rfl⟩
  have evL : ∀ {s : L2.St} {Hc : Hp} {te : TE} {z : List D}, Ev K te s Hc (.list z) → Ev K (tCB (fun xs H Q => ∃ x n, xs = [x] ∧ LenV K x H n ∧ Q (.int n) H) (tCons te tNil)) s Hc (.int (z.length : Nat)) := fun h => ev_cb (av_cons h av_nil) (rc_len (d := .list _) trivial)
  have evT : ∀ {s : L2.St} {Hc : Hp} {te : TE} {z : List D}, Ev K te s Hc (.tuple z) → Ev K (tCB (fun xs H Q => ∃ x n, xs = [x] ∧ LenV K x H n ∧ Q (.int n) H) (tCons te tNil)) s Hc (.int (z.length : Nat)) := fun h => ev_cb (av_cons h av_nil) (rc_len (d := .tuple _) trivial)
  have at_of : ∀ {xs : List D} {i : Nat} {d : D}, xs[i]? = some d → atI xs ((i : Nat) : Int) = some d := fun {xs i d} h => by
    unfold atI
    rw [ix_of (List.getElem?_eq_some_iff.mp h).1]
    exact h
  have ixw : atI (rowsI rs) (((ws.map PyData.str).length : Nat) : Int) = some (.tuple ((rs[ws.length]).map .int)) := by
    rw [List.length_map]
    refine at_of ?_
    unfold rowsI
    rw [List.getElem?_map, List.getElem?_eq_getElem hrw]
    rfl
  have ix0 : atI (rowsI rs) 0 = some (.tuple ((rs[0]).map .int)) := by
    refine at_of (i := 0) ?_
    unfold rowsI
    rw [List.getElem?_map, List.getElem?_eq_getElem hr0]
    rfl
  have ixm : atI ((rs[ws.length]).map PyData.int) (((((rs[0]).map PyData.int).length : Nat) : Int) - 1) = some (.int last) := by
    rw [List.length_map, le0, show (((m + 1 : Nat) : Int) - 1) = ((m : Nat) : Int) by omega]
    refine at_of ?_
    rw [List.getElem?_map, List.getElem?_eq_getElem hlm, hlast]
    rfl
  have ip1 : atI ([.tuple ss, .tuple (rowsI rs)] : List D) 1 = some (.tuple (rowsI rs)) := rfl
  refine Ev.go (K := K) (c := .tuple [.tuple [.tuple ss, .tuple (rowsI rs)], .int last]) (ev_tup (av_cons (ev_var ⟨_, rfl, hy⟩) (av_cons (ev_op (ev_op (ev_op (ev_var ⟨_, rfl, hy⟩) ev_int (rd_ixT ip1)) (evT (ev_var ⟨_, rfl, hx⟩)) (rd_ixT ixw)) (ev_op (evT (ev_op (ev_op (ev_var ⟨_, rfl, hy⟩) ev_int (rd_ixT ip1)) ev_int (rd_ixT ix0))) ev_int (rd_I0 fun _ => .int _)) (rd_ixT ixm)) av_nil)) (by show 2 ≤ 100000; decide)) fun v1 H1 e1 d1 => ?_
  obtain ⟨p1, us1, rfl, sq1, du1⟩ := dp_tup d1
  obtain ⟨va, da, vb, db, rfl, e, hda, hdb⟩ := dps2 du1 rfl
  cases e
  obtain rfl := dp_int hdb
  refine ⟨p1, _, rfl, sq1, rfl, va, _, rfl, g_pair (K := K) hda fun x1 x2 dx1 dx2 => ⟨.int last, _, rfl, rfl, ?_⟩⟩
  walk_at "NX"
  have l7 : rs.length ≤ 7 := by omega
  have lR : (rowsI rs).length ≤ 100000 := by show (rs.map _).length ≤ _; rw [List.length_map]; omega
  have lr : ∀ r ∈ rs, (r.map PyData.int).length ≤ 100000 := fun r hr => by rw [List.length_map, rm r hr]; omega
  refine Ev.go (K := K) (c := .tuple (rowsI (rs.map fun r => r.map fun i => min2I i last))) (ev_cb (av_cons (ev_is (ev_lc (ds := rowsI rs) (p := fun _ => true) (f := mapT (mapI fun i => min2I i last)) (yd_any (ev_var ⟨_, rfl, dx2⟩) rfl) (fun e he v' H4 k4 dv' R q => ?_) lR) (congrArg PyData.list mapT_rows)) av_nil) rc_tupL) fun vc H2 e2 dvc => ?_
  · obtain ⟨r, hr, rfl⟩ := List.mem_map.mp he
    refine q _ wipe1 (fun _ _ _ q => q _ (Same.refl _)) fun _ => ⟨?_, ?_⟩
    · refine ev_is (ev_cb (av_cons (ev_is (ev_lc (ds := r.map .int) (p := fun _ => true) (f := mapI fun i => min2I i last) (yd_any (ev_var ⟨_, rfl, dv'⟩) rfl) (fun e2 he2 v2 H5 k5 dv2 R2 q2 => ?_) (lr r hr)) rfl) av_nil) rc_tupL) (by rw [mapI_row]; show PyData.tuple _ = .tuple ((r.map PyData.int).map (mapI _)); rw [List.map_map, List.map_map]; rfl)
      obtain ⟨i, hi, rfl⟩ := List.mem_map.mp he2
      refine q2 _ wipe1 (fun _ _ _ q => q _ (Same.refl _)) fun _ => ⟨ev_cb (av_cons (ev_var ⟨_, rfl, dv2⟩) (av_cons (ev_var ⟨_, rfl, .int last⟩) av_nil)) rc_min2, rfl⟩
    · refine noL_tup fun x hx => ?_
      obtain ⟨y, hy, rfl⟩ := List.mem_map.mp hx
      obtain ⟨i, hi, rfl⟩ := List.mem_map.mp hy
      rfl
  refine gname_go ?_
  walk_at "NX"
  refine cons_go ?_
  have dx22 := dp_same e2 dx2
  have dx12 := dp_same e2 dx1
  refine Ev.go (K := K) (c := .tuple (rowsI (rs.map fun r => r.map fun _ => (0 : Int)))) (ev_cb (av_cons (ev_is (ev_lc (ds := rowsI rs) (p := fun _ => true) (f := mapT (mapI fun _ => 0)) (yd_any (ev_var ⟨_, rfl, dx22⟩) rfl) (fun e he v' H4 k4 dv' R q => ?_) lR) (congrArg PyData.list mapT_rows)) av_nil) rc_tupL) fun vfl H3 e3 dvf => ?_
  · obtain ⟨r, hr, rfl⟩ := List.mem_map.mp he
    refine q _ wipe1 (fun _ _ _ q => q _ (Same.refl _)) fun _ => ⟨?_, ?_⟩
    · refine ev_is (ev_cb (av_cons (ev_is (ev_lc (ds := r.map .int) (p := fun _ => true) (f := mapI fun _ => 0) (yd_any (ev_var ⟨_, rfl, dv'⟩) rfl) (fun e2 he2 v2 H5 k5 dv2 R2 q2 => ?_) (lr r hr)) rfl) av_nil) rc_tupL) (by rw [mapI_row]; show PyData.tuple _ = .tuple ((r.map PyData.int).map (mapI _)); rw [List.map_map, List.map_map]; rfl)
      obtain ⟨i, hi, rfl⟩ := List.mem_map.mp he2
      refine q2 _ wipe1 (fun _ _ _ q => q _ (Same.refl _)) fun _ => ⟨ev_int, rfl⟩
    · refine noL_tup fun x hx => ?_
      obtain ⟨y, hy, rfl⟩ := List.mem_map.mp hx
      obtain ⟨i, hi, rfl⟩ := List.mem_map.mp hy
      rfl
  have e13 := (e1.trans e2).trans e3
  refine ev_dig (K := K) (i := 0) (a := a) (m := (ss.length : Nat) + 1) rfl (ev_op (evT (ev_var ⟨_, rfl, dp_same e3 dx12⟩)) ev_int rd_addI) (by omega) (by omega) (st.same e13) (by omega) fun sp H4 s0 s1 b4 st4 => ⟨_, _, rfl, ?_⟩
  have pr4 := (st.same e13).pr (K := K) b4
  have y4 := pr4.dp (dp_same e13 hy)
  have dst4 := pr4.dp (dp_same e3 dx12)
  have drw4 := pr4.dp (dp_same e3 dx22)
  have dcu4 := pr4.dp (dp_same e3 dvc)
  have dfl4 := pr4.dp dvf
  walk_at "NX"
  have lss : ss.length ≤ 100000 := by omega
  have sl1 := cutD_len (xs := ss) (lo := none) (hi := some sp)
  have sl2 := cutD_len (xs := ss) (lo := some sp) (hi := none)
  have ladd : (cutD ss none (some sp)).length + ([PyData.tuple [.str "put", .str "a"]] : List D).length ≤ 100000 := by show _ + 1 ≤ _; omega
  have ladd2 : (cutD ss none (some sp) ++ [PyData.tuple [.str "put", .str "a"]]).length + (cutD ss (some sp) none).length ≤ 100000 := by rw [List.length_append]; show _ + 1 + _ ≤ _; omega
  refine Ev.go (K := K) (c := .list [.tuple [.tuple ss, .tuple (rowsI rs)], .tuple [.tuple ss, .tuple (rowsI (rs.map fun r => r.map fun i => min2I i last))], .tuple [.tuple ss, .tuple (rowsI (rs.map fun r => r.map fun _ => (0 : Int)))],
    .tuple [.tuple (cutD ss none (some sp) ++ [PyData.tuple [.str "put", .str "a"]] ++ cutD ss (some sp) none), .tuple (rowsI rs)], .tuple [.tuple (rowsI rs), .tuple ss]]) (ev_lst (av_cons (ev_var ⟨_, rfl, y4⟩) (av_cons (ev_tup (av_cons (ev_var ⟨_, rfl, dst4⟩) (av_cons (ev_var ⟨_, rfl, dcu4⟩) av_nil)) (by show 2 ≤ 100000; decide)) (av_cons (ev_tup (av_cons (ev_var ⟨_, rfl, dst4⟩) (av_cons (ev_var ⟨_, rfl, dfl4⟩) av_nil)) (by show 2 ≤ 100000; decide)) (av_cons (ev_tup (av_cons (ev_op (ev_op (by walk_at "EV") (by walk_at "EV") (rd_addT ladd)) (by walk_at "EV") (rd_addT ladd2)) (av_cons (ev_var ⟨_, rfl, drw4⟩) av_nil)) (by show 2 ≤ 100000; decide)) (av_cons (ev_tup (av_cons (ev_var ⟨_, rfl, drw4⟩) (av_cons (ev_var ⟨_, rfl, dst4⟩) av_nil)) (by show 2 ≤ 100000; decide)) av_nil))))) (by show 5 ≤ 100000; decide)) fun vA H5 e5 dvA => ?_
  refine gname_go ?_
  walk_at "NX"
  have dst5 := dp_same e5 dst4
  have drw5 := dp_same e5 drw4
  have y5 := dp_same e5 y4
  have lrr : (rowsI rs).length = rs.length := List.length_map _
  refine Ev.go (K := K) (c := .list (_ ++ [PyData.tuple [.list ss, .tuple (rowsI rs)], .tuple [.tuple ss, .list (rowsI rs)], .tuple [.tuple ss, .tuple (rs.map fun r => .list (r.map .int))], .tuple [.tuple ss]])) (ev_op (ev_var ⟨_, rfl, dvA⟩)
    (ev_lst (av_cons (ev_tup (av_cons (ev_cb (av_cons (ev_var ⟨_, rfl, dst5⟩) av_nil) rc_lstT) (av_cons (ev_var ⟨_, rfl, drw5⟩) av_nil)) (by show 2 ≤ 100000; decide)) (av_cons (ev_tup (av_cons (ev_var ⟨_, rfl, dst5⟩) (av_cons (ev_cb (av_cons (ev_var ⟨_, rfl, drw5⟩) av_nil) rc_lstT) av_nil)) (by show 2 ≤ 100000; decide))
      (av_cons (ev_tup (av_cons (ev_var ⟨_, rfl, dst5⟩) (av_cons (ev_cb (av_cons (ev_is (ev_lcL (ds := rowsI rs) (p := fun _ => true) (f := itemsT) (yd_any (ev_var ⟨_, rfl, drw5⟩) rfl) (fun e he v' H4 k4 dv' R q => ?_) lR) (congrArg PyData.list items_rows)) av_nil) rc_tupL) av_nil)) (by show 2 ≤ 100000; decide)) (av_cons (ev_tup (av_cons (ev_var ⟨_, rfl, dst5⟩) av_nil) (by show 1 ≤ 100000; decide)) av_nil)))) (by show 4 ≤ 100000; decide)) (rd_addL (by show 5 + 4 ≤ 100000; decide))) fun vB H6 e6 dvB => ?_
  · obtain ⟨r, hr, rfl⟩ := List.mem_map.mp he
    exact q _ wipe1 (fun _ _ _ q => q _ (Same.refl _)) fun _ => evl_listOf (av_cons (ev_var ⟨_, rfl, dv'⟩) av_nil) (.inr rfl) fun x hx => by
      obtain ⟨i, _, rfl⟩ := List.mem_map.mp hx
      rfl
  refine gname_go ?_
  walk_at "NX"
  have y6 := dp_same e6 y5
  have dst6 := dp_same e6 dst5
  have drw6 := dp_same e6 drw5
  have sl3 := cutD_len (xs := rowsI rs) (lo := some (-1)) (hi := none)
  have l2 : ∀ x y : D, ([x, y] : List D).length ≤ 100000 := fun _ _ => by show 2 ≤ 100000; decide
  have lp0 : ([.tuple ss, .tuple (rowsI rs)] : List D).length + ([.int 0] : List D).length ≤ 100000 := by show 2 + 1 ≤ 100000; decide
  have lrr2 : (rowsI rs).length + (cutD (rowsI rs) (some (-1)) none).length ≤ 100000 := by omega
  refine Ev.go (K := K) (c := .list (_ ++ [PyData.none, .list [.tuple ss, .tuple (rowsI rs)], .tuple [.tuple ss, .tuple (rowsI rs), .int 0], .tuple [.tuple ss, .tuple (cutD (rowsI rs) (some 1) none)], .tuple [.tuple ss, .tuple (rowsI rs ++ cutD (rowsI rs) (some (-1)) none)], .tuple [.tuple [], .tuple (rowsI rs)], .tuple ss])) (ev_op (ev_var ⟨_, rfl, dvB⟩)
    (ev_lst (av_cons ev_non (av_cons (ev_cb (av_cons (ev_var ⟨_, rfl, y6⟩) av_nil) rc_lstT) (av_cons (ev_op (ev_var ⟨_, rfl, y6⟩) (ev_tup (av_cons ev_int av_nil) (by show 1 ≤ 100000; decide)) (rd_addT lp0)) (av_cons (ev_tup (av_cons (ev_var ⟨_, rfl, dst6⟩) (av_cons (by walk_at "EV") av_nil)) (l2 _ _)) (av_cons (ev_tup (av_cons (ev_var ⟨_, rfl, dst6⟩) (av_cons (by walk_at "EV") av_nil)) (l2 _ _))
      (av_cons (ev_tup (av_cons (ev_tup av_nil (by show 0 ≤ 100000; decide)) (av_cons (ev_var ⟨_, rfl, drw6⟩) av_nil)) (l2 _ _)) (av_cons (ev_var ⟨_, rfl, dst6⟩) av_nil))))))) (by show 7 ≤ 100000; decide)) (rd_addL (by show 9 + 7 ≤ 100000; decide))) fun vC H7 e7 dvC => ?_
  refine gname_go ?_
  walk_at "NX"
  have dst7 := dp_same e7 dst6
  have drw7 := dp_same e7 drw6
  refine Ev.go (K := K) (c := .list (_ ++ [PyData.tuple [.tuple ss, .tuple (rs.map fun r => .tuple ((r ++ cutD r (some (-1)) none).map .int))], .tuple [.tuple ss, .tuple (rs.map fun r => .tuple ((cutD r none (some (-1))).map .int))]])) (ev_op (ev_var ⟨_, rfl, dvC⟩)
    (ev_lst (av_cons (ev_tup (av_cons (ev_var ⟨_, rfl, dst7⟩) (av_cons (ev_cb (av_cons (ev_is (ev_lc (ds := rowsI rs) (p := fun _ => true) (f := onT fun xs => xs ++ cutD xs (some (-1)) none) (yd_any (ev_var ⟨_, rfl, drw7⟩) rfl) (fun e he v' H4 k4 dv' R q => ?_) lR) (congrArg PyData.list (onT_rows fun r => by rw [cutD_map, List.map_append]))) av_nil) rc_tupL) av_nil)) (l2 _ _))
      (av_cons (ev_tup (av_cons (ev_var ⟨_, rfl, dst7⟩) (av_cons (ev_cb (av_cons (ev_is (ev_lc (ds := rowsI rs) (p := fun _ => true) (f := onT fun xs => cutD xs none (some (-1))) (yd_any (ev_var ⟨_, rfl, drw7⟩) rfl) (fun e he v' H4 k4 dv' R q => ?_) lR) (congrArg PyData.list (onT_rows fun r => by rw [cutD_map]))) av_nil) rc_tupL) av_nil)) (l2 _ _)) av_nil)) (l2 _ _)) (rd_addL (by show 16 + 2 ≤ 100000; decide))) fun vD H8 e8 dvD => ?_
  · obtain ⟨r, hr, rfl⟩ := List.mem_map.mp he
    have l3 := lr r hr
    have l4 := rm r hr
    have l5 := cutD_len (xs := r.map PyData.int) (lo := some (-1)) (hi := none)
    rw [List.length_map] at l5
    have l6 : (r.map PyData.int).length + (cutD (r.map PyData.int) (some (-1)) none).length ≤ 100000 := by rw [List.length_map]; omega
    refine q _ wipe1 (fun _ _ _ q => q _ (Same.refl _)) fun _ => ⟨?_, ?_⟩
    · exact ev_op (ev_var ⟨_, rfl, dv'⟩) (by walk_at "EV") (rd_addT l6)
    · refine noL_tup fun x hx => ?_
      dsimp only at hx
      rw [cutD_map, ← List.map_append] at hx
      obtain ⟨i, _, rfl⟩ := List.mem_map.mp hx
      rfl
  · obtain ⟨r, hr, rfl⟩ := List.mem_map.mp he
    refine q _ wipe1 (fun _ _ _ q => q _ (Same.refl _)) fun _ => ⟨?_, ?_⟩
    · show Ev K _ _ _ (.tuple (cutD (r.map PyData.int) none (some (-1))))
      walk_at "EV"
    · refine noL_tup fun x hx => ?_
      dsimp only at hx
      rw [cutD_map] at hx
      obtain ⟨i, _, rfl⟩ := List.mem_map.mp hx
      rfl
  refine gname_go ?_
  walk_at "NX"
  have e48 := e5.trans (e6.trans (e7.trans e8))
  have st8 := st4.same e48
  have y8 := dp_same e48 y4
  have dst8 := dp_same e48 dst4
  have dcu8 := dp_same e48 dcu4
  have b08 : But a H H8 := ((But.of e13).trans b4).s e48
  have grs : ∀ rs' : List (List Int), (∀ r ∈ rs', r.length ≤ 7) → ∀ r ∈ rs'.map (fun r => r.map PyData.int), goodR 100 r := fun rs' h r hr => by
    obtain ⟨r0, h0, rfl⟩ := List.mem_map.mp hr
    refine ⟨by rw [List.length_map]; exact Nat.le_trans (h r0 h0) (by decide), fun x hx => ?_⟩
    obtain ⟨i, _, rfl⟩ := List.mem_map.mp hx
    exact ⟨rfl, rfl⟩
  refine ret_op (op_go ⟨vD, rfl, ?_⟩)
  refine lc_bents (K := K) (n := 8) (a := a) (j := 11) (by decide) st8 (fun i Hc tc hi b c0 c1 R hR => ?_) fun pE dsE H9 b9 st9 lE okE dE => ?_
  · refine ⟨.ref a, rfl, y, rfl, a, y, tc, ss, rs.map (fun r => r.map PyData.int), rfl, by rw [← rowsI_eq]; exact (st8.pr b).dp y8, c0, by omega, by omega, by rw [List.length_map]; omega, by rw [List.length_map]; omega, grs rs (fun r hr => by have := rm r hr; omega), gs, fun u ss' rs' H' b' st' gs' gr' du => hR u _ H' b' st' (ok_bent gs' gr') du⟩
  refine rd_addL (K := K) (H := H9) (xs := _) (ys := dsE) (by rw [lE]; show 18 + 8 ≤ 100000; decide) H9 vD (.ref pE) (Pr.refl _) ((st8.pr b9).dp dvD) dE _ fun vF H10 e10 dvF => ?_
  have st10 := st9.same e10
  have b810 := b9.s e10
  refine lc_bents (K := K) (n := 4) (a := a) (j := 11) (by decide) st10 (fun i Hc tc hi b c0 c1 R hR => ?_) fun pG dsG H11 b11 st11 lG okG dG => ?_
  · refine ⟨.ref a, rfl, ?_⟩
    have pr11 := st8.pr (K := K) (b810.trans b)
    refine Ev.go (K := K) (c := .tuple [.tuple ss, .tuple (rowsI (rs.map fun r => r.map fun i => min2I i last))]) (ev_tup (av_cons (ev_var ⟨_, rfl, pr11.dp dst8⟩) (av_cons (ev_var ⟨_, rfl, pr11.dp dcu8⟩) av_nil)) (by show 2 ≤ 100000; decide)) fun vt Ht et dvt => ?_
    refine ⟨a, vt, tc, ss, (rs.map fun r => r.map fun i => min2I i last).map (fun r => r.map PyData.int), rfl, by rw [← rowsI_eq]; exact dvt, c0.same et, by omega, by omega, by rw [List.length_map, List.length_map]; omega, by rw [List.length_map, List.length_map]; omega, grs _ (fun r hr => by
      obtain ⟨r0, h0, rfl⟩ := List.mem_map.mp hr
      have := rm r0 h0
      rw [List.length_map]; omega), gs, fun u ss' rs' H' b' st' gs' gr' du => hR u _ H' ((But.of et).trans b') st' (ok_bent gs' gr') du⟩
  refine rd_addL (K := K) (H := H11) (xs := _) (ys := dsG) (by rw [lG, List.length_append, lE]; show 18 + 8 + 4 ≤ 100000; decide) H11 vF (.ref pG) (Pr.refl _) ((st10.pr b11).dp dvF) dG _ fun vF H12 e12 dvF => ?_
  refine k vF _ H12 ((b08.trans (b810.trans b11)).s e12) ((st11.same e12).mono (by omega)) (by rw [List.length_append, List.length_append, lE, lG]; show 18 + 8 + 4 ≤ 100; decide) (fun d hd => ?_) dvF
  rcases List.mem_append.mp hd with hd | hd
  · rcases List.mem_append.mp hd with hd | hd
    · exact ok18 gs d hd
    · exact okE d hd
  · exact okG d hd
end
end K5
set_option Elab.async false
set_option linter.all false
set_option maxRecDepth 100000
set_option maxHeartbeats 4000000
/-! A tuple, often with something otherwise. -/
namespace K5
open PySem L2 PySem.Spec PyProof.Rows
local macro_rules | `(tactic| walk_at "DP") => `(tactic| first | with_reducible assumption | with_reducible exact Dp.int _ | with_reducible exact Dp.str _ | with_reducible exact Dp.bl _ | with_reducible exact Dp.non | with_reducible exact dp_up (by assumption) (by assumption))
local macro_rules | `(tactic| walk_at "SH") => `(tactic| first | with_reducible assumption | rfl)
local macro_rules | `(tactic| walk_at "RD") => `(tactic| first | with_reducible assumption | exact rd_addI | exact rd_I0 fun _ => .int _ | exact rd_I0 fun _ => .bl _ | exact rd_ixL (by with_reducible assumption) | exact rd_ixT (by with_reducible assumption) | exact rd_ixS (by with_reducible assumption) (by with_reducible assumption) | exact rd_eqD (by walk_at "SH") (by walk_at "SH") | exact rd_neD (by walk_at "SH") (by walk_at "SH") | exact rd_inS | exact rd_notN | exact rd_isN | exact rd_addL (by with_reducible assumption) | exact rd_addT (by with_reducible assumption) | exact rd_addS (by with_reducible assumption))
local macro_rules | `(tactic| walk_at "OV") => `(tactic| first | with_reducible exact ov_no | ((with_reducible apply ov_some); walk_at "EV"))
local macro_rules | `(tactic| walk_at "AV") => `(tactic| first | with_reducible assumption | with_reducible exact av_nil | ((with_reducible apply av_cons); walk_at "EV"; walk_at "AV"))
local macro_rules | `(tactic| walk_at "RC") => `(tactic| first | with_reducible assumption | exact rc_len (by (first | with_reducible assumption | trivial)) | exact rc_tupL | exact rc_tupT | exact rc_lstL | exact rc_lstT | exact rc_all | exact rc_sum | exact rc_min2 | exact rc_min3)
local macro_rules | `(tactic| walk_at "KIT") => `(tactic| first | with_reducible exact kit_int _ | with_reducible exact kit_bool _ | with_reducible exact kit_str _ | with_reducible exact kit_tuple _)
local macro_rules | `(tactic| walk_at "EV") => `(tactic| first | with_reducible assumption | with_reducible exact ev_int | with_reducible exact ev_str | with_reducible exact ev_bl | with_reducible exact ev_non | ((with_reducible apply ev_var); exact sl_mk rfl (by walk_at "DP")) | ((with_reducible apply ev_op); walk_at "EV"; walk_at "EV"; walk_at "RD") | ((with_reducible apply ev_neg); walk_at "EV") | ((with_reducible apply ev_tup); walk_at "AV"; (first | (with_reducible assumption) | decide)) | ((with_reducible apply ev_lst); walk_at "AV"; (first | (with_reducible assumption) | decide)) | ((with_reducible apply ev_call); walk_at "AV"; with_reducible assumption) | ((with_reducible apply ev_isi2); exact rfl; walk_at "EV"; walk_at "KIT") | ((with_reducible apply ev_cb); walk_at "AV"; walk_at "RC") | ((with_reducible apply ev_chain); walk_at "EV"; walk_at "EV"; walk_at "RD"; intro _; walk_at "EV"; intro _; walk_at "RD") | ((with_reducible apply ev_andV); walk_at "EV"; intro _; walk_at "EV") | ((with_reducible apply ev_orV); walk_at "EV"; intro _; walk_at "EV") | ((with_reducible apply ev_notV); walk_at "EV") | ((with_reducible apply ev_sl2); exact rfl; walk_at "EV"; walk_at "OV"; walk_at "OV"; walk_at "SLD") | ((with_reducible apply ev_rev2); exact rfl; walk_at "EV"))
local macro_rules | `(tactic| walk_at "SLD") => `(tactic| first | with_reducible exact SlD.l | with_reducible exact SlD.t | with_reducible exact SlD.s (by with_reducible assumption))
local macro_rules | `(tactic| walk_at "TV") => `(tactic| first | with_reducible assumption | ((with_reducible apply tv_and); walk_at "TV"; intro _; walk_at "TV") | ((with_reducible apply tv_or); walk_at "TV"; intro _; walk_at "TV") | ((with_reducible apply tv_not); walk_at "TV") | ((with_reducible apply tv_B); walk_at "EV") | ((with_reducible apply tv_T); walk_at "EV"))
local macro_rules | `(tactic| walk_at "NX") => `(tactic| ((try dsimp only); (try with_reducible apply s_next); (try dsimp only); (try with_reducible apply s_seq)))

section
variable {P : Program} {w : World} {K : PySem.W.Frag} {mg : Str → Option Value} {base : Heap}
abbrev s_L_other : Stmt := topS 64
abbrev N_L_other : List Str := ["_law_state", "_law_thing", "_law_odd", "_law_spot"]
theorem sc_L_other : FnScope N_L_other ["_law_state", "_law_thing"] (defScope s_L_other) := ⟨rfl, rfl, rfl, by decide +kernel, rfl, by decide +kernel, by decide +kernel⟩
abbrev oddD : List D := [.none, .bool true, .int 10, .int (-1), .str "A", .str "", .tuple [.str "a"], .str "abcdefghi"]
/-- a thing as it stands, or with one thing of it otherwise -/
def otherOf (ds es : List D) : Prop := es = ds ∨ ∃ i o, i < ds.length ∧ o ∈ oddD ∧ es = ds.set i o
def spOther (K : PySem.W.Frag) : Sp := fun vs H Q _ => ∃ (a : Addr) (x : V) (t : Int) (ds : List D), vs = [.ref a, x] ∧ Dp K H x (.tuple ds) ∧ StA H a t ∧ t ≤ 800000 ∧ 1 ≤ ds.length ∧ ds.length ≤ 100 ∧
  ∀ u es H', But a H H' → StA H' a (t + 100) → otherOf ds es → Dp K H' u (.tuple es) → Q u H'
theorem c_L_other (T : Txt w K mg) (d : DefAt K mg "_law_other" s_L_other) (G_L_digit : KCal P w K mg base CX0 2 "_law_digit" ["_law_state", "_law_many"] (spDigit K)) : KCal P w K mg base CX0 3 "_law_other" ["_law_state", "_law_thing"] (spOther K) := by
  refine d.cal (fun _ _ _ _ _ _ us hl => match us, hl with | [_, _], _ => rfl) fun f fd F => F.ok sc_L_other (fun vs H Q E h => by obtain ⟨_, _, _, _, rfl, _⟩ := h; rfl) (fun cdv A outer s H vs Q E hr h => ?_)
  have hu := hr.units
  refine ⟨_, (pss_cons (ps_par (i := 2) (j := 3) rfl sc_L_other.nd rfl rfl (by decide) rfl rfl (pa_cons (pe_ix ix_seq (pe_lst (pa_cons pe_non (pa_cons pe_bl (pa_cons pe_int (pa_cons (pe_un un_neg pe_int) (pa_cons pe_str (pa_cons pe_str (pa_cons (pe_tup (pa_cons pe_str pa_nil)) (pa_cons pe_str pa_nil))))))))) (pc0 G_L_digit hr (by decide) (by rfl) (pa_cons (pv 0) (pa_cons pe_int pa_nil))) (fun _ _ => rfl)) (pa_cons (pc0 G_L_digit hr (by decide) (by rfl) (pa_cons (pv 0) (pa_cons (pe_callB call_len (by rfl) T.n_len (by decide +kernel) (pa_cons (pv 1) pa_nil)) pa_nil))) pa_nil)) (by rfl))
  (pss_one (ps_ret (pe_ix ix_seq (pe_lst (pa_cons (pv 1) (pa_cons (pv 1) (pa_cons (pe_op opAddU (pe_op opAddU (pe_slice slU (pv 1) po_none (po_some (pv 3))) (pe_tup (pa_cons (pv 2) pa_nil))) (pe_slice slU (pv 1) (po_some (pe_op opAddU (pv 3) pe_int)) po_none)) pa_nil)))) (pc0 G_L_digit hr (by decide) (by rfl) (pa_cons (pv 0) (pa_cons pe_int pa_nil))) (fun _ _ => rfl))))), ?_⟩
  obtain ⟨a, x, t, ds, rfl, hx, st, ht, d1, d100, k⟩ := h
  walk_at "NX"
  refine cons_go (op_go ?_)
  refine Ev.go (K := K) (c := .list oddD) (ev_lst (by walk_at "AV") (by show 8 ≤ 100000; decide)) fun v1 H1 e1 d1v => ?_
  refine ev_dig (K := K) (i := 0) (a := a) rfl ev_int (by decide) (by decide) (st.same e1) (by omega) fun r1 H2 r10 r11 b2 st2 => ?_
  obtain ⟨p1, x1, rfl, sq1, dx1⟩ := dp_lst (((st.same e1).pr (K := K) b2).dp d1v)
  obtain ⟨odd, ho1, ho2⟩ := atI_nat (xs := x1) (r := r1) r10 (by rw [dps_len dx1]; exact r11)
  obtain ⟨dodd, hd1, hd2⟩ := dps_mem dx1 ho2
  refine .inl ⟨p1, x1, r1, odd, rfl, rfl, sq1, ho1, ?_⟩
  have b02 : But a H H2 := (But.of e1).trans b2
  have hx2 := (st.pr (K := K) b02).dp hx
  refine ev_dig (K := K) (i := 0) (a := a) (m := (ds.length : Nat)) rfl (ev_cb (d := .int ((ds.length : Nat) : Int)) (av_cons (ev_var ⟨_, rfl, hx2⟩) av_nil) (rc_len (d := .tuple _) trivial)) (by omega) (by omega) st2 (by omega) fun sp H3 s0 s1 b3 st3 => ⟨_, _, rfl, ?_⟩
  obtain ⟨sp, rfl⟩ := Int.eq_ofNat_of_zero_le s0
  have hsp : sp < ds.length := by omega
  have pr3 := st2.pr (K := K) b3
  have hx3 := pr3.dp hx2
  have ho3 := pr3.dp hd2
  walk_at "NX"
  refine ret_op ?_
  have t1 := List.length_take (l := ds) (i := sp)
  have t2 := List.length_drop (l := ds) (i := sp + 1)
  have lo1 : ∀ z : D, ([z] : List D).length ≤ 100000 := fun _ => by show 1 ≤ 100000; decide
  have es : ds.take sp ++ [dodd] ++ ds.drop (sp + 1) = ds.set sp dodd := by
    rw [List.set_eq_take_append_cons_drop, if_pos hsp, List.append_assoc]
    rfl
  refine Ev.go (K := K) (c := .list [.tuple ds, .tuple ds, .tuple (ds.take sp ++ [dodd] ++ ds.drop (sp + 1))]) (ev_lst (av_cons (ev_var ⟨_, rfl, hx3⟩) (av_cons (ev_var ⟨_, rfl, hx3⟩) (av_cons (ev_op (ev_op (ev_is (d := .tuple (cutD ds none (some ((sp : Nat) : Int)))) (by walk_at "EV") (by rw [cut_to (by omega)]; rfl)) (ev_tup (av_cons (ev_var ⟨_, rfl, ho3⟩) av_nil) (lo1 _)) (rd_addT (by rw [t1]; show _ + 1 ≤ _; omega)))
    (ev_is (d := .tuple (cutD ds (some (((sp : Nat) : Int) + 1)) none)) (by walk_at "EV") (by rw [cut_from (by omega), show (((sp : Nat) : Int) + 1).toNat = sp + 1 by omega])) (rd_addT (by rw [List.length_append, t1, t2]; show _ + 1 + _ ≤ _; omega))) av_nil))) (by show 3 ≤ 100000; decide)) fun v4 H4 e4 d4 => ?_
  refine ev_dig (K := K) (i := 0) (a := a) rfl ev_int (by decide) (by decide) (st3.same e4) (by omega) fun r5 H5 r50 r51 b5 st5 => ?_
  obtain ⟨p5, x5, rfl, sq5, dx5⟩ := dp_lst (((st3.same e4).pr (K := K) b5).dp d4)
  obtain ⟨u, hu1, hu2⟩ := atI_nat (xs := x5) (r := r5) r50 (by rw [dps_len dx5]; exact r51)
  obtain ⟨du, hd5, hd6⟩ := dps_mem dx5 hu2
  refine .inl ⟨p5, x5, r5, u, rfl, rfl, sq5, hu1, ?_⟩
  have b05 : But a H H5 := ((b02.trans b3).s e4).trans b5
  have st9 := st5.mono (show _ ≤ t + 100 by omega)
  simp only [List.mem_cons, List.not_mem_nil, or_false] at hd5
  rcases hd5 with h | h | h <;> subst h
  · exact k u ds H5 b05 st9 (.inl rfl) hd6
  · exact k u ds H5 b05 st9 (.inl rfl) hd6
  · exact k u _ H5 b05 st9 (.inr ⟨sp, dodd, hsp, hd1, es⟩) hd6
end
end K5
set_option Elab.async false
set_option linter.all false
set_option maxRecDepth 100000
set_option maxHeartbeats 4000000
/-! Words slid by a letter. -/
namespace K5
open PySem L2 PySem.Spec PyProof.Rows
local macro_rules | `(tactic| walk_at "DP") => `(tactic| first | with_reducible assumption | with_reducible exact Dp.int _ | with_reducible exact Dp.str _ | with_reducible exact Dp.bl _ | with_reducible exact Dp.non | with_reducible exact dp_up (by assumption) (by assumption))
local macro_rules | `(tactic| walk_at "SH") => `(tactic| first | with_reducible assumption | rfl)
local macro_rules | `(tactic| walk_at "RD") => `(tactic| first | with_reducible assumption | exact rd_addI | exact rd_I0 fun _ => .int _ | exact rd_I0 fun _ => .bl _ | exact rd_ixL (by with_reducible assumption) | exact rd_ixT (by with_reducible assumption) | exact rd_ixS (by with_reducible assumption) (by with_reducible assumption) | exact rd_eqD (by walk_at "SH") (by walk_at "SH") | exact rd_neD (by walk_at "SH") (by walk_at "SH") | exact rd_inS | exact rd_notN | exact rd_isN | exact rd_addL (by with_reducible assumption) | exact rd_addT (by with_reducible assumption) | exact rd_addS (by with_reducible assumption))
local macro_rules | `(tactic| walk_at "OV") => `(tactic| first | with_reducible exact ov_no | ((with_reducible apply ov_some); walk_at "EV"))
local macro_rules | `(tactic| walk_at "AV") => `(tactic| first | with_reducible assumption | with_reducible exact av_nil | ((with_reducible apply av_cons); walk_at "EV"; walk_at "AV"))
local macro_rules | `(tactic| walk_at "RC") => `(tactic| first | with_reducible assumption | exact rc_len (by (first | with_reducible assumption | trivial)) | exact rc_tupL | exact rc_tupT | exact rc_lstL | exact rc_lstT | exact rc_all | exact rc_sum | exact rc_min2 | exact rc_min3)
local macro_rules | `(tactic| walk_at "KIT") => `(tactic| first | with_reducible exact kit_int _ | with_reducible exact kit_bool _ | with_reducible exact kit_str _ | with_reducible exact kit_tuple _)
local macro_rules | `(tactic| walk_at "EV") => `(tactic| first | with_reducible assumption | with_reducible exact ev_int | with_reducible exact ev_str | with_reducible exact ev_bl | with_reducible exact ev_non | ((with_reducible apply ev_var); exact sl_mk rfl (by walk_at "DP")) | ((with_reducible apply ev_op); walk_at "EV"; walk_at "EV"; walk_at "RD") | ((with_reducible apply ev_neg); walk_at "EV") | ((with_reducible apply ev_tup); walk_at "AV"; (first | (with_reducible assumption) | decide)) | ((with_reducible apply ev_lst); walk_at "AV"; (first | (with_reducible assumption) | decide)) | ((with_reducible apply ev_call); walk_at "AV"; with_reducible assumption) | ((with_reducible apply ev_isi2); exact rfl; walk_at "EV"; walk_at "KIT") | ((with_reducible apply ev_cb); walk_at "AV"; walk_at "RC") | ((with_reducible apply ev_chain); walk_at "EV"; walk_at "EV"; walk_at "RD"; intro _; walk_at "EV"; intro _; walk_at "RD") | ((with_reducible apply ev_andV); walk_at "EV"; intro _; walk_at "EV") | ((with_reducible apply ev_orV); walk_at "EV"; intro _; walk_at "EV") | ((with_reducible apply ev_notV); walk_at "EV") | ((with_reducible apply ev_sl2); exact rfl; walk_at "EV"; walk_at "OV"; walk_at "OV"; walk_at "SLD") | ((with_reducible apply ev_rev2); exact rfl; walk_at "EV"))
local macro_rules | `(tactic| walk_at "SLD") => `(tactic| first | with_reducible exact SlD.l | with_reducible exact SlD.t | with_reducible exact SlD.s (by with_reducible assumption))
local macro_rules | `(tactic| walk_at "TV") => `(tactic| first | with_reducible assumption | ((with_reducible apply tv_and); walk_at "TV"; intro _; walk_at "TV") | ((with_reducible apply tv_or); walk_at "TV"; intro _; walk_at "TV") | ((with_reducible apply tv_not); walk_at "TV") | ((with_reducible apply tv_B); walk_at "EV") | ((with_reducible apply tv_T); walk_at "EV"))
local macro_rules | `(tactic| walk_at "NX") => `(tactic| ((try dsimp only); (try with_reducible apply s_next); (try dsimp only); (try with_reducible apply s_seq)))

section
variable {P : Program} {w : World} {K : PySem.W.Frag} {mg : Str → Option Value} {base : Heap}
abbrev s_L_slid : Stmt := topS 61
abbrev N_L_slid : List Str := ["_law_words", "_law_spot", "_law_word"]
theorem sc_L_slid : FnScope N_L_slid ["_law_words"] (defScope s_L_slid) := ⟨rfl, rfl, rfl, by decide +kernel, rfl, by decide +kernel, by decide +kernel⟩
def spSlid (K : PySem.W.Frag) : Sp := fun vs H Q _ => ∃ (x : V) (ws : List Str), vs = [x] ∧ Dp K H x (wordsD ws) ∧ okW ws ∧ ∀ u ws' H', Same H H' → okW ws' → ws'.length = ws.length → Dp K H' u (wordsD ws') → Q u H'
theorem c_L_slid (T : Txt w K mg) (d : DefAt K mg "_law_slid" s_L_slid) : KCal P w K mg base CX0 1 "_law_slid" ["_law_words"] (spSlid K) := by
  refine d.cal (fun _ _ _ _ _ _ us hl => match us, hl with | [_], _ => rfl) fun f fd F => F.ok sc_L_slid (fun vs H Q E h => by obtain ⟨_, _, rfl, _⟩ := h; rfl) (fun cdv A outer s H vs Q E hr h => ?_)
  have hu := hr.units
  refine ⟨_, (pss_cons (ps_for PassesOwn.never rfl (pi_enumU (by rfl) T.n_enumerate (pa_cons (pe_slice slU (pv 0) po_none (po_some (pe_un un_neg pe_int))) pa_nil)) (pg_tup rfl (pgs_cons (pg_name (i := 1) sc_L_slid.nd rfl (Or.inl rfl)) (pgs_cons (pg_name (i := 2) sc_L_slid.nd rfl (Or.inl rfl)) pgs_nil)))
  (pss_one (ps_if (PW.pt (pw_and (pt_cmpR op_gt (pe_callB call_len (by rfl) T.n_len (by decide +kernel) (pa_cons (pv 2) pa_nil)) pe_int (nomark _)) (pw_and1 (pt_cmpR op_lt (pe_callB call_len (by rfl) T.n_len (by decide +kernel) (pa_cons (pe_ix ix_seq (pv 0) (pe_op opAddU (pv 1) pe_int) (fun _ _ => rfl)) pa_nil)) pe_int (nomark _))))) (pss_one (ps_ret (pe_op opAddU (pe_op opAddU (pe_slice slU (pv 0) po_none (po_some (pv 1))) (pe_tup (pa_cons (pe_slice slU (pv 2) po_none (po_some (pe_un un_neg pe_int))) (pa_cons (pe_op opAddU (pe_slice slU (pv 2) (po_some (pe_un un_neg pe_int)) po_none) (pe_ix ix_seq (pv 0) (pe_op opAddU (pv 1) pe_int) (fun _ _ => rfl))) pa_nil)))) (pe_slice slU (pv 0) (po_some (pe_op opAddU (pv 1) pe_int)) po_none)))) pss_nil)))
  (pss_one (ps_ret (pv 0)))), ?_⟩
  obtain ⟨x, ws, rfl, hx, ok, k⟩ := h
  walk_at "NX"
  have hn6 := ok.1
  replace hx : Dp K H x (.tuple (ws.map .str)) := hx
  have take_c : ∀ n : Nat, cutD (ws.map PyData.str) none (some ((n : Nat) : Int)) = (ws.take n).map .str := fun n => by rw [cutD_map, cut_to (by omega)]; rfl
  have drop_c : ∀ (n : Nat) (x : Int), x = n → cutD (ws.map PyData.str) (some x) none = (ws.drop n).map .str := fun n x hx => by subst hx; rw [cutD_map, cut_from (by omega)]; rfl
  have lt1 : ∀ i, (ws.take i).length = min i ws.length := fun i => List.length_take
  have lt2 : ∀ i, (ws.drop i).length = ws.length - i := fun i => List.length_drop
  refine s_for (K := K) (d := .tuple (cutD (ws.map PyData.str) none (some (-1)))) (ds := enumD (cutD (ws.map PyData.str) none (some (-1)))) (yd_enum (by walk_at "AV") (.inr rfl)) fun H2 w2 e2 dw2 => ⟨fun i σ Hc => ∃ o1 o2, σ = [some x, o1, o2] ∧ Same H Hc ∧ Dp K Hc w2 (.tuple (cutD (ws.map PyData.str) none (some (-1)))), ?_, ?_, ?_, ?_, ?_⟩
  · rintro i σ Ha Hb sm ⟨o1, o2, rfl, q1, q2⟩
    exact ⟨o1, o2, rfl, q1.trans sm, dp_same sm q2⟩
  · rintro i σ Ha ⟨o1, o2, rfl, q1, q2⟩
    exact q2
  · exact ⟨_, _, rfl, e2, dw2⟩
  · rintro i e v σ Hc he ⟨o1, o2, rfl, q1, q2⟩ dv
    obtain ⟨d', hd', rfl⟩ := enumD_of he
    have hci : ∃ hi : i + 1 < ws.length, d' = .str (wd ws i) := by
      cases ws with
      | nil => simp [cutD] at hd'
      | cons w0 wr =>
        rw [cut_init (by show 1 ≤ ((w0 :: wr).map PyData.str).length; rw [List.length_map]; show 1 ≤ wr.length + 1; omega)] at hd'
        have h1 : i < ((w0 :: wr).map PyData.str).length - 1 := by
          have := (List.getElem?_eq_some_iff.mp hd').1
          rw [List.length_take] at this
          omega
        rw [List.getElem?_take_of_lt h1, List.getElem?_map] at hd'
        rw [List.length_map] at h1
        obtain ⟨z, hz1, hz2⟩ := Option.map_eq_some_iff.mp hd'
        have hi : i < (w0 :: wr).length := by omega
        have := wd_get hi
        rw [this] at hz1
        exact ⟨by omega, by rw [← hz2, Option.some.inj hz1]⟩
    obtain ⟨hi1, rfl⟩ := hci
    have hi : i < ws.length := by omega
    have i3 := atI_words (ws := ws) (j := (i : Int) + 1) (i := i + 1) (by omega) hi1
    obtain ⟨wl1, wl8, wlet⟩ := name_get (ok.nm hi)
    obtain ⟨nl1, nl8, nlet⟩ := name_get (ok.nm hi1)
    have lw : (wd ws i).length = (wd ws i).cps.toList.length := len_cps
    have ln : (wd ws (i + 1)).length = (wd ws (i + 1)).cps.toList.length := len_cps
    refine g_pair (K := K) dv fun vi vr di dr => ?_
    obtain rfl := dp_int di
    obtain rfl := dp_str dr
    have hxc := dp_same q1 hx
    have lenE : ∀ {s : L2.St} {Hc : Hp} {te : TE} {z : Str}, Ev K te s Hc (.str z) → z.length ≤ 100 → Ev K (tCB (fun xs H Q => ∃ x n, xs = [x] ∧ LenV K x H n ∧ Q (.int n) H) (tCons te tNil)) s Hc (.int (z.length : Nat)) := fun h hz => ev_cb (av_cons h av_nil) (rc_len (d := .str _) (by exact Nat.le_trans hz (by decide)))
    try dsimp only
    refine s_if (K := K) (b := decide ((1 : Int) < ((wd ws i).length : Nat)) && decide ((((wd ws (i + 1)).length : Nat) : Int) < 8)) (tv_and (tv_T (ev_op (lenE (ev_var ⟨_, rfl, .str _⟩) (by rw [lw]; omega)) ev_int (rd_I0 fun _ => .bl _))) fun _ => tv_T (ev_op (lenE (by walk_at "EV") (by rw [ln]; omega)) ev_int (rd_I0 fun _ => .bl _))) (fun hb H3 e3 => ?_) fun hb H3 e3 => ?_
    · rw [Bool.and_eq_true, decide_eq_true_eq, decide_eq_true_eq, lw, ln] at hb
      have hx3 := dp_same e3 hxc
      have hwl : (wd ws i).length ≤ 100000 := by rw [lw]; omega
      have c1 : (cutS (wd ws i) none (some (-1))).cps.toList = (wd ws i).cps.toList.take ((wd ws i).cps.toList.length - 1) := by rw [cutS_cps, cut_init wl1]
      have c2 : (cutS (wd ws i) (some (-1)) none).cps.toList = (wd ws i).cps.toList.drop ((wd ws i).cps.toList.length - 1) := by rw [cutS_cps, cut_last wl1]
      have n1 : nameS (cutS (wd ws i) none (some (-1))) = true := name_mk (by rw [c1, List.length_take]; omega) (by rw [c1, List.length_take]; omega) fun c hc => wlet c (by rw [c1] at hc; exact List.mem_of_mem_take hc)
      have l2' : (cutS (wd ws i) (some (-1)) none).cps.toList.length = 1 := by rw [c2, List.length_drop]; omega
      have n2 : nameS (cutS (wd ws i) (some (-1)) none ++ wd ws (i + 1)) = true := nm_app (by rw [l2']; omega) (by rw [l2']; omega) (fun c hc => wlet c (by rw [c2] at hc; exact List.mem_of_mem_drop hc)) nlet
      have ladd : (cutS (wd ws i) (some (-1)) none).length + (wd ws (i + 1)).length ≤ 100000 := by rw [len_cps, len_cps, l2']; omega
      have ok' : okW (ws.take i ++ [cutS (wd ws i) none (some (-1)), cutS (wd ws i) (some (-1)) none ++ wd ws (i + 1)] ++ ws.drop (i + 2)) := okW_three ok (fun z hz => by
        simp only [List.mem_cons, List.not_mem_nil, or_false] at hz
        rcases hz with rfl | rfl
        · exact n1
        · exact n2) (by rw [lt1, lt2]; show _ + 2 + _ ≤ _; omega)
      refine s_ret (K := K) (d := .tuple ((ws.take i).map .str ++ [.str (cutS (wd ws i) none (some (-1))), .str (cutS (wd ws i) (some (-1)) none ++ wd ws (i + 1))] ++ (ws.drop (i + 2)).map .str))
        (ev_op (ev_op (ev_is (d := .tuple (cutD (ws.map PyData.str) none (some ((i : Nat) : Int)))) (by walk_at "EV") (by rw [take_c])) (ev_tup (av_cons (by walk_at "EV") (av_cons (ev_op (by walk_at "EV") (by walk_at "EV") (rd_addS ladd)) av_nil)) (by show 2 ≤ 100000; decide)) (rd_addT (by rw [List.length_map, lt1]; show _ + 2 ≤ _; omega)))
          (ev_is (d := .tuple (cutD (ws.map PyData.str) (some ((i : Int) + 2)) none)) (by walk_at "EV") (by rw [drop_c (i + 2) _ (by omega)])) (rd_addT (by rw [List.length_append, List.length_map, List.length_map, lt1, lt2]; show _ + 2 + _ ≤ _; omega))) fun u H4 e4 du => k u _ H4 (q1.trans (e3.trans e4)) ok' (by rw [List.length_append, List.length_append, lt1, lt2]; show _ + 2 + _ = _; omega) ?_
      show Dp K H4 u (.tuple _)
      rw [List.map_append, List.map_append]
      exact du
    · exact ⟨_, _, rfl, q1.trans e3, dp_same e3 q2⟩
  · rintro σ Hc ⟨o1, o2, rfl, q1, q2⟩
    try dsimp only
    exact s_ret (K := K) (ev_var ⟨_, rfl, dp_same q1 hx⟩) fun u H4 e4 du => k u ws H4 (q1.trans e4) ok rfl du
end
end K5
set_option Elab.async false
set_option linter.all false
set_option maxRecDepth 100000
set_option maxHeartbeats 4000000
/-! What refusal is due. -/
namespace K5
open PySem L2 PySem.Spec PyProof.Rows
local macro_rules | `(tactic| walk_at "DP") => `(tactic| first | with_reducible assumption | with_reducible exact Dp.int _ | with_reducible exact Dp.str _ | with_reducible exact Dp.bl _ | with_reducible exact Dp.non | with_reducible exact dp_up (by assumption) (by assumption))
local macro_rules | `(tactic| walk_at "SH") => `(tactic| first | with_reducible assumption | rfl)
local macro_rules | `(tactic| walk_at "RD") => `(tactic| first | with_reducible assumption | exact rd_addI | exact rd_I0 fun _ => .int _ | exact rd_I0 fun _ => .bl _ | exact rd_ixL (by with_reducible assumption) | exact rd_ixT (by with_reducible assumption) | exact rd_ixS (by with_reducible assumption) (by with_reducible assumption) | exact rd_eqD (by walk_at "SH") (by walk_at "SH") | exact rd_neD (by walk_at "SH") (by walk_at "SH") | exact rd_inS | exact rd_notN | exact rd_isN | exact rd_addL (by with_reducible assumption) | exact rd_addT (by with_reducible assumption) | exact rd_addS (by with_reducible assumption))
local macro_rules | `(tactic| walk_at "OV") => `(tactic| first | with_reducible exact ov_no | ((with_reducible apply ov_some); walk_at "EV"))
local macro_rules | `(tactic| walk_at "AV") => `(tactic| first | with_reducible assumption | with_reducible exact av_nil | ((with_reducible apply av_cons); walk_at "EV"; walk_at "AV"))
local macro_rules | `(tactic| walk_at "RC") => `(tactic| first | with_reducible assumption | exact rc_len (by (first | with_reducible assumption | trivial)) | exact rc_tupL | exact rc_tupT | exact rc_lstL | exact rc_lstT | exact rc_all | exact rc_sum | exact rc_min2 | exact rc_min3)
local macro_rules | `(tactic| walk_at "KIT") => `(tactic| first | with_reducible exact kit_int _ | with_reducible exact kit_bool _ | with_reducible exact kit_str _ | with_reducible exact kit_tuple _)
local macro_rules | `(tactic| walk_at "EV") => `(tactic| first | with_reducible assumption | with_reducible exact ev_int | with_reducible exact ev_str | with_reducible exact ev_bl | with_reducible exact ev_non | ((with_reducible apply ev_var); exact sl_mk rfl (by walk_at "DP")) | ((with_reducible apply ev_op); walk_at "EV"; walk_at "EV"; walk_at "RD") | ((with_reducible apply ev_neg); walk_at "EV") | ((with_reducible apply ev_tup); walk_at "AV"; (first | (with_reducible assumption) | decide)) | ((with_reducible apply ev_lst); walk_at "AV"; (first | (with_reducible assumption) | decide)) | ((with_reducible apply ev_call); walk_at "AV"; with_reducible assumption) | ((with_reducible apply ev_isi2); exact rfl; walk_at "EV"; walk_at "KIT") | ((with_reducible apply ev_cb); walk_at "AV"; walk_at "RC") | ((with_reducible apply ev_chain); walk_at "EV"; walk_at "EV"; walk_at "RD"; intro _; walk_at "EV"; intro _; walk_at "RD") | ((with_reducible apply ev_andV); walk_at "EV"; intro _; walk_at "EV") | ((with_reducible apply ev_orV); walk_at "EV"; intro _; walk_at "EV") | ((with_reducible apply ev_notV); walk_at "EV") | ((with_reducible apply ev_sl2); exact rfl; walk_at "EV"; walk_at "OV"; walk_at "OV"; walk_at "SLD") | ((with_reducible apply ev_rev2); exact rfl; walk_at "EV"))
local macro_rules | `(tactic| walk_at "SLD") => `(tactic| first | with_reducible exact SlD.l | with_reducible exact SlD.t | with_reducible exact SlD.s (by with_reducible assumption))
local macro_rules | `(tactic| walk_at "TV") => `(tactic| first | with_reducible assumption | ((with_reducible apply tv_and); walk_at "TV"; intro _; walk_at "TV") | ((with_reducible apply tv_or); walk_at "TV"; intro _; walk_at "TV") | ((with_reducible apply tv_not); walk_at "TV") | ((with_reducible apply tv_B); walk_at "EV") | ((with_reducible apply tv_T); walk_at "EV"))
local macro_rules | `(tactic| walk_at "NX") => `(tactic| ((try dsimp only); (try with_reducible apply s_next); (try dsimp only); (try with_reducible apply s_seq)))

/-- what is bad, each with its place -/
def bads (kind : Str) (p : D → Bool) (k : Nat) : List D → List D
  | [] => [] | x :: xs => if p x = true then bads kind p (k + 1) xs else .list [.str kind, .int (k : Nat)] :: bads kind p (k + 1) xs
theorem bads_head {kind : Str} {p : D → Bool} : ∀ {xs : List D} {k : Nat}, (bads kind p k xs).head? = (firstBad p k xs).map fun i => PyData.list [.str kind, .int (i : Nat)]
  | [], _ => rfl
  | x :: xs, k => by
    unfold bads firstBad
    cases p x with
    | true => rw [if_pos rfl, if_pos rfl]; exact bads_head
    | false => rw [if_neg (by decide), if_neg (by decide)]; rfl
theorem bads_len {kind : Str} {p : D → Bool} : ∀ {xs : List D} {k : Nat}, (bads kind p k xs).length ≤ xs.length
  | [], _ => Nat.le_refl _
  | x :: xs, k => by
    have := bads_len (kind := kind) (p := p) (xs := xs) (k := k + 1)
    unfold bads
    cases p x with
    | true => rw [if_pos rfl, List.length_cons]; omega
    | false => rw [if_neg (by decide), List.length_cons, List.length_cons]; omega
theorem bads_mem {kind : Str} {p : D → Bool} : ∀ {xs : List D} {k : Nat} {x : D}, x ∈ bads kind p k xs → ∃ i : Nat, x = .list [.str kind, .int (i : Nat)]
  | [], _, _, h => absurd h List.not_mem_nil
  | y :: xs, k, x, h => by
    unfold bads at h
    cases hp : p y with
    | true => rw [hp, if_pos rfl] at h; exact bads_mem h
    | false =>
      rw [hp, if_neg (by decide)] at h
      rcases List.mem_cons.mp h with rfl | h
      · exact ⟨k, rfl⟩
      · exact bads_mem h
def secB (p : D → Bool) : D → Bool
  | .tuple [_, x] => !p x | _ => false
def secL (kind : Str) : D → List D
  | .tuple [i, _] => [.str kind, i] | _ => []
theorem bads_enum {kind : Str} {p : D → Bool} : ∀ {xs : List D} {k : Nat}, (((xs.mapIdx fun i d => PyData.tuple [.int ((k + i : Nat) : Int), d]).filter (secB p)).map (secL kind)).map .list = bads kind p k xs
  | [], _ => rfl
  | x :: xs, k => by
    have ih := bads_enum (kind := kind) (p := p) (xs := xs) (k := k + 1)
    have e : (xs.mapIdx fun i d => PyData.tuple [.int ((k + (i + 1) : Nat) : Int), d]) = xs.mapIdx fun i d => PyData.tuple [.int ((k + 1 + i : Nat) : Int), d] := by
      congr 1
      funext i d
      rw [show k + (i + 1) = k + 1 + i by omega]
    rw [List.mapIdx_cons, e]
    unfold bads
    cases hp : p x with
    | true =>
      rw [List.filter_cons_of_neg (by show ¬ (!p x) = true; rw [hp]; decide), if_pos rfl]
      exact ih
    | false =>
      rw [List.filter_cons_of_pos (by show (!p x) = true; rw [hp]; rfl), if_neg (by decide), List.map_cons, List.map_cons, ih]
      rfl
theorem bads_enumD {kind : Str} {p : D → Bool} {xs : List D} : (((enumD xs).filter (secB p)).map (secL kind)).map .list = bads kind p 0 xs := by
  have := bads_enum (kind := kind) (p := p) (xs := xs) (k := 0)
  rw [← this]
  unfold enumD
  congr 4
  funext i d
  rw [Nat.zero_add]
def isTrue : D → Bool
  | .bool b => b | _ => false
theorem bads_bool {kind : Str} {p : D → Bool} : ∀ {xs : List D} {k : Nat}, bads kind isTrue k (xs.map fun e => .bool (p e)) = bads kind p k xs
  | [], _ => rfl
  | x :: xs, k => by
    rw [List.map_cons]
    unfold bads
    rw [bads_bool]
    rfl
def msgF (ws : List D) : List D := (if (decide ((0 : Int) < (ws.length : Nat)) && decide (((ws.length : Nat) : Int) < 7)) = true then [] else [.list [.str "message", .none]]) ++ bads "message" nameD 0 ws
theorem msg_head {ws : List D} : (msgF ws).head? = (needMsg ws).map fun nd => PyData.list [.str "message", nd] := by
  unfold msgF needMsg
  have e : (decide ((1 : Int) ≤ (ws.length : Nat)) && decide (((ws.length : Nat) : Int) ≤ 6)) = (decide ((0 : Int) < (ws.length : Nat)) && decide (((ws.length : Nat) : Int) < 7)) := by
    have e1 : decide ((1 : Int) ≤ (ws.length : Nat)) = decide ((0 : Int) < (ws.length : Nat)) := decide_eq_decide.mpr ⟨fun h => by omega, fun h => by omega⟩
    have e2 : decide (((ws.length : Nat) : Int) ≤ 6) = decide (((ws.length : Nat) : Int) < 7) := decide_eq_decide.mpr ⟨fun h => by omega, fun h => by omega⟩
    rw [e1, e2]
  rw [e]
  cases (decide ((0 : Int) < (ws.length : Nat)) && decide (((ws.length : Nat) : Int) < 7)) with
  | true =>
    rw [if_pos rfl, if_pos rfl, List.nil_append, bads_head, Option.map_map]
    rfl
  | false =>
    rw [if_neg (by decide), if_neg (by decide)]
    rfl
theorem msg_len {ws : List D} : (msgF ws).length ≤ ws.length + 1 := by
  unfold msgF
  have := bads_len (kind := "message") (p := nameD) (xs := ws) (k := 0)
  rw [List.length_append]
  split <;> simp <;> omega
theorem msg_mem {ws : List D} {x : D} (h : x ∈ msgF ws) : ∃ nd, x = .list [.str "message", nd] ∧ gdn 1 nd = true := by
  unfold msgF at h
  rcases List.mem_append.mp h with h | h
  · split at h
    · cases h
    · rw [List.mem_singleton.mp h]
      exact ⟨_, rfl, rfl⟩
  · obtain ⟨i, rfl⟩ := bads_mem h
    exact ⟨_, rfl, rfl⟩
def dueF (ps one other : List D) : List D := bads "prices" priceB 0 ps ++ msgF one ++ msgF other
theorem due_head {ps one other : List D} (h6 : ps.length = 6) : (dueF ps one other).head? = match pairBad ps one other with
    | .none => none | .prices nd => some (.list [.str "prices", nd]) | .message nd => some (.list [.str "message", nd]) := by
  unfold dueF pairBad
  have hp : needPr ps = (firstBad priceB 0 ps).map fun i => .int (i : Nat) := by
    unfold needPr
    rw [if_pos (decide_eq_true h6)]
  rw [List.head?_append, List.head?_append, bads_head, msg_head, msg_head, hp]
  cases firstBad priceB 0 ps with
  | some i => rfl
  | none =>
    cases needMsg one with
    | some nd => rfl
    | none =>
      cases needMsg other with
      | some nd => rfl
      | none => rfl
theorem gdn_l2 {k : Str} {nd : D} (h : gdn 1 (.str k) = true) (g : gdn 1 nd = true) : gdn 3 (.list [.str k, nd]) = true := List.all_eq_true.mpr fun y hy => by
  simp only [List.mem_cons, List.not_mem_nil, or_false] at hy
  rcases hy with rfl | rfl
  · exact gdn_mono h (by decide)
  · exact gdn_mono g (by decide)
theorem g_prices : gdn 1 (.str "prices") = true := by decide +kernel
theorem g_message : gdn 1 (.str "message") = true := by decide +kernel
theorem due_shape {ps one other : List D} : SeqAt.shaped (.list (dueF ps one other)) = true := sh_list (n := 3) (fun x hx => by
  unfold dueF at hx
  rcases List.mem_append.mp hx with hx | hx
  · rcases List.mem_append.mp hx with hx | hx
    · obtain ⟨i, rfl⟩ := bads_mem hx
      exact gdn_l2 g_prices rfl
    · obtain ⟨nd, rfl, g⟩ := msg_mem hx
      exact gdn_l2 g_message g
  · obtain ⟨nd, rfl, g⟩ := msg_mem hx
    exact gdn_l2 g_message g) (by decide)
def dueD : Bad → D
  | .none => .none
  | .prices nd => .list [.list [.str "prices", .str "ours", .str "value"], nd]
  | .message nd => .list [.list [.str "message", .str "ours", .str "value"], nd]
theorem due_get {ps one other : List D} (h6 : ps.length = 6) : (dueF ps one other = [] ∧ dueD (pairBad ps one other) = .none) ∨
    ∃ k nd r, dueF ps one other = .list [.str k, nd] :: r ∧ dueD (pairBad ps one other) = .list [.list [.str k, .str "ours", .str "value"], nd] := by
  have h := due_head (ps := ps) (one := one) (other := other) h6
  cases e : dueF ps one other with
  | nil =>
    rw [e] at h
    cases hb : pairBad ps one other with
    | none => exact .inl ⟨rfl, rfl⟩
    | prices nd => rw [hb] at h; cases h
    | message nd => rw [hb] at h; cases h
  | cons x r =>
    rw [e] at h
    cases hb : pairBad ps one other with
    | none => rw [hb] at h; cases h
    | prices nd => rw [hb] at h; cases h; exact .inr ⟨_, _, _, rfl, rfl⟩
    | message nd => rw [hb] at h; cases h; exact .inr ⟨_, _, _, rfl, rfl⟩
def okDue (a : A8) : Prop := a.ps.length = 6 ∧ a.one.length ≤ 1000 ∧ a.other.length ≤ 1000 ∧ gdn 6 (.tuple a.one) = true ∧ gdn 6 (.tuple a.other) = true
section
variable {P : Program} {w : World} {K : PySem.W.Frag} {mg : Str → Option Value} {base : Heap}
abbrev s_L_due : Stmt := topS 62
abbrev N_L_due : List Str := ["_law_prices", "_law_one", "_law_other_here", "_law_good", "_law_found", "_law_words", "_law_thing", "_law_number", "_law_is_good", "_law_word"]
theorem sc_L_due : FnScope N_L_due ["_law_prices", "_law_one", "_law_other_here"] (defScope s_L_due) := ⟨rfl, rfl, rfl, by decide +kernel, rfl, by decide +kernel, by decide +kernel⟩
abbrev spDue (K : PySem.W.Frag) : Sp := spR K A8.l okDue fun a => dueD (pairBad a.ps a.one a.other)
theorem c_L_due (T : Txt w K mg) (d : DefAt K mg "_law_due" s_L_due) (G_L_is_word : KCal P w K mg base CX0 1 "_law_is_word" ["_law_thing"] (spIsWord K)) : KCal P w K mg base CX0 2 "_law_due" ["_law_prices", "_law_one", "_law_other_here"] (spDue K) := by
  refine d.cal (fun _ _ _ _ _ _ us hl => match us, hl with | [_, _, _], _ => rfl) fun f fd F => F.ok sc_L_due (fun vs H Q E h => spr_len (fun _ => rfl) h) (fun cdv A outer s H vs Q E hr h => ?_)
  have hu := hr.units
  refine ⟨_, (pss_cons (ps_setLc (i := 3) (own := [("_law_thing", 6)]) rfl sc_L_due.nd rfl rfl (sw_true rfl rfl rfl (by decide +kernel)) (pi_any (pv 0)) (blkOk_by (N := N_L_due) (sc := defScope s_L_due) (by decide +kernel)) (fun _ _ _ _ _ => (pg_name (i := 6) sc_L_due.nd rfl (Or.inl rfl))) (fun _ _ _ _ _ => pts_nil) (fun _ _ _ _ _ => (pe_and (pe_callB (show CallR _ _ (rIsi K) from call_isi) (by rfl) T.n_isinstance (by decide +kernel) (pa_cons (pv 6) (pa_cons (pe_bltn (v := .ty "int") rfl T.n_int (by decide +kernel) rfl) pa_nil))) (pe_and (pe_not (pe_callB (show CallR _ _ (rIsi K) from call_isi) (by rfl) T.n_isinstance (by decide +kernel) (pa_cons (pv 6) (pa_cons (pe_bltn (v := .ty "bool") rfl T.n_bool (by decide +kernel) rfl) pa_nil)))) (pe_one (pe_chain op_le op_le pe_int (pv 6) pe_int))))))
  (pss_cons (ps_setLc (i := 4) (own := [("_law_number", 7), ("_law_is_good", 8)]) rfl sc_L_due.nd rfl rfl (sw_true rfl rfl rfl (by decide +kernel)) (pi_enumU (by rfl) T.n_enumerate (pa_cons (pv 3) pa_nil)) (blkOk_by (N := N_L_due) (sc := defScope s_L_due) (by decide +kernel)) (fun _ _ _ _ _ => (show PG _ _ (gTup K 2 _) from pg_tup rfl (pgs_cons (pg_name (i := 7) sc_L_due.nd rfl (Or.inl rfl)) (pgs_cons (pg_name (i := 8) sc_L_due.nd rfl (Or.inl rfl)) pgs_nil)))) (fun _ _ _ _ _ => (pts_one (pt_not (pt_val (pv 8))))) (fun _ _ _ _ _ => (pe_lst (pa_cons pe_str (pa_cons (pv 7) pa_nil)))))
  (pss_cons (ps_for PassesOwn.never rfl (pi_any (pe_tup (pa_cons (pv 1) (pa_cons (pv 2) pa_nil)))) (pg_name (i := 5) sc_L_due.nd rfl (Or.inl rfl))
  (pss_cons (ps_if (pt_not (pt_chain op_lt op_lt pe_int (pe_callB call_len (by rfl) T.n_len (by decide +kernel) (pa_cons (pv 5) pa_nil)) pe_int)) (pss_one (ps_set (i := 4) sc_L_due.nd rfl (Or.inl rfl) (pe_op opAddU (pv 4) (pe_lst (pa_cons (pe_lst (pa_cons pe_str (pa_cons pe_non pa_nil))) pa_nil))))) pss_nil)
  (pss_one (ps_set (i := 4) sc_L_due.nd rfl (Or.inl rfl) (pe_op opAddU (pv 4) (pe_lc (own := [("_law_number", 7), ("_law_word", 9)]) rfl sc_L_due.nd (pi_enumU (by rfl) T.n_enumerate (pa_cons (pv 5) pa_nil)) (blkOk_by (N := N_L_due) (sc := defScope s_L_due) (by decide +kernel)) (fun _ _ _ _ _ => (show PG _ _ (gTup K 2 _) from pg_tup rfl (pgs_cons (pg_name (i := 7) sc_L_due.nd rfl (Or.inl rfl)) (pgs_cons (pg_name (i := 9) sc_L_due.nd rfl (Or.inl rfl)) pgs_nil)))) (fun _ _ _ _ _ => (pts_one (pt_not (pt_val (pc0 G_L_is_word hr (by decide) (by rfl) (pa_cons (pv 9) pa_nil)))))) (fun _ _ _ _ _ => (pe_lst (pa_cons pe_str (pa_cons (pv 7) pa_nil))))))))))
  (pss_one (ps_ret (pe_ifExp (pt_cmpR (op_neD hu) (pv 4) (pe_lst pa_nil) (nomark _)) (pe_lst (pa_cons (pe_lst (pa_cons (pe_ix ix_seq (pe_ix ix_seq (pv 4) pe_int (fun _ _ => rfl)) pe_int (fun _ _ => rfl)) (pa_cons pe_str (pa_cons pe_str pa_nil)))) (pa_cons (pe_ix ix_seq (pe_ix ix_seq (pv 4) pe_int (fun _ _ => rfl)) pe_int (fun _ _ => rfl)) pa_nil))) pe_non)))))), ?_⟩
  obtain ⟨⟨ps, one, other⟩, h1, ok, k⟩ := h
  obtain ⟨v0, d0, v1, d1, v2, d2, rfl, e, hd0, hd1, hd2⟩ := dps3 h1 rfl
  cases e
  obtain ⟨h6, l1, l2, g1, g2⟩ : ps.length = 6 ∧ one.length ≤ 1000 ∧ other.length ≤ 1000 ∧ gdn 6 (.tuple one) = true ∧ gdn 6 (.tuple other) = true := ok
  replace hd0 : Dp K H v0 (.tuple ps) := hd0
  replace hd1 : Dp K H v1 (.tuple one) := hd1
  replace hd2 : Dp K H v2 (.tuple other) := hd2
  replace k : ∀ u H', Same H H' → Dp K H' u (dueD (pairBad ps one other)) → Q u H' := k
  walk_at "NX"
  refine s_asg (K := K) (ev_lc (ds := ps) (p := fun _ => true) (f := fun e => .bool (priceB e)) (yd_any (ev_var ⟨_, rfl, hd0⟩) rfl) (fun e he v' H4 k4 dv' R q => ?_) (by omega)) fun vg H1 e1 dvg => ?_
  · refine q _ wipe1 (fun _ _ _ q => q _ (Same.refl _)) fun _ => ⟨?_, rfl⟩
    cases e with
    | int i => exact ev_is (ev_andV (ev_isi2 rfl (ev_var ⟨_, rfl, dv'⟩) (kit_int _)) fun _ => ev_andV (ev_notV (ev_isi2 rfl (ev_var ⟨_, rfl, dv'⟩) (kit_bool _))) fun _ => ev_chain ev_int (ev_var ⟨_, rfl, dv'⟩) (rd_I0 fun _ => .bl _) (fun _ => ev_int) fun _ => rd_I0 fun _ => .bl _) rfl
    | bool b => exact ev_is (ev_andV (ev_isi2 rfl (ev_var ⟨_, rfl, dv'⟩) (kit_int _)) fun _ => ev_andV (b := false) (ev_notV (ev_isi2 rfl (ev_var ⟨_, rfl, dv'⟩) (kit_bool _))) fun h => nomatch h) rfl
    | none => exact ev_is (ev_andV (b := false) (ev_isi2 rfl (ev_var ⟨_, rfl, dv'⟩) (kit_int _)) fun h => nomatch h) rfl
    | str z => exact ev_is (ev_andV (b := false) (ev_isi2 rfl (ev_var ⟨_, rfl, dv'⟩) (kit_int _)) fun h => nomatch h) rfl
    | list z => exact ev_is (ev_andV (b := false) (ev_isi2 rfl (ev_var ⟨_, rfl, dv'⟩) (kit_int _)) fun h => nomatch h) rfl
    | tuple z => exact ev_is (ev_andV (b := false) (ev_isi2 rfl (ev_var ⟨_, rfl, dv'⟩) (kit_int _)) fun h => nomatch h) rfl
    | dict z => exact ev_is (ev_andV (b := false) (ev_isi2 rfl (ev_var ⟨_, rfl, dv'⟩) (kit_int _)) fun h => nomatch h) rfl
  have ef : (ps.filter fun _ => true) = ps := List.filter_eq_self.mpr fun _ _ => rfl
  rw [ef] at dvg
  walk_at "NX"
  have lG : (ps.map fun e => PyData.bool (priceB e)).length = 6 := by rw [List.length_map, h6]
  refine s_asg (K := K) (d := .list (bads "prices" priceB 0 ps)) (ev_is (ev_lcL (ds := enumD (ps.map fun e => PyData.bool (priceB e))) (p := secB isTrue) (f := secL "prices") (yd_enum (by walk_at "AV") (.inl rfl)) (fun e he v' H4 k4 dv' R q => ?_) (by rw [enumD_len, lG]; decide)) (by rw [bads_enumD, bads_bool])) fun vf H2 e2 dvf => ?_
  · obtain ⟨i, hi, rfl⟩ := List.mem_mapIdx.mp he
    have hb : ∃ b, (ps.map fun e => PyData.bool (priceB e))[i] = .bool b := ⟨_, List.getElem_map _⟩
    obtain ⟨b, hb⟩ := hb
    rw [hb] at dv' q
    refine g_pair (K := K) dv' fun vi vb di db => q _ (wipe2 (by decide)) (tv_not (tv_B (ev_var ⟨_, rfl, db⟩))) fun _ => evl_lst (av_cons ev_str (av_cons (ev_var ⟨_, rfl, di⟩) av_nil)) (fun z hz => ?_) (by show 2 ≤ 100000; decide)
    have hz : z ∈ ([.str "prices", .int (i : Nat)] : List D) := hz
    simp only [List.mem_cons, List.not_mem_nil, or_false] at hz
    rcases hz with rfl | rfl <;> rfl
  walk_at "NX"
  have e12 := e1.trans e2
  have lB := bads_len (kind := "prices") (p := priceB) (xs := ps) (k := 0)
  refine s_for (K := K) (d := .tuple [.tuple one, .tuple other]) (ds := [.tuple one, .tuple other]) (yd_any (ev_tup (av_cons (ev_var ⟨_, rfl, dp_same e12 hd1⟩) (av_cons (ev_var ⟨_, rfl, dp_same e12 hd2⟩) av_nil)) (by show 2 ≤ 100000; decide)) rfl) fun H3 w3 e3 dw3 => ⟨fun i σ Hc => ∃ o5 vf, σ = [some v0, some v1, some v2, some vg, some vf, o5, none, none, none, none] ∧ Same H Hc ∧ Dp K Hc w3 (.tuple [.tuple one, .tuple other]) ∧ Dp K Hc vf (.list (bads "prices" priceB 0 ps ++ (([one, other].take i).map msgF).flatten)), ?_, ?_, ?_, ?_, ?_⟩
  · rintro i σ Ha Hb sm ⟨o5, vf, rfl, q1, q2, q3⟩
    exact ⟨o5, vf, rfl, q1.trans sm, dp_same sm q2, dp_same sm q3⟩
  · rintro i σ Ha ⟨o5, vf, rfl, q1, q2, q3⟩
    exact q2
  · exact ⟨_, _, rfl, e12.trans e3, dw3, by show Dp K H3 vf (.list (_ ++ [])); rw [List.append_nil]; exact dp_same e3 dvf⟩
  · rintro i e v σ Hc he ⟨o5, vf, rfl, q1, q2, q3⟩ dv
    obtain ⟨ws, rfl, hw, lw, gw⟩ : ∃ ws, e = .tuple ws ∧ [one, other][i]? = some ws ∧ ws.length ≤ 1000 ∧ gdn 6 (.tuple ws) = true := by
      match i, he with
      | 0, he => cases he; exact ⟨one, rfl, rfl, l1, g1⟩
      | 1, he => cases he; exact ⟨other, rfl, rfl, l2, g2⟩
    have i2 : i < 2 := (List.getElem?_eq_some_iff.mp hw).1
    obtain ⟨F, hF⟩ : ∃ F, F = bads "prices" priceB 0 ps ++ (([one, other].take i).map msgF).flatten := ⟨_, rfl⟩
    have lF : F.length ≤ 2000 := by
      rw [hF, List.length_append]
      have m1 := msg_len (ws := one)
      match i, i2 with
      | 0, _ => show _ + 0 ≤ _; omega
      | 1, _ =>
        show _ + (msgF one ++ []).length ≤ _
        rw [List.append_nil]
        omega
    rw [← hF] at q3
    refine gname_go ?_
    have hs : sizedD (.tuple ws) := trivial
    walk_at "NX"
    refine s_if (K := K) (b := !(decide ((0 : Int) < (ws.length : Nat)) && decide (((ws.length : Nat) : Int) < 7))) (tv_not (tv_is (by walk_at "TV") rfl)) (fun hb H4 e4 => ?a) (fun hb H4 e4 => ?b)
    case' a =>
      try dsimp only
      obtain ⟨G, hG⟩ : ∃ G, G = F ++ [PyData.list [.str "message", .none]] := ⟨_, rfl⟩
      have hG2 : G ++ bads "message" nameD 0 ws = F ++ msgF ws := by
        rw [hG]; unfold msgF; rw [if_neg (by intro h; rw [h] at hb; cases hb), List.append_assoc]
      have lG : G.length ≤ 2001 := by rw [hG, List.length_append]; show _ + 1 ≤ _; omega
      refine s_asg (K := K) (d := .list G) (ev_is (ev_op (ev_var ⟨_, rfl, dp_same e4 q3⟩) (ev_lst (av_cons (ev_lst (av_cons ev_str (av_cons ev_non av_nil)) (by show 2 ≤ 100000; decide)) av_nil) (by show 1 ≤ 100000; decide)) (rd_addL (by show _ + 1 ≤ _; omega))) (by rw [hG])) fun vf5 H5 e5 dvf5 => ?_
      have e45 := e4.trans e5
    case' b =>
      obtain ⟨G, hG⟩ : ∃ G, G = F := ⟨_, rfl⟩
      have hG2 : G ++ bads "message" nameD 0 ws = F ++ msgF ws := by
        rw [hG]; unfold msgF; rw [if_pos (by rw [Bool.not_eq_false'] at hb; exact hb), List.nil_append]
      have lG : G.length ≤ 2001 := by rw [hG]; omega
      obtain ⟨vf5, hv5⟩ : ∃ vf5, vf5 = vf := ⟨_, rfl⟩
      obtain ⟨H5, hH5⟩ : ∃ H5, H5 = H4 := ⟨_, rfl⟩
      have dvf5 : Dp K H5 vf5 (.list G) := by rw [hv5, hH5, hG]; exact dp_same e4 q3
      have e45 : Same Hc H5 := by rw [hH5]; exact e4
      rw [← hv5, ← hH5]
    all_goals
      walk_at "NX"
      have lb := bads_len (kind := "message") (p := nameD) (xs := ws) (k := 0)
      refine s_asg (K := K) (d := .list (F ++ msgF ws)) (ev_is (ev_op (ev_var ⟨_, rfl, dvf5⟩) (ev_is (ev_lcL (ds := enumD ws) (p := secB nameD) (f := secL "message") (yd_enum (av_cons (ev_var ⟨_, rfl, dp_same e45 dv⟩) av_nil) (.inr rfl)) (fun e he v' H6 k6 dv' R q => ?_) (by rw [enumD_len]; omega)) (by rw [bads_enumD])) (rd_addL (by omega))) (by rw [hG2])) fun vf7 H7 e7 dvf7 => ?_
      · obtain ⟨j, hj, rfl⟩ := List.mem_mapIdx.mp he
        have gj : gdn 6 ws[j] = true := gdn_mono (gdn_tup gw _ (List.getElem_mem hj)) (by decide)
        refine g_pair (K := K) dv' fun vi vb di db => q _ (wipe2 (by decide)) (tv_not (tv_B (ev_call (av_cons (ev_var ⟨_, rfl, db⟩) av_nil) (spd_isWord gj)))) fun _ => evl_lst (av_cons ev_str (av_cons (ev_var ⟨_, rfl, di⟩) av_nil)) (fun z hz => ?_) (by show 2 ≤ 100000; decide)
        have hz : z ∈ ([.str "message", .int (j : Nat)] : List D) := hz
        simp only [List.mem_cons, List.not_mem_nil, or_false] at hz
        rcases hz with rfl | rfl <;> rfl
      · refine ⟨_, vf7, rfl, (q1.trans e45).trans e7, dp_same (e45.trans e7) q2, ?_⟩
        rw [take_step hw, List.map_append, List.flatten_append, ← List.append_assoc, ← hF]
        show Dp K H7 vf7 (.list (F ++ (msgF ws ++ [])))
        rw [List.append_nil]
        exact dvf7
  · rintro σ Hc ⟨o5, vf, rfl, q1, q2, q3⟩
    have eF : (bads "prices" priceB 0 ps ++ (([one, other].take 2).map msgF).flatten) = dueF ps one other := by
      unfold dueF
      show _ ++ (msgF one ++ (msgF other ++ [])) = _
      rw [List.append_nil, List.append_assoc]
    replace q3 : Dp K Hc vf (.list (dueF ps one other)) := eF ▸ q3
    have sh := due_shape (ps := ps) (one := one) (other := other)
    have sh0 : SeqAt.shaped (.list []) = true := rfl
    try dsimp only
    rcases due_get (ps := ps) (one := one) (other := other) h6 with ⟨z1, z2⟩ | ⟨kd, nd, r, z1, z2⟩
    · rw [z1] at q3 sh
      refine s_ret (K := K) (d := .none) (ev_if (b := false) (tv_is (tv_T (ev_op (ev_var ⟨_, rfl, q3⟩) (ev_lst av_nil (by show 0 ≤ 100000; decide)) (rd_neD sh sh0))) rfl) (fun h => nomatch h) fun _ => ev_non) fun u H4 e4 du => k u H4 (q1.trans e4) (by rw [z2]; exact du)
    · rw [z1] at q3 sh
      have i0 : atI (PyData.list [.str kd, nd] :: r) 0 = some (.list [.str kd, nd]) := by
        unfold atI ixN
        rw [if_pos (by decide), if_pos (by show (0 : Int) < ((r.length + 1 : Nat) : Int); omega)]
        rfl
      have i1 : atI [PyData.str kd, nd] 0 = some (.str kd) := rfl
      have i2 : atI [PyData.str kd, nd] 1 = some nd := rfl
      have vF : ∀ {Hx : Hp}, Same Hc Hx → Dp K Hx vf (.list (PyData.list [.str kd, nd] :: r)) := fun e => dp_same e q3
      refine s_ret (K := K) (d := .list [.list [.str kd, .str "ours", .str "value"], nd]) (ev_if (b := true) (tv_is (tv_T (ev_op (ev_var ⟨_, rfl, q3⟩) (ev_lst av_nil (by show 0 ≤ 100000; decide)) (rd_neD sh sh0))) rfl) (fun _ => ev_lst (av_cons (ev_lst (av_cons (ev_op (ev_op (ev_var ⟨_, rfl, q3⟩) ev_int (rd_ixL i0)) ev_int (rd_ixL i1)) (av_cons ev_str (av_cons ev_str av_nil))) (by show 3 ≤ 100000; decide)) (av_cons (ev_op (ev_op (ev_var ⟨_, rfl, q3⟩) ev_int (rd_ixL i0)) ev_int (rd_ixL i2)) av_nil)) (by show 2 ≤ 100000; decide)) fun h => nomatch h) fun u H4 e4 du => k u H4 (q1.trans e4) (by rw [z2]; exact du)
end
end K5
set_option Elab.async false
set_option linter.all false
set_option maxRecDepth 100000
set_option maxHeartbeats 4000000
/-! Exceptions that are kept behind their except clause. -/
namespace K5
open PySem L2 PySem.Spec PyProof.Rows
/-- an exception kept as a value -/
def ExA (cls : Value) (d : Option Addr) (a : Addr) : HO := .ext fun h => ∃ (oe : Obj) (vs : Array Value), h.get? a = some oe ∧ Zc cls d oe ∧ oe.data = .fields vs
theorem exA_ok {P : Program} {w : World} {H : Hp} {h : Heap} {a : Addr} {cls : Value} {d : Option Addr} {oe : Obj} {vs : Array Value} (e : h.get? a = some oe) (z : Zc cls d oe) (dd : oe.data = .fields vs) : ObjOk P w H h a (ExA cls d a) :=
  ⟨⟨oe, vs, e, z, dd⟩, ⟨oe, e⟩, fun _ _ ⟨o, v, q, r⟩ k => ⟨o, v, k o q, r⟩⟩
section
variable {X : Cx} {pins : List (Addr × Obj)} {σ : L2.St} {H : Hp} {s : Shared} {a : Addr} {oe : Obj} {vs : Array Value} {cls : Value} {d : Option Addr}
theorem inv_track (I : Inv X pins σ H s) (ea : s.heap.get? a = some oe) (z : Zc cls d oe) (dd : oe.data = .fields vs) (na : H a = none) (n0 : X.s_0.heap.get? a = none) (nL : a ≠ X.env.locals) (np : ∀ p ∈ X.pn ++ pins, p.1 ≠ a) : Inv X pins σ (upd H a (ExA cls d a)) s := by
  have ne0 : ∀ b o, X.s_0.heap.get? b = some o → b ≠ a := fun b o e q => by rw [q, n0] at e; cases e
  refine ⟨I.ok, I.os, I.bare, ⟨I.base.keep, I.base.slot, fun b o e n hx => ?_, I.base.there, fun b xs q => ?_, fun b o u q => ?_, fun b ps q => ?_⟩, I.loc, I.cell, ?_, fun x c e => ?_, fun p hp => ?_, fun b u e => ?_, I.len⟩
  · rw [upd_ne (ne0 b o e)]
    exact I.base.free b o e n hx
  · have z := I.base.tups b xs q
    rw [upd_ne (ne_of_none z na)]
    exact z
  · have z := I.base.frzs b o u q
    rw [upd_ne (ne_of_none z na)]
    exact z
  · obtain ⟨m, z⟩ := I.base.tbls b ps q
    exact ⟨m, by rw [upd_ne (ne_of_none z na)]; exact z⟩
  · rw [upd_ne nL.symm]
    exact I.free
  · have hc : c ≠ a := fun q => by
      obtain ⟨v, o, ho, hd⟩ := I.cell x c e
      rw [q, ea] at ho
      cases ho
      rw [dd] at hd
      cases hd
    rw [upd_ne hc]
    exact I.freeC x c e
  · obtain ⟨e, n, ne, nf, k⟩ := I.pin p hp
    exact ⟨e, by rw [upd_ne (np p hp)]; exact n, ne, nf, k⟩
  · by_cases hb : b = a
    · subst hb
      rw [upd_same] at e
      cases e
      exact exA_ok ea z dd
    · rw [upd_ne hb] at e
      exact (I.hok b u e).stay (fun c v _ q => q) (fun c q => by rw [upd_ne (ne_of_none q na)]; exact q) fun c xs q => by rw [upd_ne (ne_of_none q na)]; exact q
end
/-- what the clauses wish; the exception stays tracked behind its suite -/
def wKeep (K : PySem.W.Frag) (i : Nat) (Wout : WX) (D : Ends) : List (Value × (Addr → Value → Option Addr → TS)) → WX
  | [] => Wout
  | (c, ts) :: r => fun cls d σ H => ∃ b, PySem.W.exmOne K cls c = some b ∧ (b = true → ∀ a, H a = none → ts a cls d { nx := fun σ' H' => H' a = none → D.nx (σ'.set i none) (upd H' a (ExA cls d a)), rt := D.rt, bk := fun _ _ => False, ct := fun _ _ => False } (σ.set i (some (.ref a))) H) ∧
    (b = false → wKeep K i Wout D r cls d σ H)
inductive HdsK (X : Cx) (n : Str) : List ExceptHandler → List (Value × (Addr → Value → Option Addr → TS)) → Prop
  | nil : HdsK X n [] []
  | cons {x : Str} {c : Value} {ts : Addr → Value → Option Addr → TS} {b₀ : Stmt} {suite : List Stmt} {np pos' : Pos} {hds : List ExceptHandler} {l : List (Value × (Addr → Value → Option Addr → TS))} (hc : Names X x c)
      (hsu : ∀ (a : Addr) (oe : Obj) (cls : Value) (d : Option Addr) (pn : List (Addr × Obj)), Zc cls d oe → (∃ vs, oe.data = .fields vs) → PSs (X.suite a ((a, oe) :: pn)) (b₀ :: suite) (ts a cls d)) (r : HdsK X n hds l) :
      HdsK X n (.ExceptHandler (some (.Name x np)) (some n) (b₀ :: suite) pos' :: hds) ((c, ts) :: l)
section
variable {X : Cx} {body : List Stmt} {h₀ : ExceptHandler} {hds : List ExceptHandler} {l : List (Value × (Addr → Value → Option Addr → TS))} {pos : Pos} {tb : WX → TS} {Wout : WX} {n : Str} {i : Nat}
theorem ps_try_keep (hs : X.stack = X.env :: X.outer) (hf : X.env.frame = some X.env.locals) (hex : X.ex = []) (hN : X.N.Nodup) (hi : X.N[i]? = some n) (hln : X.env.kindOf n = some .local) (tk : Takes X Wout)
    (hb : ∀ (W : WX) (pn : List (Addr × Obj)) (xe : Value → Shared → Prop), Takes (X.tr pn xe) W → PassesOwn (model X.prog X.w) X.A X.env xe → PSs (X.tr pn xe) body (tb W))
    (hh : HdsK X n (h₀ :: hds) l) : PS X (.Try body (h₀ :: hds) [] [] pos) (fun D σ H => tb (wKeep X.K i Wout D l) D σ H) := by
  refine ⟨fun pins s σ H D I h => ?_⟩
  have ok := I.ok
  have hfr : X.A.frames = some (X.env :: X.outer) := by rw [ok.frames, hs]
  have hloc : Loc X.env.scope n := .inl hln
  refine wpAny_Try_except ?_
  refine wpAny_mono ((hb (wKeep X.K i Wout D l) (X.pn ++ pins) (fun e s₁ => wpAny (model X.prog X.w) X.A (noteFrame e X.env) (fun _ s₂ => wpAny (model X.prog X.w) X.A (setFlight e none) (fun _ s₃ =>
    wpAny (model X.prog X.w) X.A (handleBy e X.env (h₀ :: hds)) (SP X pins D) X.xe s₃) X.xe s₂) X.xe s₁) (fun u s' xx => ?_) PassesOwn.looking).run [] s σ H D (I.toTry _) h) (fun f s1 hsp => ?_) (fun e s1 he => he)
  · obtain ⟨a, B, sI, pins', σ', H', cls, d, rfl, J', nb, up, sky, na, os, ag, w⟩ := xx
    have J : Inv X pins σ' H' sI := J'.ofTry ok
    have sky' : Sky B (X.env :: X.outer) a (Zc cls d) X.env.locals s'.heap := by rw [← hs]; exact sky
    show wpAny (model X.prog X.w) X.A (noteFrame (.ref a) X.env) _ _ _
    refine Sky.land Zc.steady hfr hf sky' fun h3 fl3 up3 => ?_
    have J3 : Inv X pins σ' H' { s' with heap := h3 } := J.landed nb fl3.1 (up.trans up3) os ag
    obtain ⟨oe3, vs3, he3, hz3, hd3⟩ := fl3.there
    have notFr : ∀ {h : Heap} {o : Obj} {vs : Array Value}, h.FunFrames B (X.env :: X.outer) → h.get? a = some o → o.data = .fields vs → a ∉ frs (X.env :: X.outer) := fun {h o vs} ff e dd hm => by
      obtain ⟨_, o', e', hnf⟩ := ff.mem hm
      rw [e] at e'; cases e'
      exact hnf _ dd
    have nfr := notFr fl3.2.2.1 he3 hd3
    have nL : a ≠ X.env.locals := fun z => nfr (List.mem_filterMap.mpr ⟨X.env, List.mem_cons_self, by rw [hf, z]⟩)
    have nF : a ∉ X.fs := fun hm => by
      obtain ⟨e, he, q⟩ := List.mem_filterMap.mp hm
      exact nfr (List.mem_filterMap.mpr ⟨e, List.mem_cons_of_mem _ he, q⟩)
    have nI : sI.heap.get? a = none := by
      cases q : sI.heap.get? a with
      | none => rfl
      | some o =>
        have z := nb a o q (by rw [hs]; exact nfr)
        rw [fl3.2.1] at z
        cases z
    have n0 : X.s_0.heap.get? a = none := by
      cases q : X.s_0.heap.get? a with
      | none => rfl
      | some o =>
        obtain ⟨o', z⟩ := J.base.there a o q (by rw [hex]; exact fun z => nomatch z)
        rw [nI] at z
        cases z
    have np : ∀ p ∈ X.pn ++ pins, p.1 ≠ a := fun p hp z => by
      have := (J.pin p hp).1
      rw [z, nI] at this
      cases this
    have S3 := J3.suite he3 hd3 na nL nF
    have go : ∀ {hds' : List ExceptHandler} {l' : List (Value × (Addr → Value → Option Addr → TS))}, HdsK X n hds' l' → wKeep X.K i Wout D l' cls d σ' H' →
        wpAny (model X.prog X.w) X.A (handleBy (.ref a) X.env hds') (SP X pins D) X.xe { s' with heap := h3 } := by
      intro hds' l' hk
      induction hk with
      | nil =>
        intro w
        refine wpAny_handleBy_nil ?_
        obtain ⟨k1, k2, k3, oe, vs, T, oT, ts', he, hz, hd, h1, hr⟩ := id fl3
        unfold PySem.passOn
        refine wpAny_bind (wpAny_field he hd h1 ?_)
        rw [if_neg (show ¬ ((Value.ref T == Value.none) = true) from by simp)]
        have fin : wpAny (model X.prog X.w) X.A (setFlight (.ref a) X.env.frame) (fun _ s4 => wpAny (model X.prog X.w) X.A (throw (.ref a) : Sem Flow) (SP X pins D) X.xe s4) X.xe { s' with heap := h3 } := by
          rw [hf]
          refine HandSPX.setFlight_upZ fl3 fun h4 hh4 up4 => wpAny_throw (tk _ _ ?_)
          exact ⟨a, B, sI, pins, σ', H', cls, d, rfl, J, nb, (up.trans up3).trans up4, .inr (.inr (by rw [hs]; exact hh4)), na, os, ag, w⟩
        first
          | exact wpAny_bind (wpAny_pure (wpAny_bind fin))
          | exact wpAny_bind fin
      | @cons x c ts b₀ suite np0 pos' hds2 l2 hc hsu r ih =>
        intro w
        obtain ⟨b, hb1, hyes, hno⟩ := w
        refine wpAny_handleBy_cons (codeAny_handlers_test ?_) (by intro q; cases q)
        have LT : PySem.W.Looks (model X.prog X.w) h3 (typeOf (.ref a)) cls := fun A Q E s k q => wpAny_typeOf_ref (k _ _ he3) (by rw [hz3.1]; exact q)
        have LM := PySem.W.exm_one (M := model X.prog X.w) (J3.kIn) LT hb1
        have test : ∀ {Q : Value → Shared → Prop} {E : Value → Shared → Prop}, Q c { s' with heap := h3 } → wpAny (model X.prog X.w) (X.A.mark (some (.ref a))) (eval (.Name x np0) X.env) Q E { s' with heap := h3 } := fun {Q E} q => by
          obtain ⟨hg, hdbg, hm | ⟨hm, hv, hnn⟩⟩ := hc
          · exact ld_glob (X := X.suite a ((a, oe3) :: (X.pn ++ pins))) S3 hg hm q hdbg
          · exact ld_blt (X := X.suite a ((a, oe3) :: (X.pn ++ pins))) S3 hg hm hv q hnn hdbg
        refine test (LM.here ?_)
        cases b with
        | true =>
          refine codeAny_handlers_suite_as ?_
          refine HandSPX.lands_againZ fl3 fun h4 fl4 up4 => ?_
          have J4 : Inv X pins σ' H' { s' with heap := h4 } := J.landed nb fl4.1 ((up.trans up3).trans up4) os ag
          obtain ⟨oe4, vs4, he4, hz4, hd4⟩ := fl4.there
          have S4 := J4.suite he4 hd4 na nL nF
          refine store_ok (X := X.suite a ((a, oe4) :: (X.pn ++ pins))) (v := .ref a) S4 hN hi hloc rfl (fun s5 S5 => ?_) (.inr hln)
          refine wpAny_mono ((hsu a oe4 cls d (X.pn ++ pins) hz4 ⟨_, hd4⟩).run [] s5 _ H' _ S5 (hyes rfl a na)) (fun f s6 hsp => ?_) (fun _ _ z => False.elim z)
          cases f with
          | next =>
            obtain ⟨σ6, H6, S6, q6⟩ := hsp
            obtain ⟨g6, na6, _⟩ := S6.pin (a, oe4) (List.mem_append_left _ List.mem_cons_self)
            exact gone_ok (inv_track (S6.unsuite ok) g6 hz4 hd4 na6 n0 nL np) hN hi hln fun s7 J7 => ⟨_, _, J7, q6 na6⟩
          | brk =>
            obtain ⟨σ6, H6, S6, q6⟩ := hsp
            exact q6.elim
          | cont =>
            obtain ⟨σ6, H6, S6, q6⟩ := hsp
            exact q6.elim
          | ret u =>
            obtain ⟨v6, σ6, H6, S6, r6, q6⟩ := hsp
            exact gone_ok (S6.unsuite ok) hN hi hln fun s7 J7 => ⟨_, _, _, J7, r6, q6⟩
        | false =>
          show wpAny _ X.A (handleBy (.ref a) X.env hds2) _ _ _
          exact ih (hno rfl)
    exact go hh w
  · cases f with
    | next =>
      obtain ⟨σ', H', J', q⟩ := hsp
      exact wpAny_execs_nil ⟨σ', H', J'.ofTry ok, q⟩
    | brk =>
      obtain ⟨σ', H', J', q⟩ := hsp
      exact ⟨σ', H', J'.ofTry ok, q⟩
    | cont =>
      obtain ⟨σ', H', J', q⟩ := hsp
      exact ⟨σ', H', J'.ofTry ok, q⟩
    | ret u =>
      obtain ⟨v, σ', H', J', r, q⟩ := hsp
      exact ⟨v, σ', H', J'.ofTry ok, r, q⟩
end
/-! ### what is read of it -/
theorem exA_inst {X : Cx} {pins : List (Addr × Obj)} {σ : L2.St} {H : Hp} {s : Shared} {a C dd : Addr} {fs : List (Str × V)} (I : Inv X pins σ H s) (ha : H a = some (ExA (.ref C) (some dd) a)) (hd : H dd = some (.xd fs)) :
    ∃ (oe od : Obj) (mA : Str → Option Value), PySem.W.InstAt s.heap a oe C (some od) ∧ (∀ f, RelO (fs.lookup f) (mA f)) ∧ ∀ f, PySem.W.lookIn f od = some (mA f) := by
  obtain ⟨⟨oe, vs, he, hz, hv⟩, _, _⟩ := I.hok a _ ha
  have hx : ObjOk X.prog X.w H s.heap dd (.xd fs) := I.hok dd _ hd
  obtain ⟨mA, hns, hr⟩ := hx
  obtain ⟨od, ho, hl⟩ := lookIn_ns hns
  exact ⟨oe, od, mA, ⟨he, hz.1, by unfold PySem.W.notCls; rw [hv] <;> rfl, by rw [hz.2]; exact ho⟩, hr, hl⟩
/-- isinstance(x, c), x a kept exception -/
def rIsX (K : PySem.W.Frag) : List V → Hp → VK → Prop := fun xs H Q => ∃ (a C dd : Addr) (fs : List (Str × V)) (c : V) (cv : Value) (b : Bool), xs = [.ref a, c] ∧ H a = some (ExA (.ref C) (some dd) a) ∧ H dd = some (.xd fs) ∧ ExcC K C ∧ (∀ u, RelV c u → u = cv) ∧ PySem.W.kitOne K (.ref C) cv = some b ∧ Q (.bl b) H
theorem call_isX {X : Cx} : CallR X (.builtin "isinstance") (rIsX X.K) := by
  intro pins s σ H xs us Q I r h
  obtain ⟨a, C, dd, fs, c, cv, b, rfl, ha, hd, T, hcv, e, q⟩ := h
  obtain ⟨u1, u2, rfl, r1, r2⟩ := vals2 r
  cases r1
  have ec := hcv _ r2
  subst ec
  obtain ⟨oe, od, mA, J, _, _⟩ := exA_inst I ha hd
  obtain ⟨cd, hc, _⟩ := PySem.W.any_some T.hd
  exact PySem.W.kia_one (PySem.W.kitx_exc (od := some od) (by rw [hc]; rfl) T.hg T.hk T.hs T.ha T.hn T.ht T.hm) I.kIn J e (fun z => nomatch z) fun tk => ⟨.bl b, H, I.tok tk, rfl, q⟩
/-- x.n, x a kept exception -/
def tXg (K : PySem.W.Frag) (n : Str) (te : TE) : TE := fun σ H Q => te σ H fun x H1 => ∃ (a C dd : Addr) (fs : List (Str × V)) (v : V), x = .ref a ∧ H1 a = some (ExA (.ref C) (some dd) a) ∧ H1 dd = some (.xd fs) ∧ XfC K C ∧ PySem.W.findIn K (.ref C) n = some none ∧ fs.lookup n = some v ∧ Q v H1
theorem pe_exn {X : Cx} {e : Expr} {te : TE} {pos : Pos} {n : Str} (he : PE X e te) (hb : attributeBase e n X.env (eval e X.env) = eval e X.env := by rfl) : PE X (.Attribute e n pos) (tXg X.K n te) := by
  refine ⟨fun pins s σ H Q I h => ?_⟩
  refine attr_of hb (thn (he.run pins s σ H _ I h) fun u s1 hh => ?_)
  obtain ⟨x, H1, I1, rx, a, C, dd, fs, v, rfl, ha, hd, T, hno, l, q⟩ := hh
  obtain rfl : u = Value.ref a := rx
  obtain ⟨oe, od, mA, J, hr, hl⟩ := exA_inst I1 ha hd
  obtain ⟨u, hu, ru⟩ := RelO.some_of (v := v) (o := mA n) (by rw [← l]; exact hr n)
  exact HandSPX.exc_get I1.kIn J T.ga T.gg T.exC (PySem.W.findObj_own T.hdC hno rfl (by rw [hl, hu])) (handed_of ru) ⟨v, H1, I1.tok _, ru, q⟩
/-! ### evaluated on any heap that keeps this one -/
section
variable {K : PySem.W.Frag} {s : L2.St} {H : Hp} {ta tb : TE} {d : D}
def Es (K : PySem.W.Frag) (te : TE) (s : L2.St) (H : Hp) (d : D) : Prop := ∀ H1, Same H H1 → ∀ Q : VK, (∀ v H2, Same H1 H2 → Dp K H2 v d → Q v H2) → te s H1 Q
def As (K : PySem.W.Frag) (ta : TA) (s : L2.St) (H : Hp) (ds : List D) : Prop := ∀ H1, Same H H1 → ∀ Q : List V → Hp → Prop, (∀ vs H2, Same H1 H2 → DpAll K H2 vs ds → Q vs H2) → ta s H1 Q
theorem es_ev (h : Ev K ta s H d) : Es K ta s H d := fun H1 e Q q => h H1 (.of e) Q q
theorem es_go {c : D} (h : Es K ta s H c) {Q : VK} (q : ∀ v H1, Same H H1 → Dp K H1 v c → Q v H1) : ta s H Q := h H (Same.refl H) Q q
theorem as_nil : As K tNil s H [] := fun H1 _ _ q => q [] H1 (Same.refl _) .nil
theorem as_cons {tr : TA} {ds : List D} (h : Es K ta s H d) (hr : As K tr s H ds) : As K (tCons ta tr) s H (d :: ds) := fun H1 k _ q =>
  h H1 k _ fun v H2 k2 dv => hr H2 (k.trans k2) _ fun vs H3 k3 dvs => q _ H3 (k2.trans k3) (.cons (dp_same k3 dv) dvs)
theorem es_tup {t : TA} {ds : List D} (h : As K t s H ds) (hl : ds.length ≤ 100000) : Es K (tTup t) s H (.tuple ds) := fun H1 k _ q =>
  h H1 k _ fun vs H2 k2 dvs => ⟨by rw [dps_len dvs]; exact Nat.le_trans hl (by decide), fun p hp => q _ _ (k2.trans (Same.new hp)) (.tup (SqT.of upd_same) (dps_same (Same.new hp) dvs))⟩
theorem es_lst {t : TA} {ds : List D} (h : As K t s H ds) (hl : ds.length ≤ 100000) : Es K (tLst t) s H (.list ds) := fun H1 k _ q =>
  h H1 k _ fun vs H2 k2 dvs => ⟨by rw [dps_len dvs]; exact Nat.le_trans hl (by decide), fun p hp => q _ _ (k2.trans (Same.new hp)) (.lst (SqL.of upd_same) (dps_same (Same.new hp) dvs))⟩
theorem es_op {r : R2} {a b c : D} (ha : Es K ta s H a) (hb : Es K tb s H b) (hr : ∀ H1, RD K r H1 a b c) : Es K (tOp r ta tb) s H c := fun H1 k Q q =>
  ha H1 k _ fun x H2 k2 dx => hb H2 (k.trans k2) _ fun y H3 k3 dy => hr H3 H3 x y (.refl _) (dp_same k3 dx) dy Q fun v H4 k4 dv => q v H4 ((k2.trans k3).trans k4) dv
theorem es_isX {i : Nat} {a C dd : Addr} {fs : List (Str × V)} {c : V} {cv : Value} {b : Bool} (h0 : s[i]? = some (some (.ref a))) (ha : H a = some (ExA (.ref C) (some dd) a)) (hd : H dd = some (.xd fs)) (T : ExcC K C) (hcv : ∀ u, RelV c u → u = cv) (hk : PySem.W.kitOne K (.ref C) cv = some b) :
    Es K (tCB (rIsX K) (tCons (tVar i) (tCons (tC c) tNil))) s H (.bool b) := fun H1 e Q q => ⟨.ref a, h0, a, C, dd, fs, c, cv, b, rfl, e _ _ ha, e _ _ hd, T, hcv, hk, q _ H1 (Same.refl _) (.bl _)⟩
end
end K5
set_option Elab.async false
set_option linter.all false
set_option maxRecDepth 100000
set_option maxHeartbeats 4000000
/-! The kinds of a refusal, and what is told of it. -/
namespace K5
open PySem L2 PySem.Spec PyProof.Rows
local macro_rules | `(tactic| walk_at "DP") => `(tactic| first | with_reducible assumption | with_reducible exact Dp.int _ | with_reducible exact Dp.str _ | with_reducible exact Dp.bl _ | with_reducible exact Dp.non | with_reducible exact dp_up (by assumption) (by assumption))
local macro_rules | `(tactic| walk_at "SH") => `(tactic| first | with_reducible assumption | rfl)
local macro_rules | `(tactic| walk_at "RD") => `(tactic| first | with_reducible assumption | exact rd_addI | exact rd_I0 fun _ => .int _ | exact rd_I0 fun _ => .bl _ | exact rd_ixL (by with_reducible assumption) | exact rd_ixT (by with_reducible assumption) | exact rd_ixS (by with_reducible assumption) (by with_reducible assumption) | exact rd_eqD (by walk_at "SH") (by walk_at "SH") | exact rd_neD (by walk_at "SH") (by walk_at "SH") | exact rd_inS | exact rd_notN | exact rd_isN | exact rd_addL (by with_reducible assumption) | exact rd_addT (by with_reducible assumption) | exact rd_addS (by with_reducible assumption))
local macro_rules | `(tactic| walk_at "OV") => `(tactic| first | with_reducible exact ov_no | ((with_reducible apply ov_some); walk_at "EV"))
local macro_rules | `(tactic| walk_at "AV") => `(tactic| first | with_reducible assumption | with_reducible exact av_nil | ((with_reducible apply av_cons); walk_at "EV"; walk_at "AV"))
local macro_rules | `(tactic| walk_at "RC") => `(tactic| first | with_reducible assumption | exact rc_len (by (first | with_reducible assumption | trivial)) | exact rc_tupL | exact rc_tupT | exact rc_lstL | exact rc_lstT | exact rc_all | exact rc_sum | exact rc_min2 | exact rc_min3)
local macro_rules | `(tactic| walk_at "KIT") => `(tactic| first | with_reducible exact kit_int _ | with_reducible exact kit_bool _ | with_reducible exact kit_str _ | with_reducible exact kit_tuple _)
local macro_rules | `(tactic| walk_at "EV") => `(tactic| first | with_reducible assumption | with_reducible exact ev_int | with_reducible exact ev_str | with_reducible exact ev_bl | with_reducible exact ev_non | ((with_reducible apply ev_var); exact sl_mk rfl (by walk_at "DP")) | ((with_reducible apply ev_op); walk_at "EV"; walk_at "EV"; walk_at "RD") | ((with_reducible apply ev_neg); walk_at "EV") | ((with_reducible apply ev_tup); walk_at "AV"; (first | (with_reducible assumption) | decide)) | ((with_reducible apply ev_lst); walk_at "AV"; (first | (with_reducible assumption) | decide)) | ((with_reducible apply ev_call); walk_at "AV"; with_reducible assumption) | ((with_reducible apply ev_isi2); exact rfl; walk_at "EV"; walk_at "KIT") | ((with_reducible apply ev_cb); walk_at "AV"; walk_at "RC") | ((with_reducible apply ev_chain); walk_at "EV"; walk_at "EV"; walk_at "RD"; intro _; walk_at "EV"; intro _; walk_at "RD") | ((with_reducible apply ev_andV); walk_at "EV"; intro _; walk_at "EV") | ((with_reducible apply ev_orV); walk_at "EV"; intro _; walk_at "EV") | ((with_reducible apply ev_notV); walk_at "EV") | ((with_reducible apply ev_sl2); exact rfl; walk_at "EV"; walk_at "OV"; walk_at "OV"; walk_at "SLD") | ((with_reducible apply ev_rev2); exact rfl; walk_at "EV"))
local macro_rules | `(tactic| walk_at "SLD") => `(tactic| first | with_reducible exact SlD.l | with_reducible exact SlD.t | with_reducible exact SlD.s (by with_reducible assumption))
local macro_rules | `(tactic| walk_at "TV") => `(tactic| first | with_reducible assumption | ((with_reducible apply tv_and); walk_at "TV"; intro _; walk_at "TV") | ((with_reducible apply tv_or); walk_at "TV"; intro _; walk_at "TV") | ((with_reducible apply tv_not); walk_at "TV") | ((with_reducible apply tv_B); walk_at "EV") | ((with_reducible apply tv_T); walk_at "EV"))
local macro_rules | `(tactic| walk_at "NX") => `(tactic| ((try dsimp only); (try with_reducible apply s_next); (try dsimp only); (try with_reducible apply s_seq)))

/-- of a class of the program: whether refusals of the two classes are of it -/
structure Kd (K : PySem.W.Frag) (mg : Str → Option Value) (x : Str) (CP CM : Addr) (bp bm : Bool) : Prop where
  ex : ∃ c : Addr, mg x = some (.ref c) ∧ PySem.W.kitOne K (.ref CP) (.ref c) = some bp ∧ PySem.W.kitOne K (.ref CM) (.ref c) = some bm
def selC (CP CM : Addr) (sel : Bool) : Addr := if sel then CP else CM
theorem Kd.sel {K : PySem.W.Frag} {mg : Str → Option Value} {x : Str} {CP CM : Addr} {bp bm : Bool} (h : Kd K mg x CP CM bp bm) (sel : Bool) : ∃ c : Addr, mg x = some (.ref c) ∧ PySem.W.kitOne K (.ref (selC CP CM sel)) (.ref c) = some (if sel then bp else bm) := by
  obtain ⟨c, h1, h2, h3⟩ := h.ex
  refine ⟨c, h1, ?_⟩
  cases sel
  · exact h3
  · exact h2
structure KindTxt (K : PySem.W.Frag) (mg : Str → Option Value) (CP CM : Addr) : Prop where
  eP : ExcC K CP
  eM : ExcC K CM
  xP : XfC K CP
  xM : XfC K CM
  noP : PySem.W.findIn K (.ref CP) "number" = some none
  noM : PySem.W.findIn K (.ref CM) "number" = some none
  k_BadRow : Kd K mg "BadRow" CP CM false false
  k_BadTree : Kd K mg "BadTree" CP CM false false
  k_BadAway : Kd K mg "BadAway" CP CM false false
  k_BadCall : Kd K mg "BadCall" CP CM false false
  k_BadPrices : Kd K mg "BadPrices" CP CM true false
  k_BadMessage : Kd K mg "BadMessage" CP CM false true
  k_BadHeard : Kd K mg "BadHeard" CP CM false false
  k_BadPaper : Kd K mg "BadPaper" CP CM false false
  k_Twice : Kd K mg "Twice" CP CM false false
  k_OutOfPlace : Kd K mg "OutOfPlace" CP CM false false
  k_TooGreat : Kd K mg "TooGreat" CP CM false false
  k_NoName : Kd K mg "NoName" CP CM false false
  k_NoHappening : Kd K mg "NoHappening" CP CM false false
  k_NoMark : Kd K mg "NoMark" CP CM false false
  k_Busy : Kd K mg "Busy" CP CM false false
  k_TooLate : Kd K mg "TooLate" CP CM false false
  k_RingError : Kd K mg "RingError" CP CM true true
  vP : PySem.W.kitOne K (.ref CP) (.type "ValueError") = some true
  vM : PySem.W.kitOne K (.ref CM) (.type "ValueError") = some true
  k_MissError : Kd K mg "MissError" CP CM false false
  lP : PySem.W.kitOne K (.ref CP) (.type "LookupError") = some false
  lM : PySem.W.kitOne K (.ref CM) (.type "LookupError") = some false
  k_PhoneError : Kd K mg "PhoneError" CP CM false false
  rP : PySem.W.kitOne K (.ref CP) (.type "RuntimeError") = some false
  rM : PySem.W.kitOne K (.ref CM) (.type "RuntimeError") = some false
section
variable {K : PySem.W.Frag} {s : L2.St} {H : Hp} {t1 t2 : TE} {d : D}
theorem es_two {n1 n2 : Str} {b1 b2 : Bool} (h1 : Es K t1 s H (.bool b1)) (h2 : Es K t2 s H (.bool b2)) :
    Es K (tLst (tCons (tTup (tCons (tC (.str n1)) (tCons t1 tNil))) (tCons (tTup (tCons (tC (.str n2)) (tCons t2 tNil))) tNil))) s H (.list [.tuple [.str n1, .bool b1], .tuple [.str n2, .bool b2]]) :=
  es_lst (as_cons (es_tup (as_cons (es_ev ev_str) (as_cons h1 as_nil)) (by show 2 ≤ 100000; decide)) (as_cons (es_tup (as_cons (es_ev ev_str) (as_cons h2 as_nil)) (by show 2 ≤ 100000; decide)) as_nil)) (by show 2 ≤ 100000; decide)
end
def kitP (p : Str × Bool) : D := .tuple [.str p.1, .bool p.2]
def fitsD : D → Bool
  | .tuple [_, .bool b] => b | _ => false
def nameOf : D → D
  | .tuple [n, _] => n | _ => .none
section
variable {P : Program} {w : World} {K : PySem.W.Frag} {mg : Str → Option Value} {base : Heap}
abbrev s_L_kinds : Stmt := topS 51
abbrev N_L_kinds : List Str := ["_law_error", "_law_kinds_here", "_law_name", "_law_fits"]
theorem sc_L_kinds : FnScope N_L_kinds ["_law_error"] (defScope s_L_kinds) := ⟨rfl, rfl, rfl, by decide +kernel, rfl, by decide +kernel, by decide +kernel⟩
def selN (sel : Bool) : D := .str (if sel then "prices" else "message")
def spKinds (K : PySem.W.Frag) (CP CM : Addr) : Sp := fun vs H Q _ => ∃ (a d : Addr) (fs : List (Str × V)) (sel : Bool), vs = [.ref a] ∧ H a = some (ExA (.ref (selC CP CM sel)) (some d) a) ∧ H d = some (.xd fs) ∧
  ∀ u H', Same H H' → Dp K H' u (.list [selN sel, .str "ours", .str "value"]) → Q u H'
theorem c_L_kinds (T : Txt w K mg) (d : DefAt K mg "_law_kinds" s_L_kinds) {CP CM : Addr} (TK : KindTxt K mg CP CM) : KCal P w K mg base CX0 1 "_law_kinds" ["_law_error"] (spKinds K CP CM) := by
  refine d.cal (fun _ _ _ _ _ _ us hl => match us, hl with | [_], _ => rfl) fun f fd F => F.ok sc_L_kinds (fun vs H Q E h => by obtain ⟨_, _, _, _, rfl, _⟩ := h; rfl) (fun cdv A outer s H vs Q E hr h => ?_)
  obtain ⟨a, dd, fs, sel, rfl, ha, hd, k⟩ := h
  obtain ⟨c_BadRow, g_BadRow, f_BadRow⟩ := TK.k_BadRow.sel sel
  obtain ⟨c_BadTree, g_BadTree, f_BadTree⟩ := TK.k_BadTree.sel sel
  obtain ⟨c_BadAway, g_BadAway, f_BadAway⟩ := TK.k_BadAway.sel sel
  obtain ⟨c_BadCall, g_BadCall, f_BadCall⟩ := TK.k_BadCall.sel sel
  obtain ⟨c_BadPrices, g_BadPrices, f_BadPrices⟩ := TK.k_BadPrices.sel sel
  obtain ⟨c_BadMessage, g_BadMessage, f_BadMessage⟩ := TK.k_BadMessage.sel sel
  obtain ⟨c_BadHeard, g_BadHeard, f_BadHeard⟩ := TK.k_BadHeard.sel sel
  obtain ⟨c_BadPaper, g_BadPaper, f_BadPaper⟩ := TK.k_BadPaper.sel sel
  obtain ⟨c_Twice, g_Twice, f_Twice⟩ := TK.k_Twice.sel sel
  obtain ⟨c_OutOfPlace, g_OutOfPlace, f_OutOfPlace⟩ := TK.k_OutOfPlace.sel sel
  obtain ⟨c_TooGreat, g_TooGreat, f_TooGreat⟩ := TK.k_TooGreat.sel sel
  obtain ⟨c_NoName, g_NoName, f_NoName⟩ := TK.k_NoName.sel sel
  obtain ⟨c_NoHappening, g_NoHappening, f_NoHappening⟩ := TK.k_NoHappening.sel sel
  obtain ⟨c_NoMark, g_NoMark, f_NoMark⟩ := TK.k_NoMark.sel sel
  obtain ⟨c_Busy, g_Busy, f_Busy⟩ := TK.k_Busy.sel sel
  obtain ⟨c_TooLate, g_TooLate, f_TooLate⟩ := TK.k_TooLate.sel sel
  obtain ⟨c_RingError, g_RingError, f_RingError⟩ := TK.k_RingError.sel sel
  have f_V : PySem.W.kitOne K (.ref (selC CP CM sel)) (.type "ValueError") = some (if sel then true else true) := by
    cases sel
    · exact TK.vM
    · exact TK.vP
  obtain ⟨c_MissError, g_MissError, f_MissError⟩ := TK.k_MissError.sel sel
  have f_L : PySem.W.kitOne K (.ref (selC CP CM sel)) (.type "LookupError") = some (if sel then false else false) := by
    cases sel
    · exact TK.lM
    · exact TK.lP
  obtain ⟨c_PhoneError, g_PhoneError, f_PhoneError⟩ := TK.k_PhoneError.sel sel
  have f_R : PySem.W.kitOne K (.ref (selC CP CM sel)) (.type "RuntimeError") = some (if sel then false else false) := by
    cases sel
    · exact TK.rM
    · exact TK.rP
  have eC : ExcC K (selC CP CM sel) := by
    cases sel
    · exact TK.eM
    · exact TK.eP
  refine ⟨_, (pss_cons (ps_set (i := 1) sc_L_kinds.nd rfl (Or.inl rfl) (pe_lst (pa_cons (pe_tup (pa_cons pe_str (pa_cons (pe_callB call_isX (by rfl) T.n_isinstance (by decide +kernel) (pa_cons (pv 0) (pa_cons (pgl (v := .ref c_BadRow) rfl ⟨_, g_BadRow, rfl⟩) pa_nil))) pa_nil))) (pa_cons (pe_tup (pa_cons pe_str (pa_cons (pe_callB call_isX (by rfl) T.n_isinstance (by decide +kernel) (pa_cons (pv 0) (pa_cons (pgl (v := .ref c_BadTree) rfl ⟨_, g_BadTree, rfl⟩) pa_nil))) pa_nil))) pa_nil))))
  (pss_cons (ps_set (i := 1) sc_L_kinds.nd rfl (Or.inl rfl) (pe_op opAddU (pv 1) (pe_lst (pa_cons (pe_tup (pa_cons pe_str (pa_cons (pe_callB call_isX (by rfl) T.n_isinstance (by decide +kernel) (pa_cons (pv 0) (pa_cons (pgl (v := .ref c_BadAway) rfl ⟨_, g_BadAway, rfl⟩) pa_nil))) pa_nil))) (pa_cons (pe_tup (pa_cons pe_str (pa_cons (pe_callB call_isX (by rfl) T.n_isinstance (by decide +kernel) (pa_cons (pv 0) (pa_cons (pgl (v := .ref c_BadCall) rfl ⟨_, g_BadCall, rfl⟩) pa_nil))) pa_nil))) pa_nil)))))
  (pss_cons (ps_set (i := 1) sc_L_kinds.nd rfl (Or.inl rfl) (pe_op opAddU (pv 1) (pe_lst (pa_cons (pe_tup (pa_cons pe_str (pa_cons (pe_callB call_isX (by rfl) T.n_isinstance (by decide +kernel) (pa_cons (pv 0) (pa_cons (pgl (v := .ref c_BadPrices) rfl ⟨_, g_BadPrices, rfl⟩) pa_nil))) pa_nil))) (pa_cons (pe_tup (pa_cons pe_str (pa_cons (pe_callB call_isX (by rfl) T.n_isinstance (by decide +kernel) (pa_cons (pv 0) (pa_cons (pgl (v := .ref c_BadMessage) rfl ⟨_, g_BadMessage, rfl⟩) pa_nil))) pa_nil))) pa_nil)))))
  (pss_cons (ps_set (i := 1) sc_L_kinds.nd rfl (Or.inl rfl) (pe_op opAddU (pv 1) (pe_lst (pa_cons (pe_tup (pa_cons pe_str (pa_cons (pe_callB call_isX (by rfl) T.n_isinstance (by decide +kernel) (pa_cons (pv 0) (pa_cons (pgl (v := .ref c_BadHeard) rfl ⟨_, g_BadHeard, rfl⟩) pa_nil))) pa_nil))) (pa_cons (pe_tup (pa_cons pe_str (pa_cons (pe_callB call_isX (by rfl) T.n_isinstance (by decide +kernel) (pa_cons (pv 0) (pa_cons (pgl (v := .ref c_BadPaper) rfl ⟨_, g_BadPaper, rfl⟩) pa_nil))) pa_nil))) pa_nil)))))
  (pss_cons (ps_set (i := 1) sc_L_kinds.nd rfl (Or.inl rfl) (pe_op opAddU (pv 1) (pe_lst (pa_cons (pe_tup (pa_cons pe_str (pa_cons (pe_callB call_isX (by rfl) T.n_isinstance (by decide +kernel) (pa_cons (pv 0) (pa_cons (pgl (v := .ref c_Twice) rfl ⟨_, g_Twice, rfl⟩) pa_nil))) pa_nil))) (pa_cons (pe_tup (pa_cons pe_str (pa_cons (pe_callB call_isX (by rfl) T.n_isinstance (by decide +kernel) (pa_cons (pv 0) (pa_cons (pgl (v := .ref c_OutOfPlace) rfl ⟨_, g_OutOfPlace, rfl⟩) pa_nil))) pa_nil))) pa_nil)))))
  (pss_cons (ps_set (i := 1) sc_L_kinds.nd rfl (Or.inl rfl) (pe_op opAddU (pv 1) (pe_lst (pa_cons (pe_tup (pa_cons pe_str (pa_cons (pe_callB call_isX (by rfl) T.n_isinstance (by decide +kernel) (pa_cons (pv 0) (pa_cons (pgl (v := .ref c_TooGreat) rfl ⟨_, g_TooGreat, rfl⟩) pa_nil))) pa_nil))) (pa_cons (pe_tup (pa_cons pe_str (pa_cons (pe_callB call_isX (by rfl) T.n_isinstance (by decide +kernel) (pa_cons (pv 0) (pa_cons (pgl (v := .ref c_NoName) rfl ⟨_, g_NoName, rfl⟩) pa_nil))) pa_nil))) pa_nil)))))
  (pss_cons (ps_set (i := 1) sc_L_kinds.nd rfl (Or.inl rfl) (pe_op opAddU (pv 1) (pe_lst (pa_cons (pe_tup (pa_cons pe_str (pa_cons (pe_callB call_isX (by rfl) T.n_isinstance (by decide +kernel) (pa_cons (pv 0) (pa_cons (pgl (v := .ref c_NoHappening) rfl ⟨_, g_NoHappening, rfl⟩) pa_nil))) pa_nil))) (pa_cons (pe_tup (pa_cons pe_str (pa_cons (pe_callB call_isX (by rfl) T.n_isinstance (by decide +kernel) (pa_cons (pv 0) (pa_cons (pgl (v := .ref c_NoMark) rfl ⟨_, g_NoMark, rfl⟩) pa_nil))) pa_nil))) pa_nil)))))
  (pss_cons (ps_set (i := 1) sc_L_kinds.nd rfl (Or.inl rfl) (pe_op opAddU (pv 1) (pe_lst (pa_cons (pe_tup (pa_cons pe_str (pa_cons (pe_callB call_isX (by rfl) T.n_isinstance (by decide +kernel) (pa_cons (pv 0) (pa_cons (pgl (v := .ref c_Busy) rfl ⟨_, g_Busy, rfl⟩) pa_nil))) pa_nil))) (pa_cons (pe_tup (pa_cons pe_str (pa_cons (pe_callB call_isX (by rfl) T.n_isinstance (by decide +kernel) (pa_cons (pv 0) (pa_cons (pgl (v := .ref c_TooLate) rfl ⟨_, g_TooLate, rfl⟩) pa_nil))) pa_nil))) pa_nil)))))
  (pss_cons (ps_set (i := 1) sc_L_kinds.nd rfl (Or.inl rfl) (pe_op opAddU (pv 1) (pe_lst (pa_cons (pe_tup (pa_cons pe_str (pa_cons (pe_callB call_isX (by rfl) T.n_isinstance (by decide +kernel) (pa_cons (pv 0) (pa_cons (pgl (v := .ref c_RingError) rfl ⟨_, g_RingError, rfl⟩) pa_nil))) pa_nil))) (pa_cons (pe_tup (pa_cons pe_str (pa_cons (pe_callB call_isX (by rfl) T.n_isinstance (by decide +kernel) (pa_cons (pv 0) (pa_cons (pe_bltn (v := .ty "ValueError") rfl T.n_ValueError (by decide +kernel) rfl) pa_nil))) pa_nil))) pa_nil)))))
  (pss_cons (ps_set (i := 1) sc_L_kinds.nd rfl (Or.inl rfl) (pe_op opAddU (pv 1) (pe_lst (pa_cons (pe_tup (pa_cons pe_str (pa_cons (pe_callB call_isX (by rfl) T.n_isinstance (by decide +kernel) (pa_cons (pv 0) (pa_cons (pgl (v := .ref c_MissError) rfl ⟨_, g_MissError, rfl⟩) pa_nil))) pa_nil))) (pa_cons (pe_tup (pa_cons pe_str (pa_cons (pe_callB call_isX (by rfl) T.n_isinstance (by decide +kernel) (pa_cons (pv 0) (pa_cons (pe_bltn (v := .ty "LookupError") rfl T.n_LookupError (by decide +kernel) rfl) pa_nil))) pa_nil))) pa_nil)))))
  (pss_cons (ps_set (i := 1) sc_L_kinds.nd rfl (Or.inl rfl) (pe_op opAddU (pv 1) (pe_lst (pa_cons (pe_tup (pa_cons pe_str (pa_cons (pe_callB call_isX (by rfl) T.n_isinstance (by decide +kernel) (pa_cons (pv 0) (pa_cons (pgl (v := .ref c_PhoneError) rfl ⟨_, g_PhoneError, rfl⟩) pa_nil))) pa_nil))) (pa_cons (pe_tup (pa_cons pe_str (pa_cons (pe_callB call_isX (by rfl) T.n_isinstance (by decide +kernel) (pa_cons (pv 0) (pa_cons (pe_bltn (v := .ty "RuntimeError") rfl T.n_RuntimeError (by decide +kernel) rfl) pa_nil))) pa_nil))) pa_nil)))))
  (pss_one (ps_ret (pe_lc (own := [("_law_name", 2), ("_law_fits", 3)]) rfl sc_L_kinds.nd (pi_any (pv 1)) (blkOk_by (N := N_L_kinds) (sc := defScope s_L_kinds) (by decide +kernel)) (fun _ _ _ _ _ => (show PG _ _ (gTup K 2 _) from pg_tup rfl (pgs_cons (pg_name (i := 2) sc_L_kinds.nd rfl (Or.inl rfl)) (pgs_cons (pg_name (i := 3) sc_L_kinds.nd rfl (Or.inl rfl)) pgs_nil)))) (fun _ _ _ _ _ => (pts_one (pt_val (pv 3)))) (fun _ _ _ _ _ => (pv 2)))))))))))))))), ?_⟩
  have isx : ∀ {s : L2.St} {Hc : Hp} {c : V} {cv : Value} {b : Bool}, s[0]? = some (some (.ref a)) → Same H Hc → (∀ u, RelV c u → u = cv) → PySem.W.kitOne K (.ref (selC CP CM sel)) cv = some b → Es K (tCB (rIsX K) (tCons (tVar 0) (tCons (tC c) tNil))) s Hc (.bool b) := fun h e hc hk => es_isX h (e _ _ ha) (e _ _ hd) eC hc hk
  have rf : ∀ {c : Addr} (u : Value), RelV (.ref c) u → u = .ref c := fun u h => h
  have ty : ∀ {n : String} (u : Value), RelV (.ty n) u → u = .type n := fun u h => h
  have e0 : Same H H := Same.refl H
  walk_at "NX"
  refine es_go (K := K) (es_two (isx rfl e0 rf f_BadRow) (isx rfl e0 rf f_BadTree)) fun v1 H1 j1 dv1 => ?_
  have e1 := e0.trans j1
  refine gname_go ?_
  walk_at "NX"
  refine es_go (K := K) (es_op (es_ev (ev_var ⟨_, rfl, dv1⟩)) (es_two (isx rfl e1 rf f_BadAway) (isx rfl e1 rf f_BadCall)) fun _ => rd_addL (Nat.le_of_ble_eq_true rfl)) fun v2 H2 j2 dv2 => ?_
  have e2 := e1.trans j2
  refine gname_go ?_
  walk_at "NX"
  refine es_go (K := K) (es_op (es_ev (ev_var ⟨_, rfl, dv2⟩)) (es_two (isx rfl e2 rf f_BadPrices) (isx rfl e2 rf f_BadMessage)) fun _ => rd_addL (Nat.le_of_ble_eq_true rfl)) fun v3 H3 j3 dv3 => ?_
  have e3 := e2.trans j3
  refine gname_go ?_
  walk_at "NX"
  refine es_go (K := K) (es_op (es_ev (ev_var ⟨_, rfl, dv3⟩)) (es_two (isx rfl e3 rf f_BadHeard) (isx rfl e3 rf f_BadPaper)) fun _ => rd_addL (Nat.le_of_ble_eq_true rfl)) fun v4 H4 j4 dv4 => ?_
  have e4 := e3.trans j4
  refine gname_go ?_
  walk_at "NX"
  refine es_go (K := K) (es_op (es_ev (ev_var ⟨_, rfl, dv4⟩)) (es_two (isx rfl e4 rf f_Twice) (isx rfl e4 rf f_OutOfPlace)) fun _ => rd_addL (Nat.le_of_ble_eq_true rfl)) fun v5 H5 j5 dv5 => ?_
  have e5 := e4.trans j5
  refine gname_go ?_
  walk_at "NX"
  refine es_go (K := K) (es_op (es_ev (ev_var ⟨_, rfl, dv5⟩)) (es_two (isx rfl e5 rf f_TooGreat) (isx rfl e5 rf f_NoName)) fun _ => rd_addL (Nat.le_of_ble_eq_true rfl)) fun v6 H6 j6 dv6 => ?_
  have e6 := e5.trans j6
  refine gname_go ?_
  walk_at "NX"
  refine es_go (K := K) (es_op (es_ev (ev_var ⟨_, rfl, dv6⟩)) (es_two (isx rfl e6 rf f_NoHappening) (isx rfl e6 rf f_NoMark)) fun _ => rd_addL (Nat.le_of_ble_eq_true rfl)) fun v7 H7 j7 dv7 => ?_
  have e7 := e6.trans j7
  refine gname_go ?_
  walk_at "NX"
  refine es_go (K := K) (es_op (es_ev (ev_var ⟨_, rfl, dv7⟩)) (es_two (isx rfl e7 rf f_Busy) (isx rfl e7 rf f_TooLate)) fun _ => rd_addL (Nat.le_of_ble_eq_true rfl)) fun v8 H8 j8 dv8 => ?_
  have e8 := e7.trans j8
  refine gname_go ?_
  walk_at "NX"
  refine es_go (K := K) (es_op (es_ev (ev_var ⟨_, rfl, dv8⟩)) (es_two (isx rfl e8 rf f_RingError) (isx rfl e8 ty f_V)) fun _ => rd_addL (Nat.le_of_ble_eq_true rfl)) fun v9 H9 j9 dv9 => ?_
  have e9 := e8.trans j9
  refine gname_go ?_
  walk_at "NX"
  refine es_go (K := K) (es_op (es_ev (ev_var ⟨_, rfl, dv9⟩)) (es_two (isx rfl e9 rf f_MissError) (isx rfl e9 ty f_L)) fun _ => rd_addL (Nat.le_of_ble_eq_true rfl)) fun v10 H10 j10 dv10 => ?_
  have e10 := e9.trans j10
  refine gname_go ?_
  walk_at "NX"
  refine es_go (K := K) (es_op (es_ev (ev_var ⟨_, rfl, dv10⟩)) (es_two (isx rfl e10 rf f_PhoneError) (isx rfl e10 ty f_R)) fun _ => rd_addL (Nat.le_of_ble_eq_true rfl)) fun v11 H11 j11 dv11 => ?_
  have e11 := e10.trans j11
  refine gname_go ?_
  walk_at "NX"
  obtain ⟨M, hM⟩ : ∃ M : List (Str × Bool), M = [(("row" : Str), if sel then false else false), (("tree" : Str), if sel then false else false), (("away" : Str), if sel then false else false), (("call" : Str), if sel then false else false), (("prices" : Str), if sel then true else false), (("message" : Str), if sel then false else true), (("heard" : Str), if sel then false else false), (("paper" : Str), if sel then false else false), (("twice" : Str), if sel then false else false), (("place" : Str), if sel then false else false), (("great" : Str), if sel then false else false), (("name" : Str), if sel then false else false), (("happening" : Str), if sel then false else false), (("mark" : Str), if sel then false else false), (("busy" : Str), if sel then false else false), (("late" : Str), if sel then false else false), (("ours" : Str), if sel then true else true), (("value" : Str), if sel then true else true), (("miss" : Str), if sel then false else false), (("lookup" : Str), if sel then false else false), (("phone" : Str), if sel then false else false), (("runtime" : Str), if sel then false else false)] := ⟨_, rfl⟩
  replace dv11 : Dp K H11 v11 (.list (M.map kitP)) := by rw [hM]; exact dv11
  have lM : M.length = 22 := by rw [hM]; rfl
  have eM : ((M.map kitP).filter fitsD).map nameOf = [selN sel, .str "ours", .str "value"] := by
    rw [hM]
    cases sel <;> rfl
  refine s_ret (K := K) (ev_is (ev_lc (ds := M.map kitP) (p := fitsD) (f := nameOf) (yd_any (ev_var ⟨_, rfl, dv11⟩) rfl) (fun e he v' H4 k4 dv' R q => ?_) (by rw [List.length_map, lM]; decide)) (congrArg PyData.list eM)) fun u H5 e5 du => k u H5 (e11.trans e5) du
  obtain ⟨p, _, rfl⟩ := List.mem_map.mp he
  exact g_pair (K := K) dv' fun x1 x2 d1 d2 => q _ (wipe2 (by decide)) (tv_B (ev_var ⟨_, rfl, d2⟩)) fun _ => ⟨ev_var ⟨_, rfl, d1⟩, rfl⟩

theorem told_ret {De : Ends} {s : L2.St} {H : Hp} {a d : Addr} {sel : Bool} {v : V} {nd : D} {CP CM : Addr} (TK : KindTxt K mg CP CM) (h0 : s[4]? = some (some (.ref a))) (ha : H a = some (ExA (.ref (selC CP CM sel)) (some d) a)) (hd : H d = some (.xd [("number", v)])) (dv : Dp K H v nd)
    (q : ∀ u H', Same H H' → Dp K H' u (.list [.list [selN sel, .str "ours", .str "value"], nd]) → De.rt u H') :
    tRet (tIf (tTest (tOp (fun x y H Q => y = .non ∧ Q (.bl (decide (x = .non))) H) (tVar 4) (tC .non))) (tC .non) (tLst (tCons (tCall (spKinds K CP CM) [] E0 (tCons (tVar 4) tNil)) (tCons (tXg K "number" (tVar 4)) tNil)))) De s H := by
  refine ret_te ?_
  refine ⟨.ref a, h0, rfl, decide (V.ref a = V.non), rfl, ?_⟩
  dsimp only
  rw [if_neg (by simp)]
  refine ⟨.ref a, h0, a, d, _, sel, rfl, ha, hd, fun u H' e' du => ⟨.ref a, h0, a, selC CP CM sel, d, _, v, rfl, e' _ _ ha, e' _ _ hd, ?_, ?_, ?_, by show 2 ≤ sizeLine; decide, fun p hp => q _ _ (e'.trans (Same.new hp)) (.lst (SqL.of upd_same) (.cons (dp_same (Same.new hp) du) (.cons (dp_same (e'.trans (Same.new hp)) dv) .nil)))⟩⟩
  · cases sel
    · exact TK.xM
    · exact TK.xP
  · cases sel
    · exact TK.noM
    · exact TK.noP
  · simp [List.lookup]
abbrev s_L_told : Stmt := topS 63
abbrev N_L_told : List Str := ["_law_prices", "_law_one", "_law_other_here", "_law_is_checked", "_law_wrong", "e"]
theorem sc_L_told : FnScope N_L_told ["_law_prices", "_law_one", "_law_other_here", "_law_is_checked"] (defScope s_L_told) := ⟨rfl, rfl, rfl, by decide +kernel, rfl, by decide +kernel, by decide +kernel⟩
def spTold (K : PySem.W.Frag) : Sp := fun vs H Q _ => ∃ (x y z : V) (b : Bool) (ps one other : List D), vs = [x, y, z, .bl b] ∧ Dp K H x (.tuple ps) ∧ Dp K H y (.tuple one) ∧ Dp K H z (.tuple other) ∧ A8.ok ⟨ps, one, other⟩ ∧
  ∀ u H', Same H H' → Dp K H' u (dueD (pairBad ps one other)) → Q u H'
theorem c_L_told (T : Txt w K mg) (d : DefAt K mg "_law_told" s_L_told) {CP CM : Addr} (TK : KindTxt K mg CP CM) (g_BadPrices : mg "BadPrices" = some (.ref CP)) (g_BadMessage : mg "BadMessage" = some (.ref CM))
    (xPP : PySem.W.exmOne K (.ref CP) (.ref CP) = some true) (xMP : PySem.W.exmOne K (.ref CM) (.ref CP) = some false) (xMM : PySem.W.exmOne K (.ref CM) (.ref CM) = some true)
    (G_L_kinds : KCal P w K mg base CX0 1 "_law_kinds" ["_law_error"] (spKinds K CP CM)) (G_change_paper : KCal P w K mg base (L2.CX P w) 5 "change_paper" ["prices", "one", "other"] (spChange K CP CM)) (G_check_change : KCal P w K mg base (L2.CX P w) 5 "check_change" ["prices", "one", "other", "paper"] (spCheck K CP CM)) :
    KCal P w K mg base CX0 6 "_law_told" ["_law_prices", "_law_one", "_law_other_here", "_law_is_checked"] (spTold K) := by
  refine d.cal (fun _ _ _ _ _ _ us hl => match us, hl with | [_, _, _, _], _ => rfl) fun f fd F => F.ok sc_L_told (fun vs H Q E h => by obtain ⟨_, _, _, _, _, _, _, rfl, _⟩ := h; rfl) (fun cdv A outer s H vs Q E hr h => ?_)
  have hu := hr.units
  refine ⟨_, (pss_cons (ps_set (i := 4) sc_L_told.nd rfl (Or.inl rfl) pe_non)
  (pss_cons (ps_try_keep (i := 5) (tb := fun W => tIfS (tB (tVar 3)) (tDrop (tCallS (spCheck K CP CM) (WE W) (tCons (tVar 0) (tCons (tVar 1) (tCons (tVar 2) (tCons (tC .non) tNil)))))) (tDrop (tCallS (spChange K CP CM) (WE W) (tCons (tVar 0) (tCons (tVar 1) (tCons (tVar 2) tNil))))))
  rfl rfl rfl sc_L_told.nd rfl rfl takes_none5 (fun W pn xe tk _ => by exact (pss_one (ps_if (pt_val (pv 3)) (pss_one (ps_expr (pcS G_check_change hr (by decide) (by rfl) tk (pa_cons (pv 0) (pa_cons (pv 1) (pa_cons (pv 2) (pa_cons pe_non pa_nil))))))) (pss_one (ps_expr (pcS G_change_paper hr (by decide) (by rfl) tk (pa_cons (pv 0) (pa_cons (pv 1) (pa_cons (pv 2) pa_nil)))))))))
  (.cons (c := .ref CP) (ts := fun _ _ _ => tAsg (tVar 5) (gName 4)) ⟨rfl, by decide, .inl g_BadPrices⟩ (fun a oe cls d pn _ _ => by exact (pss_one (ps_set (i := 4) sc_L_told.nd rfl (Or.inl rfl) (pv 5))))
  (.cons (c := .ref CM) (ts := fun _ _ _ => tAsg (tVar 5) (gName 4)) ⟨rfl, by decide, .inl g_BadMessage⟩ (fun a oe cls d pn _ _ => by exact (pss_one (ps_set (i := 4) sc_L_told.nd rfl (Or.inl rfl) (pv 5)))) .nil)))
  (pss_one (ps_ret (pe_ifExp (pt_cmpR op_isN (pv 4) pe_non (nomark _)) pe_non (pe_lst (pa_cons (pc0 G_L_kinds hr (by decide) (by rfl) (pa_cons (pv 4) pa_nil)) (pa_cons (pe_exn (pv 4)) pa_nil)))))))), ?_⟩
  obtain ⟨x, y, z, b, ps, one, other, rfl, hx, hy, hz, ok, k⟩ := h
  walk_at "NX"
  refine s_asg (K := K) ev_non fun v4 H1 e1 dv4 => ?_
  obtain rfl := dp_none dv4
  walk_at "NX"
  have okT0 : okT PyData.none := ⟨rfl, fun s r h => (by cases h), fun s r h => (by cases h)⟩
  refine s_if (K := K) (b := b) (tv_B (ev_var ⟨_, rfl, .bl b⟩)) (fun hb H2 e2 => ?_) fun hb H2 e2 => ?_
  · have e12 := e1.trans e2
    have av : Av K (tCons (tVar 0) (tCons (tVar 1) (tCons (tVar 2) (tCons (tC .non) tNil)))) ((L2.start N_L_told [x, y, z, .bl b]).set 4 (some .non)) H2 [.tuple ps, .tuple one, .tuple other, .none] := av_cons (ev_var ⟨_, rfl, dp_same e12 hx⟩) (av_cons (ev_var ⟨_, rfl, dp_same e12 hy⟩) (av_cons (ev_var ⟨_, rfl, dp_same e12 hz⟩) (av_cons ev_non av_nil)))
    show tCons (tVar 0) (tCons (tVar 1) (tCons (tVar 2) (tCons (tC .non) tNil))) _ H2 (fun vs H1 => spCheck K CP CM vs H1 _ _)
    refine av H2 (Pr.refl _) _ fun vs H3 e3 dvs => ⟨⟨ps, one, other, .none⟩, dvs, ⟨ok.1, ok.2.1, ok.2.2, okT0⟩, ?_⟩
    have e13 := e12.trans e3
    try dsimp only
    cases hp : pairBad ps one other with
    | none =>
      rw [hp] at k
      refine fun u H' e' _ => ?_
      walk_at "NX"
      refine s_ret (K := K) (ev_if (b := true) (tv_T (ev_op (ev_var ⟨_, rfl, .non⟩) ev_non rd_isN)) (fun _ => ev_non) fun h => nomatch h) fun u H4 e4 du => k u H4 (e13.trans (e'.trans e4)) du
    | prices nd =>
      rw [hp] at k
      refine fun d v H' e' hd0 hd dv => ⟨true, xPP, fun _ a ha => ⟨.ref a, rfl, ?_⟩, fun h => nomatch h⟩
      refine gname_go fun na => ?_
      have en : Same H' (upd H' a (ExA (.ref CP) (some d) a)) := Same.new na
      walk_at "NX"
      exact told_ret (sel := true) TK rfl upd_same (en _ _ hd) (dp_same en dv) fun u H4 e4 du => k u H4 (e13.trans (e'.trans (en.trans e4))) du
    | message nd =>
      rw [hp] at k
      refine fun d v H' e' hd0 hd dv => ⟨false, xMP, fun h => (nomatch h), fun _ => ⟨true, xMM, fun _ a ha => ⟨.ref a, rfl, ?_⟩, fun h => nomatch h⟩⟩
      refine gname_go fun na => ?_
      have en : Same H' (upd H' a (ExA (.ref CM) (some d) a)) := Same.new na
      walk_at "NX"
      exact told_ret (sel := false) TK rfl upd_same (en _ _ hd) (dp_same en dv) fun u H4 e4 du => k u H4 (e13.trans (e'.trans (en.trans e4))) du
  · have e12 := e1.trans e2
    have av : Av K (tCons (tVar 0) (tCons (tVar 1) (tCons (tVar 2) tNil))) ((L2.start N_L_told [x, y, z, .bl b]).set 4 (some .non)) H2 [.tuple ps, .tuple one, .tuple other] := av_cons (ev_var ⟨_, rfl, dp_same e12 hx⟩) (av_cons (ev_var ⟨_, rfl, dp_same e12 hy⟩) (av_cons (ev_var ⟨_, rfl, dp_same e12 hz⟩) av_nil))
    show tCons (tVar 0) (tCons (tVar 1) (tCons (tVar 2) tNil)) _ H2 (fun vs H1 => spChange K CP CM vs H1 _ _)
    refine av H2 (Pr.refl _) _ fun vs H3 e3 dvs => ⟨⟨ps, one, other⟩, dvs, ok, ?_⟩
    have e13 := e12.trans e3
    try dsimp only
    cases hp : pairBad ps one other with
    | none =>
      rw [hp] at k
      refine fun u H' e' _ => ?_
      walk_at "NX"
      refine s_ret (K := K) (ev_if (b := true) (tv_T (ev_op (ev_var ⟨_, rfl, .non⟩) ev_non rd_isN)) (fun _ => ev_non) fun h => nomatch h) fun u H4 e4 du => k u H4 (e13.trans (e'.trans e4)) du
    | prices nd =>
      rw [hp] at k
      refine fun d v H' e' hd0 hd dv => ⟨true, xPP, fun _ a ha => ⟨.ref a, rfl, ?_⟩, fun h => nomatch h⟩
      refine gname_go fun na => ?_
      have en : Same H' (upd H' a (ExA (.ref CP) (some d) a)) := Same.new na
      walk_at "NX"
      exact told_ret (sel := true) TK rfl upd_same (en _ _ hd) (dp_same en dv) fun u H4 e4 du => k u H4 (e13.trans (e'.trans (en.trans e4))) du
    | message nd =>
      rw [hp] at k
      refine fun d v H' e' hd0 hd dv => ⟨false, xMP, fun h => (nomatch h), fun _ => ⟨true, xMM, fun _ a ha => ⟨.ref a, rfl, ?_⟩, fun h => nomatch h⟩⟩
      refine gname_go fun na => ?_
      have en : Same H' (upd H' a (ExA (.ref CM) (some d) a)) := Same.new na
      walk_at "NX"
      exact told_ret (sel := false) TK rfl upd_same (en _ _ hd) (dp_same en dv) fun u H4 e4 du => k u H4 (e13.trans (e'.trans (en.trans e4))) du
end
end K5
set_option Elab.async false
set_option linter.all false
set_option maxRecDepth 100000
set_option maxHeartbeats 4000000
/-! repr of data, for defs that are called where no repr is under way. -/
namespace K5
open PySem L2 PySem.Spec PyProof.Rows
/-- a def's promise where no guard is held -/
structure FnG (P : Program) (w : World) (K : PySem.W.Frag) (mg : Str → Option Value) (base : Heap) (CX : CXT) (k : Nat) (f : Addr) (fd : FuncData) (ps : List Str) (sp : Sp) : Prop where
  len : ∀ vs H Q E, sp vs H Q E → vs.length = ps.length
  run : ∀ (A : Around) (outer : List Env) (s : Shared) (H : Hp) (args : Args) (us : List Value) (vs : List V) (Q : VK) (E : XK), Room k A → A.guards = some [] → Env0 P w K mg base A outer s H → BindsTo s fd args (ps.zip us) → Vals vs us → sp vs H Q E →
    codeAny (model P w) A (.call (.ref f) args) (CR CX outer P w H s Q E) s
section
variable {P : Program} {w : World} {K : PySem.W.Frag} {mg : Str → Option Value} {base : Heap}
theorem fng_of {CX : CXT} {k : Nat} {f : Addr} {name qual : Str} {params : Arguments} {body : List Stmt} {scope : Scope} {dV kV doc pm cdv ct oc : Value} {an od : Option Addr}
    {osl : Array (Option Value)} {N ps : List Str} {sp : Sp} (lk : K.lookup f = some ⟨oc, od, .func (PySem.W.fnOf name qual params body scope dV kV doc pm an cdv ct), osl⟩) (hcd : PySem.W.codeIn K cdv qual = true) (S : FnScope N ps scope)
    (len : ∀ vs H Q E, sp vs H Q E → vs.length = ps.length)
    (hbody : ∀ (A : Around) (outer : List Env) (s : Shared) (H : Hp) (vs : List V) (Q : VK) (E : XK), Room k (A.deeper (envOfC qual scope s.heap.objs.size f cdv)) → (A.deeper (envOfC qual scope s.heap.objs.size f cdv)).guards = some [] → sp vs H Q E →
      ∃ t, PSs (cxOf CX P w K mg base N qual scope f cdv A outer s H E) body t ∧ t { nx := fun _ H' => Q .non H', rt := Q } (start N vs) H) :
    FnG P w K mg base CX (k + 1) f (PySem.W.fnOf name qual params body scope dV kV doc pm an cdv ct) ps sp := by
  refine ⟨len, fun A outer s H args us vs Q E hr hG e0 hb r hsp => ?_⟩
  have hl := len _ _ _ _ hsp
  have KX : K.In s.heap := e0.mod.kin.keeps fun b o e => (e0.bs b o e).1
  have lim : s.heap.NoLimit := e0.mod.nolimit.keeps fun b o e => (e0.bs b o e).1
  have hkind : ∀ y ∈ ps.zip us, scope.names.lookup y.1 = some .local ∨ (scope.names.lookup y.1 = some .cell ∧ ((cellsFrom (s.heap.objs.size + 1) scope.names []).lookup y.1).isSome = true) := fun ⟨n, v⟩ hy => by
    rcases S.par n (List.of_mem_zip hy).1 with q | q
    · exact .inl q
    · exact .inr ⟨q, PySem.W.cellsFrom_some _ _ _ (.inl q)⟩
  refine codeAny_call_function hr.depth (KX _ _ lk) rfl S.co S.gen rfl (PySem.W.codeRec_of KX hcd) (hb _ _ _ _ ?_)
  refine wpAny_newFunctionEnv_cells S.kind hkind fun env he s1 x => ?_
  subst he
  refine ⟨lim.keeps x.toInCall.keep, codeAny_func ?_⟩
  obtain ⟨t, ht, hq⟩ := hbody A outer s H vs Q E (hr.deeper _) hG hsp
  have I : Inv (cxOf CX P w K mg base N qual scope f cdv A outer s H E) [] (start N vs) H s1 := inv_start S hr.hd e0 hl r x
  refine wpAny_mono (ht.run [] s1 (start N vs) H _ I hq) (fun fl s' hs => ?_) fun e s' hs => hs
  have fin : ∀ {σ' : L2.St} {H' : Hp} {v : V} {u : Value}, Inv (cxOf CX P w K mg base N qual scope f cdv A outer s H E) [] σ' H' s' → RelV v u → Q v H' → CE outer P w H s Q u s' :=
    fun {σ' H' v u} J rv q => ⟨v, H', J.os, J.bare, J.base, J.hok, rv, q⟩
  cases fl with
  | ret u =>
    obtain ⟨v, σ', H', J, rv, q⟩ := hs
    exact fin J rv q
  | next =>
    obtain ⟨σ', H', J, q⟩ := hs
    exact fin (v := V.non) (u := Value.none) J rfl q
  | brk =>
    obtain ⟨_, _, _, q⟩ := hs
    exact False.elim q
  | cont =>
    obtain ⟨_, _, _, q⟩ := hs
    exact False.elim q
theorem okG {x qual : Str} {st : Stmt} {f : Addr} {fd : FuncData} {N ps : List Str} {k : Nat} {sp : Sp} (F : Fun K x qual st f fd) (S : FnScope N ps (defScope st)) (len : ∀ vs H Q E, sp vs H Q E → vs.length = ps.length)
    (hbody : ∀ (cdv : Value) (A : Around) (outer : List Env) (s : Shared) (H : Hp) (vs : List V) (Q : VK) (E : XK), Room k (A.deeper (envOfC qual (defScope st) s.heap.objs.size f cdv)) → (A.deeper (envOfC qual (defScope st) s.heap.objs.size f cdv)).guards = some [] → sp vs H Q E →
      ∃ t, PSs (cxOf CX0 P w K mg base N qual (defScope st) f cdv A outer s H E).nox (defBody st) t ∧ t { nx := fun _ H' => Q .non H', rt := Q } (start N vs) H) : FnG P w K mg base CX0 (k + 1) f fd ps sp := by
  obtain ⟨oc, od, kV, doc, pm, an, cdv, ct, osl, rfl, lk, hcd⟩ := F.ex
  refine fng_of lk hcd S len fun A outer s H vs Q E hr hG hsp => ?_
  obtain ⟨t, h, q⟩ := hbody cdv A outer s H vs Q E hr hG hsp
  exact ⟨t, h.nox, q⟩
/-- the def called x keeps sp where no guard is held -/
structure KCalG (P : Program) (w : World) (K : PySem.W.Frag) (mg : Str → Option Value) (base : Heap) (CX : CXT) (k : Nat) (x : Str) (ps : List Str) (sp : Sp) : Prop where
  ex : ∃ (f : Addr) (fd : FuncData), mg x = some (.ref f) ∧ PySem.W.keepIn K (.ref f) = true ∧ Binds K fd ps [] ∧ FnG P w K mg base CX k f fd ps sp
theorem calG {CX : CXT} {x : Str} {k : Nat} {st : Stmt} {ps : List Str} {sp : Sp} (d : DefAt K mg x st)
    (hb : ∀ (kV doc pm : Value) (an : Option Addr) (cdv ct : Value) (us : List Value), us.length = ps.length → bindArgs (PySem.W.fnOf x x (defArgs st) (defBody st) (defScope st) .none kV doc pm an cdv ct) ⟨us, []⟩ = pure (ps.zip us))
    (ok : ∀ f fd, Fun K x x st f fd → FnG P w K mg base CX k f fd ps sp) : KCalG P w K mg base CX k x ps sp := by
  obtain ⟨f, fd, h1, F⟩ := d.ex
  exact ⟨f, fd, h1, F.kp, F.binds hb, ok f fd F⟩
end
section
variable {X : Cx} {x : Str} {p pos : Pos} {e : Expr} {es : List Expr} {t : TA}
theorem pcG {k j : Nat} {ps : List Str} {sp : Sp} (G : KCalG X.prog X.w X.K X.mg X.base CX0 k x ps sp) (hG : X.A.guards = some []) (hr : Room j X.A) (hk : k ≤ j) (hg : Gl X x) (ha : PA X (e :: es) t)
    (hdb : (x == ("__debug__" : Str)) = false := by decide) (he : starEach (e :: es) X.env = (false, eval e X.env) :: starEach es X.env := by rfl) (hpl : (backTo pos (starEach es X.env)).any (·.1) = false := by rfl) :
    PE X (.Call (.Name x p) (e :: es) [] pos) (tCall sp [] E0 t) := by
  obtain ⟨f, fd, hm, hkp, hb, F⟩ := G.ex
  refine ⟨fun pins s σ H Q I h => ?_⟩
  refine wpAny_Call_Name_kw (ld_glob I hg hm ?_ hdb)
  refine PySem.W.callWith_K (h₀ := X.base) I.ok.mod.kin hkp (thn (ha.run pos pins s σ H _ I h) fun us s1 ⟨vs, H1, I1, r, q⟩ => ⟨I1.kIn, ?_⟩) he hpl
  have q : sp (vs ++ []) H1 Q E0 := q
  rw [List.append_nil] at q
  have hl : us.length = ps.length := by rw [← r.length]; exact F.len _ _ _ _ q
  refine wpAny_call (codeAny_mono (F.run X.A X.stack s1 H1 ⟨us, []⟩ us vs Q E0 (hr.mono hk) hG I1.env0 (by have := hb s1 us I1.kIn (by rw [List.append_nil]; exact hl); rw [List.append_nil] at this; exact this) r q) fun r' s' hq => ?_)
  cases r' with
  | error e => exact pass0 pins σ H1 s1 e s' I1 hq
  | ok fl =>
    cases fl with
    | ret u => exact I1.after hq
    | next => exact False.elim hq
    | brk => exact False.elim hq
    | cont => exact False.elim hq
/-! repr -/
def headOk : D → Bool
  | .none => true | .bool _ => true | .list _ => true | _ => false
structure ReprOk (d : D) : Prop where
  h : headOk d = true
  s : d.showable = true
  n : d.hasDict = false
  z : d.depth ≤ 8
  l : d.shown.length ≤ sizeLine
def rReprD (K : PySem.W.Frag) : List V → Hp → VK → Prop := fun xs H Q => ∃ (x : V) (d : D), xs = [x] ∧ Dp K H x d ∧ ReprOk d ∧ Q (.str d.shown) H
theorem call_reprD (hG : X.A.guards = some []) (hu : X.A.units + 64 < cLine) : CallR X (.builtin "repr") (rReprD X.K) := by
  intro pins s σ H xs us Q I r h
  obtain ⟨x, d, rfl, dv, ok, q⟩ := h
  obtain ⟨u, rfl, ru⟩ := vals1 r
  cases d with
  | none =>
    have ev := dp_none dv
    subst ev
    cases (show u = Value.none from ru)
    refine PySem.P.repr_of_none ⟨.str "None", H, I.tok _, ⟨_, rfl⟩, ?_⟩
    simpa only [PyData.shown] using q
  | bool b =>
    have ev := dp_bool dv
    subst ev
    cases (show u = Value.bool b from ru)
    refine PySem.P.repr_of_bool ⟨.str (if b then "True" else "False"), H, I.tok _, ⟨_, rfl⟩, ?_⟩
    simpa only [PyData.shown] using q
  | list ds =>
    obtain ⟨a, ys, rfl, _, _⟩ := dp_lst dv
    cases (show u = Value.ref a from ru)
    obtain ⟨as, rd⟩ := Dp.reads I _ _ _ dv rfl
    exact repr_of_reads' rd ok.s (PyData.noDict_hsm ok.n) hG (by have := ok.z; omega) (fun _ _ e => e) (fun h' u tk hk => ⟨.str _, H, I.kept (t' := tk) hk, ⟨_, rfl⟩, q⟩) ok.l
  | int i => exact nomatch ok.h
  | str i => exact nomatch ok.h
  | tuple i => exact nomatch ok.h
  | dict i => exact nomatch ok.h
end
end K5
set_option Elab.async false
set_option linter.all false
set_option maxRecDepth 100000
set_option maxHeartbeats 4000000
/-! Plain: the paper of one's own is good, what is told can be shown. -/
namespace K5
open PySem L2 PySem.Spec PyProof.Rows
section
variable {p2 p3 p4 : Int} {one other : List Str}
theorem gdn_name {z : Str} (h : nameS z = true) : gdn 0 (.str z) = true := by
  unfold nameS at h
  rw [Bool.and_eq_true, Bool.and_eq_true, decide_eq_true_eq, decide_eq_true_eq] at h
  obtain ⟨⟨h1, h2⟩, h4⟩ := h
  show (z.cps.all (· < 0x110000) && decide (z.length ≤ 1000)) = true
  rw [Bool.and_eq_true, decide_eq_true_eq]
  refine ⟨?_, by omega⟩
  rw [← Array.all_toList]
  refine List.all_eq_true.mpr fun c hc => decide_eq_true ?_
  have := of_decide_eq_true (List.all_eq_true.mp h4 c hc)
  simp at this
  omega
theorem gdn_words {ws : List Str} (ok : okW ws) : ∀ d ∈ ws.map PyData.str, gdn 5 d = true := fun d hd => by
  obtain ⟨z, hz, rfl⟩ := List.mem_map.mp hd
  exact gdn_mono (gdn_name (ok.2 z hz)) (by decide)
def goodStep (s : Step) : Prop := noL (stepD s) = true ∧ gdn 3 (stepD s) = true
theorem gs_kept : goodStep .kept := ⟨rfl, by decide +kernel⟩
theorem gs_left : goodStep .left := ⟨rfl, by decide +kernel⟩
theorem g_put : gdn 0 (.str "put") = true := by decide +kernel
theorem g_other : gdn 0 (.str "other") = true := by decide +kernel
theorem gs_put {z : Str} (h : nameS z = true) : goodStep (.put z) := ⟨rfl, gdn_mono (n := 1) (List.all_eq_true.mpr fun x hx => by
  simp only [List.mem_cons, List.not_mem_nil, or_false] at hx
  rcases hx with rfl | rfl
  · exact g_put
  · exact gdn_name h) (by decide)⟩
theorem gs_other {z : Str} (h : nameS z = true) : goodStep (.other z) := ⟨rfl, gdn_mono (n := 1) (List.all_eq_true.mpr fun x hx => by
  simp only [List.mem_cons, List.not_mem_nil, or_false] at hx
  rcases hx with rfl | rfl
  · exact g_other
  · exact gdn_name h) (by decide)⟩
theorem back_good (hn : ∀ w ∈ other, nameS w = true) : ∀ (k i j : Nat), i + j = k → j ≤ other.length → ∀ s ∈ back p2 p3 p4 one other i j, goodStep s := by
  intro k
  induction k using Nat.strongRecOn with
  | ind k ih =>
    intro i j hk hj s hs
    have nm : ∀ j, j < other.length → nameS (wd other j) = true := fun j h => hn _ (List.mem_of_getElem? (wd_get h))
    cases i with
    | zero =>
      cases j with
      | zero => simp [back] at hs
      | succ j =>
        rw [back] at hs
        rcases List.mem_cons.mp hs with rfl | hs
        · exact gs_put (nm j (by omega))
        · exact ih (0 + j) (by omega) 0 j rfl (by omega) s hs
    | succ i =>
      cases j with
      | zero =>
        rw [back] at hs
        rcases List.mem_cons.mp hs with rfl | hs
        · exact gs_left
        · exact ih (i + 0) (by omega) i 0 rfl (by omega) s hs
      | succ j =>
        rw [back] at hs
        split at hs
        · rcases List.mem_cons.mp hs with h | hs
          · rw [h]
            split
            · exact gs_kept
            · exact gs_other (nm j (by omega))
          · exact ih (i + j) (by omega) i j rfl (by omega) s hs
        · split at hs
          · rcases List.mem_cons.mp hs with rfl | hs
            · exact gs_left
            · exact ih (i + (j + 1)) (by omega) i (j + 1) rfl hj s hs
          · rcases List.mem_cons.mp hs with rfl | hs
            · exact gs_put (nm j (by omega))
            · exact ih (i + 1 + j) (by omega) (i + 1) j rfl (by omega) s hs
theorem own_shape (o1 : okW one) (o2 : okW other) : ∃ (ss : List D) (rs : List (List Int)), ownPaper p2 p3 p4 one other = .tuple [.tuple ss, .tuple (rowsI rs)] ∧ ss.length ≤ 20 ∧ goodS ss ∧ rs.length = one.length + 1 ∧ ∀ r ∈ rs, r.length = other.length + 1 := by
  refine ⟨(back p2 p3 p4 one other one.length other.length).reverse.map stepD, (List.range (one.length + 1)).map fun i => (List.range (other.length + 1)).map fun j => C p2 p3 p4 one other i j, ?_, ?_, ?_, by rw [List.length_map, List.length_range], fun r hr => ?_⟩
  · unfold ownPaper ownSteps tab rowsI
    rw [List.map_map]
    congr 4
    refine List.map_congr_left fun i _ => ?_
    show _ = PyData.tuple (((List.range (other.length + 1)).map fun j => C p2 p3 p4 one other i j).map .int)
    rw [List.map_map]
    rfl
  · have := (back_run (p2 := p2) (p3 := p3) (p4 := p4) (one := one) o2.2 _ one.length other.length rfl (Nat.le_refl _) (Nat.le_refl _)).2
    have := o1.1
    have := o2.1
    rw [List.length_map, List.length_reverse]
    omega
  · intro s hs
    obtain ⟨t, ht, rfl⟩ := List.mem_map.mp hs
    exact back_good o2.2 _ one.length other.length rfl (Nat.le_refl _) t (List.mem_reverse.mp ht)
  · obtain ⟨i, _, rfl⟩ := List.mem_map.mp hr
    rw [List.length_map, List.length_range]
theorem shape_okT {ss : List D} {rs : List (List Int)} (gs : goodS ss) : okT (.tuple [.tuple ss, .tuple (rowsI rs)]) := okT_two (noL_ss gs) noL_rowsI (gdn_ss gs) (gdn_mono gdn_rowsI (by decide))
end
/-! what can be shown -/
theorem fb_lt {p : D → Bool} : ∀ {xs : List D} {k j : Nat}, firstBad p k xs = some j → j < k + xs.length
  | [], _, _, h => nomatch h
  | x :: xs, k, j, h => by
    unfold firstBad at h
    rw [List.length_cons]
    cases hp : p x with
    | true =>
      rw [hp, if_pos rfl] at h
      have := fb_lt h
      omega
    | false =>
      rw [hp, if_neg (by decide)] at h
      cases h
      omega
def reprB (d : D) : Bool := headOk d && (d.showable && (!d.hasDict && (decide (d.depth ≤ 8) && decide (d.shown.length ≤ 1000))))
theorem reprB_ok {d : D} (h : reprB d = true) : ReprOk d := by
  unfold reprB at h
  simp only [Bool.and_eq_true, Bool.not_eq_true', decide_eq_true_eq] at h
  exact ⟨h.1, h.2.1, h.2.2.1, h.2.2.2.1, Nat.le_trans h.2.2.2.2 (by decide)⟩
theorem repr_pi : ∀ i : Fin 64, reprB (dueD (.prices (.int ((i.val : Nat) : Int)))) = true := by decide +kernel
theorem repr_mi : ∀ i : Fin 64, reprB (dueD (.message (.int ((i.val : Nat) : Int)))) = true := by decide +kernel
theorem repr_pn : reprB (dueD (.prices .none)) = true := by decide +kernel
theorem repr_mn : reprB (dueD (.message .none)) = true := by decide +kernel
theorem repr_tf : ∀ b : Bool, reprB (.bool b) = true := by decide +kernel
theorem repr_nn : reprB .none = true := by decide +kernel
theorem need_nd {q : D → Bool} {c : Bool} {xs : List D} {nd : D} (h : (if c = true then (firstBad q 0 xs).map fun i => PyData.int (i : Nat) else some .none) = some nd) (l : xs.length ≤ 63) : nd = .none ∨ ∃ i : Nat, i < 64 ∧ nd = .int (i : Nat) := by
  split at h
  · obtain ⟨i, h1, h2⟩ := Option.map_eq_some_iff.mp h
    have := fb_lt h1
    exact .inr ⟨i, by omega, h2.symm⟩
  · cases h
    exact .inl rfl
theorem due_repr {ps one other : List D} (l0 : ps.length ≤ 63) (l1 : one.length ≤ 63) (l2 : other.length ≤ 63) : ReprOk (dueD (pairBad ps one other)) := by
  have pr : ∀ {nd : D}, needPr ps = some nd → ReprOk (dueD (.prices nd)) := fun {nd} h => by
    rcases need_nd (q := priceB) (c := decide (ps.length = 6)) h l0 with rfl | ⟨i, hi, rfl⟩
    · exact reprB_ok repr_pn
    · exact reprB_ok (repr_pi ⟨i, hi⟩)
  have ms : ∀ {ws : List D} {nd : D}, ws.length ≤ 63 → needMsg ws = some nd → ReprOk (dueD (.message nd)) := fun {ws nd} l h => by
    rcases need_nd (q := nameD) (c := decide ((1 : Int) ≤ (ws.length : Nat)) && decide (((ws.length : Nat) : Int) ≤ 6)) h l with rfl | ⟨i, hi, rfl⟩
    · exact reprB_ok repr_mn
    · exact reprB_ok (repr_mi ⟨i, hi⟩)
  unfold pairBad
  cases h0 : needPr ps with
  | some nd => exact pr h0
  | none =>
    cases h1 : needMsg one with
    | some nd => exact ms l1 h1
    | none =>
      cases h2 : needMsg other with
      | some nd => exact ms l2 h2
      | none => exact reprB_ok repr_nn
/-! a thing otherwise -/
theorem odd_gdn : ∀ o ∈ oddD, gdn 5 o = true := by decide +kernel
theorem other_len {ds es : List D} (h : otherOf ds es) : es.length = ds.length := by
  rcases h with rfl | ⟨i, o, _, _, rfl⟩
  · rfl
  · exact List.length_set
theorem other_gdn {ds es : List D} (h : otherOf ds es) (g : ∀ d ∈ ds, gdn 5 d = true) : ∀ d ∈ es, gdn 5 d = true := by
  rcases h with rfl | ⟨i, o, _, ho, rfl⟩
  · exact g
  · intro d hd
    rcases List.mem_or_eq_of_mem_set hd with h | h
    · exact g d h
    · rw [h]; exact odd_gdn o ho
theorem gdn_all {n : Nat} {ds : List D} (g : ∀ d ∈ ds, gdn n d = true) : gdn (n + 1) (.tuple ds) = true := List.all_eq_true.mpr g
/-- once, or seven times -/
def timesD (r : Int) (ds : List D) : List D := if r = 3 then (List.replicate 7 ds).flatten else ds
theorem times_len {r : Int} {ds : List D} (h : ds.length ≤ 6) : (timesD r ds).length ≤ 42 := by
  unfold timesD
  split
  · have e : (List.replicate 7 ds).flatten = ds ++ (ds ++ (ds ++ (ds ++ (ds ++ (ds ++ (ds ++ [])))))) := rfl
    rw [e]
    simp only [List.length_append, List.length_nil]
    omega
  · omega
theorem times_gdn {r : Int} {ds : List D} (g : ∀ d ∈ ds, gdn 5 d = true) : ∀ d ∈ timesD r ds, gdn 5 d = true := by
  unfold timesD
  split
  · intro d hd
    obtain ⟨l, hl, hd⟩ := List.mem_flatten.mp hd
    rw [(List.mem_replicate.mp hl).2] at hd
    exact g d hd
  · exact g
end K5
set_option Elab.async false
set_option linter.all false
set_option maxRecDepth 100000
set_option maxHeartbeats 4000000
/-! A change's paper is told and looked at right. -/
namespace K5
open PySem L2 PySem.Spec PyProof.Rows
local macro_rules | `(tactic| walk_at "DP") => `(tactic| first | with_reducible assumption | with_reducible exact Dp.int _ | with_reducible exact Dp.str _ | with_reducible exact Dp.bl _ | with_reducible exact Dp.non | with_reducible exact dp_up (by assumption) (by assumption))
local macro_rules | `(tactic| walk_at "SH") => `(tactic| first | with_reducible assumption | rfl)
local macro_rules | `(tactic| walk_at "RD") => `(tactic| first | with_reducible assumption | exact rd_addI | exact rd_I0 fun _ => .int _ | exact rd_I0 fun _ => .bl _ | exact rd_ixL (by with_reducible assumption) | exact rd_ixT (by with_reducible assumption) | exact rd_ixS (by with_reducible assumption) (by with_reducible assumption) | exact rd_eqD (by walk_at "SH") (by walk_at "SH") | exact rd_neD (by walk_at "SH") (by walk_at "SH") | exact rd_inS | exact rd_notN | exact rd_isN | exact rd_addL (by with_reducible assumption) | exact rd_addT (by with_reducible assumption) | exact rd_addS (by with_reducible assumption))
local macro_rules | `(tactic| walk_at "OV") => `(tactic| first | with_reducible exact ov_no | ((with_reducible apply ov_some); walk_at "EV"))
local macro_rules | `(tactic| walk_at "AV") => `(tactic| first | with_reducible assumption | with_reducible exact av_nil | ((with_reducible apply av_cons); walk_at "EV"; walk_at "AV"))
local macro_rules | `(tactic| walk_at "RC") => `(tactic| first | with_reducible assumption | exact rc_len (by (first | with_reducible assumption | trivial)) | exact rc_tupL | exact rc_tupT | exact rc_lstL | exact rc_lstT | exact rc_all | exact rc_sum | exact rc_min2 | exact rc_min3)
local macro_rules | `(tactic| walk_at "KIT") => `(tactic| first | with_reducible exact kit_int _ | with_reducible exact kit_bool _ | with_reducible exact kit_str _ | with_reducible exact kit_tuple _)
local macro_rules | `(tactic| walk_at "EV") => `(tactic| first | with_reducible assumption | with_reducible exact ev_int | with_reducible exact ev_str | with_reducible exact ev_bl | with_reducible exact ev_non | ((with_reducible apply ev_var); exact sl_mk rfl (by walk_at "DP")) | ((with_reducible apply ev_op); walk_at "EV"; walk_at "EV"; walk_at "RD") | ((with_reducible apply ev_neg); walk_at "EV") | ((with_reducible apply ev_tup); walk_at "AV"; (first | (with_reducible assumption) | decide)) | ((with_reducible apply ev_lst); walk_at "AV"; (first | (with_reducible assumption) | decide)) | ((with_reducible apply ev_call); walk_at "AV"; with_reducible assumption) | ((with_reducible apply ev_isi2); exact rfl; walk_at "EV"; walk_at "KIT") | ((with_reducible apply ev_cb); walk_at "AV"; walk_at "RC") | ((with_reducible apply ev_chain); walk_at "EV"; walk_at "EV"; walk_at "RD"; intro _; walk_at "EV"; intro _; walk_at "RD") | ((with_reducible apply ev_andV); walk_at "EV"; intro _; walk_at "EV") | ((with_reducible apply ev_orV); walk_at "EV"; intro _; walk_at "EV") | ((with_reducible apply ev_notV); walk_at "EV") | ((with_reducible apply ev_sl2); exact rfl; walk_at "EV"; walk_at "OV"; walk_at "OV"; walk_at "SLD") | ((with_reducible apply ev_rev2); exact rfl; walk_at "EV"))
local macro_rules | `(tactic| walk_at "SLD") => `(tactic| first | with_reducible exact SlD.l | with_reducible exact SlD.t | with_reducible exact SlD.s (by with_reducible assumption))
local macro_rules | `(tactic| walk_at "TV") => `(tactic| first | with_reducible assumption | ((with_reducible apply tv_and); walk_at "TV"; intro _; walk_at "TV") | ((with_reducible apply tv_or); walk_at "TV"; intro _; walk_at "TV") | ((with_reducible apply tv_not); walk_at "TV") | ((with_reducible apply tv_B); walk_at "EV") | ((with_reducible apply tv_T); walk_at "EV"))
local macro_rules | `(tactic| walk_at "NX") => `(tactic| ((try dsimp only); (try with_reducible apply s_next); (try dsimp only); (try with_reducible apply s_seq)))

theorem for_te {K : PySem.W.Frag} {te : TE} {g : TG} {tb : TS} {De : Ends} {s : L2.St} {H : Hp} (h : te s H fun v H1 => tFor (iAny K (tC v)) g tb De s H1) : tFor (iAny K te) g tb De s H := h
theorem for_rng {s : L2.St} {H : Hp} {n : Nat} {g : TG} {tb : TS} {De : Ends} (hn : n ≤ 1000)
    (h : ∃ Pv : Nat → L2.St → Hp → Prop, Pv 0 s H ∧ (∀ i σ Hc, i < n → Pv i σ Hc → g (.int (0 + (i : Nat))) σ Hc fun σ2 H2 => tb { De with nx := Pv (i + 1), ct := Pv (i + 1), bk := De.nx } σ2 H2) ∧ ∀ σ Hc, Pv n σ Hc → De.nx σ Hc) :
    tFor (iRng1 (tCons (tC (.int ((n : Nat) : Int))) tNil)) g tb De s H := ⟨(n : Nat), rfl, by omega, by omega, by
  obtain ⟨Pv, p0, ps, pd⟩ := h
  rw [show ((n : Nat) : Int).toNat = n from Int.toNat_natCast n]
  exact for_it (D := De) walk_range Pv p0 (fun _ _ _ _ _ => trivial) (fun i x σ Ha Hb hi q y => by
    obtain ⟨rfl, rfl⟩ := y
    exact ps i σ _ hi q) pd⟩
theorem tup_go {t : TA} {s : L2.St} {H : Hp} {Q : VK} (h : t s H fun vs H1 => vs.length ≤ sizeLine ∧ ∀ p, H1 p = none → Q (.ref p) (upd H1 p (.tup vs))) : tTup t s H Q := h
theorem asg_go {te : TE} {g : TG} {De : Ends} {s : L2.St} {H : Hp} (h : te s H fun v H1 => g v s H1 De.nx) : tAsg te g De s H := h
section
variable {K : PySem.W.Frag} {s : L2.St} {H : Hp} {te1 te2 : TE} {d : D}
theorem rc_repr (ok : ReprOk d) : RC K (rReprD K) H [d] (.str d.shown) := fun H1 xs _ dv Q q => by
  obtain ⟨v, d', rfl, e, hd⟩ := dps1 dv rfl
  cases e
  exact ⟨v, d, rfl, hd, ok, q _ H1 (Same.refl _) (.str _)⟩
theorem rd_neS {a b : Str} : RD K rNe H (.str a) (.str b) (.bool (!decide (V.str a = V.str b))) := fun H1 x y _ dx dy Q q => by
  rw [dp_str dx, dp_str dy]
  exact ⟨rfl, q _ H1 (Same.refl _) (.bl _)⟩
theorem tv_repr (ok : ReprOk d) (h1 : Ev K te1 s H d) (h2 : Ev K te2 s H d) : Tv K (tTest (tOp rNe (tCB (rReprD K) (tCons te1 tNil)) (tCB (rReprD K) (tCons te2 tNil)))) s H false :=
  tv_is (tv_T (ev_op (ev_cb (av_cons h1 av_nil) (rc_repr ok)) (ev_cb (av_cons h2 av_nil) (rc_repr ok)) rd_neS)) (by simp)
theorem told_spd {ps one other : List D} {b : Bool} (ok : A8.ok ⟨ps, one, other⟩) : SpD K (spTold K) H [.tuple ps, .tuple one, .tuple other, .bool b] (dueD (pairBad ps one other)) := fun H1 vs _ dv Q E q => by
  obtain ⟨v0, d0, v1, d1, v2, d2, v3, d3, rfl, e, hd0, hd1, hd2, hd3⟩ := dps4 dv rfl
  cases e
  exact ⟨v0, v1, v2, b, ps, one, other, by rw [dp_bool hd3], hd0, hd1, hd2, ok, q⟩
end
def PP.l (p : PP) : List D := [.int p.p0, .int p.p1, .int p.p2, .int p.p3, .int p.p4, .int p.p5]
theorem ppOf_l {p : PP} : ppOf p.l = p := rfl
theorem pair_ok {p : PP} {f l : List Str} (hp : needPr p.l = none) (o1 : okW f) (n1 : 1 ≤ f.length) (o2 : okW l) (n2 : 1 ≤ l.length) : pairBad p.l (f.map .str) (l.map .str) = .none := by
  unfold pairBad
  rw [hp]
  simp only [words_ok o1 n1, words_ok o2 n2]
theorem gdn_pp {p : PP} : gdn 6 (.tuple p.l) = true := rfl
theorem gdn_pl {p : PP} : ∀ d ∈ p.l, gdn 5 d = true := List.all_eq_true.mp (show (p.l.all (gdn 5)) = true from rfl)
theorem times_mul {K : PySem.W.Frag} {H : Hp} {es : List D} {dm : D} (h : dm ∈ ([.int 1, .int 1, .int 1, .int 7] : List D)) (h0 : es ≠ []) (hl : es.length ≤ 1000) : ∃ r : Int, RD K (rMulU K) H (.tuple es) dm (.tuple (timesD r es)) := by
  have h1 : RD K (rMulU K) H (.tuple es) (.int 1) (.tuple (timesD 0 es)) := rd_mul1
  have h7 : RD K (rMulU K) H (.tuple es) (.int 7) (.tuple (timesD 3 es)) := rd_mulT h0 (by decide) (by decide) hl
  simp only [List.mem_cons, List.not_mem_nil, or_false] at h
  rcases h with rfl | rfl | rfl | rfl
  · exact ⟨0, h1⟩
  · exact ⟨0, h1⟩
  · exact ⟨0, h1⟩
  · exact ⟨3, h7⟩
section
variable {P : Program} {w : World} {K : PySem.W.Frag} {mg : Str → Option Value} {base : Heap}
abbrev s_L_right : Stmt := topS 65
abbrev N_L_right : List Str := ["_law_state", "_law_prices", "_law_one", "_law_other_here", "_law_paper", "_law_thing", "_law_first", "_law_last", "_law_j", "_law_some", "_law_due_here", "_law_is_checked"]
theorem sc_L_right : FnScope N_L_right ["_law_state", "_law_prices", "_law_one", "_law_other_here"] (defScope s_L_right) := ⟨rfl, rfl, rfl, by decide +kernel, rfl, by decide +kernel, by decide +kernel⟩
def spRight (K : PySem.W.Frag) : Sp := fun vs H Q _ => ∃ (a : Addr) (x y z : V) (t : Int) (p : PP) (one other : List Str), vs = [.ref a, x, y, z] ∧ Dp K H x (.tuple p.l) ∧ Dp K H y (wordsD one) ∧ Dp K H z (wordsD other) ∧ StA H a t ∧ t ≤ 100000 ∧ needPr p.l = none ∧ okW one ∧ 1 ≤ one.length ∧ okW other ∧ 1 ≤ other.length ∧
  ∀ H', But a H H' → Q (.bl true) H'
theorem c_L_right (T : Txt w K mg) (d : DefAt K mg "_law_right" s_L_right) {CP CM : Addr}
    (G_change_paper : KCal P w K mg base (L2.CX P w) 5 "change_paper" ["prices", "one", "other"] (spChange K CP CM)) (G_check_change : KCal P w K mg base (L2.CX P w) 5 "check_change" ["prices", "one", "other", "paper"] (spCheck K CP CM))
    (G_L_is_paper : KCal P w K mg base CX0 3 "_law_is_paper" ["_law_prices", "_law_one", "_law_other_here", "_law_thing"] (spPaper K)) (G_L_papers : KCal P w K mg base CX0 4 "_law_papers" ["_law_state", "_law_one", "_law_paper"] (spPapers K))
    (G_L_slid : KCal P w K mg base CX0 1 "_law_slid" ["_law_words"] (spSlid K)) (G_L_other : KCal P w K mg base CX0 3 "_law_other" ["_law_state", "_law_thing"] (spOther K)) (G_L_digit : KCal P w K mg base CX0 2 "_law_digit" ["_law_state", "_law_many"] (spDigit K))
    (G_L_due : KCal P w K mg base CX0 2 "_law_due" ["_law_prices", "_law_one", "_law_other_here"] (spDue K)) (G_L_told : KCal P w K mg base CX0 6 "_law_told" ["_law_prices", "_law_one", "_law_other_here", "_law_is_checked"] (spTold K)) :
    KCalG P w K mg base CX0 7 "_law_right" ["_law_state", "_law_prices", "_law_one", "_law_other_here"] (spRight K) := by
  refine calG d (fun _ _ _ _ _ _ us hl => match us, hl with | [_, _, _, _], _ => rfl) fun f fd F => okG F sc_L_right (fun vs H Q E h => by obtain ⟨_, _, _, _, _, _, _, _, rfl, _⟩ := h; rfl) (fun cdv A outer s H vs Q E hr hG h => ?_)
  have hu := hr.units
  refine ⟨_, (pss_cons (ps_set (i := 4) sc_L_right.nd rfl (Or.inl rfl) (pcN G_change_paper hr (by decide) (by rfl) (pa_cons (pv 1) (pa_cons (pv 2) (pa_cons (pv 3) pa_nil)))))
  (pss_cons (ps_if (pt_not (pt_val (pc0 G_L_is_paper hr (by decide) (by rfl) (pa_cons (pv 1) (pa_cons (pv 2) (pa_cons (pv 3) (pa_cons (pv 4) pa_nil))))))) (pss_one (ps_ret pe_bl)) pss_nil)
  (pss_cons (ps_for PassesOwn.never rfl (pi_any (pc0 G_L_papers hr (by decide) (by rfl) (pa_cons (pv 0) (pa_cons (pv 2) (pa_cons (pv 4) pa_nil))))) (pg_name (i := 5) sc_L_right.nd rfl (Or.inl rfl))
  (pss_one (ps_for PassesOwn.never rfl (pi_any (pe_tup (pa_cons (pe_tup (pa_cons (pv 2) (pa_cons (pv 3) pa_nil))) (pa_cons (pe_tup (pa_cons (pv 3) (pa_cons (pv 2) pa_nil))) (pa_cons (pe_tup (pa_cons (pv 2) (pa_cons (pc0 G_L_slid hr (by decide) (by rfl) (pa_cons (pv 3) pa_nil)) pa_nil))) pa_nil))))) (pg_tup rfl (pgs_cons (pg_name (i := 6) sc_L_right.nd rfl (Or.inl rfl)) (pgs_cons (pg_name (i := 7) sc_L_right.nd rfl (Or.inl rfl)) pgs_nil)))
  (pss_one (ps_if (pt_cmpR op_ne (pe_callB (call_reprD hG hu) (by rfl) T.n_repr (by decide +kernel) (pa_cons (pcN G_check_change hr (by decide) (by rfl) (pa_cons (pv 1) (pa_cons (pv 6) (pa_cons (pv 7) (pa_cons (pv 5) pa_nil))))) pa_nil)) (pe_callB (call_reprD hG hu) (by rfl) T.n_repr (by decide +kernel) (pa_cons (pc0 G_L_is_paper hr (by decide) (by rfl) (pa_cons (pv 1) (pa_cons (pv 6) (pa_cons (pv 7) (pa_cons (pv 5) pa_nil))))) pa_nil)) (nomark _)) (pss_one (ps_ret pe_bl)) pss_nil)))))
  (pss_cons (ps_for PassesOwn.never rfl (pi_range1 (by rfl) T.n_range (pa_cons pe_int pa_nil)) (pg_name (i := 8) sc_L_right.nd rfl (Or.inl rfl))
  (pss_cons (ps_set (i := 9) sc_L_right.nd rfl (Or.inl rfl) (pe_tup (pa_cons (pc0 G_L_other hr (by decide) (by rfl) (pa_cons (pv 0) (pa_cons (pv 1) pa_nil))) (pa_cons (pc0 G_L_other hr (by decide) (by rfl) (pa_cons (pv 0) (pa_cons (pv 2) pa_nil))) (pa_cons (pc0 G_L_other hr (by decide) (by rfl) (pa_cons (pv 0) (pa_cons (pv 3) pa_nil))) pa_nil)))))
  (pss_cons (ps_set (i := 9) sc_L_right.nd rfl (Or.inl rfl) (pe_tup (pa_cons (pe_ix ix_seq (pv 9) pe_int (fun _ _ => rfl)) (pa_cons (pe_op opMulU (pe_ix ix_seq (pv 9) pe_int (fun _ _ => rfl)) (pe_ix ix_seq (pe_lst (pa_cons pe_int (pa_cons pe_int (pa_cons pe_int (pa_cons pe_int pa_nil))))) (pc0 G_L_digit hr (by decide) (by rfl) (pa_cons (pv 0) (pa_cons pe_int pa_nil))) (fun _ _ => rfl))) (pa_cons (pe_ix ix_seq (pv 9) pe_int (fun _ _ => rfl)) pa_nil)))))
  (pss_cons (ps_set (i := 10) sc_L_right.nd rfl (Or.inl rfl) (pc0 G_L_due hr (by decide) (by rfl) (pa_cons (pe_ix ix_seq (pv 9) pe_int (fun _ _ => rfl)) (pa_cons (pe_ix ix_seq (pv 9) pe_int (fun _ _ => rfl)) (pa_cons (pe_ix ix_seq (pv 9) pe_int (fun _ _ => rfl)) pa_nil)))))
  (pss_one (ps_for PassesOwn.never rfl (pi_any (pe_tup (pa_cons pe_bl (pa_cons pe_bl pa_nil)))) (pg_name (i := 11) sc_L_right.nd rfl (Or.inl rfl))
  (pss_one (ps_if (pt_cmpR op_ne (pe_callB (call_reprD hG hu) (by rfl) T.n_repr (by decide +kernel) (pa_cons (pc0 G_L_told hr (by decide) (by rfl) (pa_cons (pe_ix ix_seq (pv 9) pe_int (fun _ _ => rfl)) (pa_cons (pe_ix ix_seq (pv 9) pe_int (fun _ _ => rfl)) (pa_cons (pe_ix ix_seq (pv 9) pe_int (fun _ _ => rfl)) (pa_cons (pv 11) pa_nil))))) pa_nil)) (pe_callB (call_reprD hG hu) (by rfl) T.n_repr (by decide +kernel) (pa_cons (pv 10) pa_nil)) (nomark _)) (pss_one (ps_ret pe_bl)) pss_nil))))))))
  (pss_one (ps_ret pe_bl)))))), ?_⟩
  obtain ⟨a, x, y, z, t, p, one, other, rfl, hx, hy, hz, st, ht, hp, o1, n1, o2, n2, k⟩ := h
  walk_at "NX"
  have l16 := o1.1
  have l26 := o2.1
  obtain ⟨ss, rs, es, ls, gs, lr, lr2⟩ := own_shape (p2 := p.p2) (p3 := p.p3) (p4 := p.p4) o1 o2
  have okP : okT (ownPaper p.p2 p.p3 p.p4 one other) := by rw [es]; exact shape_okT gs
  have gW : ∀ {ws : List Str}, okW ws → gdn 6 (.tuple (ws.map PyData.str)) = true := fun ok => gdn_all (gdn_words ok)
  have cch : SpD K (spChange K CP CM) H [.tuple p.l, wordsD one, wordsD other] (ownPaper p.p2 p.p3 p.p4 one other) := spx_ok (⟨p.l, one.map .str, other.map .str⟩ : A8) ⟨gdn_pp, gW o1, gW o2⟩ (by
    show badRes CP CM (ownPaper (ppOf p.l).p2 (ppOf p.l).p3 (ppOf p.l).p4 (wordsOf (one.map .str)) (wordsOf (other.map .str))) (pairBad p.l (one.map .str) (other.map .str)) = _
    rw [pair_ok hp o1 n1 o2 n2, wordsOf_map, wordsOf_map]
    rfl)
  have cpa : ∀ {Hc : Hp} {f l : List Str} {d : D}, okW f → okW l → okT d → SpD K (spPaper K) Hc [.tuple p.l, wordsD f, wordsD l, d] (.bool (paperOk p.p2 p.p3 p.p4 f l d)) := fun {Hc f l d} a b c => spr_of (⟨p, f, l, d⟩ : A6) ⟨a, b, c⟩
  have cck : ∀ {Hc : Hp} {f l : List Str} {d : D}, okW f → 1 ≤ f.length → okW l → 1 ≤ l.length → okT d → SpD K (spCheck K CP CM) Hc [.tuple p.l, wordsD f, wordsD l, d] (.bool (paperOk p.p2 p.p3 p.p4 f l d)) := fun {Hc f l d} a a1 b b1 c => spx_ok (⟨p.l, f.map .str, l.map .str, d⟩ : A10) ⟨gdn_pp, gW a, gW b, c⟩ (by
    show badRes CP CM (.bool (paperOk (ppOf p.l).p2 (ppOf p.l).p3 (ppOf p.l).p4 (wordsOf (f.map .str)) (wordsOf (l.map .str)) d)) (pairBad p.l (f.map .str) (l.map .str)) = _
    rw [pair_ok hp a a1 b b1, wordsOf_map, wordsOf_map]
    rfl)
  refine s_asg (K := K) (ev_call (av_cons (ev_var ⟨_, rfl, hx⟩) (av_cons (ev_var ⟨_, rfl, hy⟩) (av_cons (ev_var ⟨_, rfl, hz⟩) av_nil))) cch) fun v4 H1 e1 dv4 => ?_
  walk_at "NX"
  refine s_if (K := K) (b := false) (tv_is (tv_not (tv_B (ev_call (av_cons (ev_var ⟨_, rfl, dp_same e1 hx⟩) (av_cons (ev_var ⟨_, rfl, dp_same e1 hy⟩) (av_cons (ev_var ⟨_, rfl, dp_same e1 hz⟩) (av_cons (ev_var ⟨_, rfl, dv4⟩) av_nil)))) (cpa o1 o2 okP)))) (by rw [own_ok o2.2 l16 l26]; rfl)) (fun h => nomatch h) fun _ H2 e2 => ?_
  walk_at "NX"
  have e12 := e1.trans e2
  refine for_te ?_
  refine ⟨.ref a, rfl, y, rfl, v4, rfl, a, y, v4, t, one, ss, rs, other.length, rfl, dp_same e12 hy, by rw [← es]; exact dp_same e2 dv4, st.same e12, by omega, l16, ls, lr, lr2, l26, gs, fun u ds H3 b3 st3 lds okds du => ?_⟩
  have b03 : But a H H3 := (But.of e12).trans b3
  have pr3 := (st.pr (K := K) b03)
  have hx3 := pr3.dp hx
  have hy3 := pr3.dp hy
  have hz3 := pr3.dp hz
  refine s_for (K := K) (d := .list ds) (ds := ds) (yd_any (ev_c du) rfl) fun H4 w4 e4 dw4 => ⟨fun i σ Hc => ∃ o5 o6 o7, σ = [some (.ref a), some x, some y, some z, some v4, o5, o6, o7, none, none, none, none] ∧ Same H3 Hc ∧ Dp K Hc w4 (.list ds), ?_, ?_, ?_, ?_, ?_⟩
  · rintro i σ Ha Hb sm ⟨o5, o6, o7, rfl, q1, q2⟩
    exact ⟨o5, o6, o7, rfl, q1.trans sm, dp_same sm q2⟩
  · rintro i σ Ha ⟨o5, o6, o7, rfl, q1, q2⟩
    exact q2
  · exact ⟨_, _, _, rfl, e4, dw4⟩
  · rintro i d v σ Hc hd ⟨o5, o6, o7, rfl, q1, q2⟩ dv
    have okd := okds d (List.mem_of_getElem? hd)
    refine gname_go ?_
    walk_at "NX"
    have hxc := dp_same q1 hx3
    have hyc := dp_same q1 hy3
    have hzc := dp_same q1 hz3
    refine for_te (tup_go ?_)
    refine cons_go (Ev.go (K := K) (c := .tuple [wordsD one, wordsD other]) (ev_tup (av_cons (ev_var ⟨_, rfl, hyc⟩) (av_cons (ev_var ⟨_, rfl, hzc⟩) av_nil)) (by show 2 ≤ 100000; decide)) fun va Ha ea da => ?_)
    refine cons_go (Ev.go (K := K) (c := .tuple [wordsD other, wordsD one]) (ev_tup (av_cons (ev_var ⟨_, rfl, dp_same ea hzc⟩) (av_cons (ev_var ⟨_, rfl, dp_same ea hyc⟩) av_nil)) (by show 2 ≤ 100000; decide)) fun vb Hb eb db => ?_)
    refine cons_go (tup_go (cons_go ⟨y, rfl, cons_go ⟨z, rfl, z, other, rfl, dp_same (ea.trans eb) hzc, o2, fun us ws' Hd ed ok' lw du' => ?_⟩⟩))
    refine ⟨by show 2 ≤ sizeLine; decide, fun p1 hp1 => ⟨by show 3 ≤ sizeLine; decide, fun p2 hp2 => ?_⟩⟩
    have en1 : Same Hd (upd Hd p1 (.tup [y, us])) := Same.new hp1
    have en2 : Same (upd Hd p1 (.tup [y, us])) (upd (upd Hd p1 (.tup [y, us])) p2 (.tup [va, vb, .ref p1])) := Same.new hp2
    obtain ⟨He, hHe⟩ : ∃ He, He = upd (upd Hd p1 (.tup [y, us])) p2 (.tup [va, vb, .ref p1]) := ⟨_, rfl⟩
    have ede : Same Hd He := by rw [hHe]; exact en1.trans en2
    have ece : Same Hc He := ((ea.trans eb).trans ed).trans ede
    obtain ⟨trip, htrip⟩ : ∃ trip : List (List Str × List Str), trip = [(one, other), (other, one), (one, ws')] := ⟨_, rfl⟩
    have good : ∀ q ∈ trip, okW q.1 ∧ 1 ≤ q.1.length ∧ okW q.2 ∧ 1 ≤ q.2.length := fun q hq => by
      rw [htrip] at hq
      simp only [List.mem_cons, List.not_mem_nil, or_false] at hq
      rcases hq with rfl | rfl | rfl
      · exact ⟨o1, n1, o2, n2⟩
      · exact ⟨o2, n2, o1, n1⟩
      · exact ⟨o1, n1, ok', by show 1 ≤ ws'.length; omega⟩
    have dtr : Dp K He (.ref p2) (.tuple (trip.map fun q => .tuple [wordsD q.1, wordsD q.2])) := by
      rw [hHe, htrip]
      exact .tup (SqT.of upd_same) (.cons (dp_same ((eb.trans ed).trans (en1.trans en2)) da) (.cons (dp_same (ed.trans (en1.trans en2)) db) (.cons (dp_same en2 (.tup (SqT.of upd_same) (.cons (dp_same (((ea.trans eb).trans ed).trans en1) hyc) (.cons (dp_same en1 du') .nil)))) .nil)))
    rw [← hHe]
    refine s_for (K := K) (d := .tuple (trip.map fun q => .tuple [wordsD q.1, wordsD q.2])) (ds := trip.map fun q => .tuple [wordsD q.1, wordsD q.2]) (yd_any (ev_c dtr) rfl) fun H5 w5 e5 dw5 => ⟨fun j σ Hj => ∃ o6 o7, σ = [some (.ref a), some x, some y, some z, some v4, some v, o6, o7, none, none, none, none] ∧ Same Hc Hj ∧ Dp K Hj w5 (.tuple (trip.map fun q => .tuple [wordsD q.1, wordsD q.2])), ?_, ?_, ?_, ?_, ?_⟩
    · rintro j σ Ha Hb sm ⟨o6, o7, rfl, r1, r2⟩
      exact ⟨o6, o7, rfl, r1.trans sm, dp_same sm r2⟩
    · rintro j σ Ha ⟨o6, o7, rfl, r1, r2⟩
      exact r2
    · exact ⟨_, _, rfl, ece.trans e5, dw5⟩
    · rintro j e ve σ Hj he ⟨o6, o7, rfl, r1, r2⟩ dve
      obtain ⟨q, hq, rfl⟩ := List.mem_map.mp (List.mem_of_getElem? he)
      obtain ⟨g1, g2, g3, g4⟩ := good q hq
      refine g_pair (K := K) dve fun vf vl df dl => ?_
      have hxj := dp_same r1 hxc
      have dvj := dp_same r1 dv
      try dsimp only
      refine s_if (K := K) (b := false) (tv_repr (reprB_ok (repr_tf _)) (ev_call (av_cons (ev_var ⟨_, rfl, hxj⟩) (av_cons (ev_var ⟨_, rfl, df⟩) (av_cons (ev_var ⟨_, rfl, dl⟩) (av_cons (ev_var ⟨_, rfl, dvj⟩) av_nil)))) (cck g1 g2 g3 g4 okd)) (ev_call (av_cons (ev_var ⟨_, rfl, hxj⟩) (av_cons (ev_var ⟨_, rfl, df⟩) (av_cons (ev_var ⟨_, rfl, dl⟩) (av_cons (ev_var ⟨_, rfl, dvj⟩) av_nil)))) (cpa g1 g3 okd))) (fun h => nomatch h) fun _ H6 e6 => ?_
      exact ⟨_, _, rfl, r1.trans e6, dp_same e6 r2⟩
    · rintro σ Hj ⟨o6, o7, rfl, r1, r2⟩
      exact ⟨_, _, _, rfl, q1.trans r1, dp_same r1 q2⟩
  · rintro σ Hc ⟨o5, o6, o7, rfl, q1, q2⟩
    walk_at "NX"
    have b0c : But a H Hc := b03.s q1
    have stc := st3.same q1
    refine for_rng (n := 4) (by decide) ⟨fun i σ Hc => ∃ o8 o9 o10 o11, σ = [some (.ref a), some x, some y, some z, some v4, o5, o6, o7, o8, o9, o10, o11] ∧ But a H Hc ∧ StA Hc a (t + 3000 + 400 * (i : Int)), ⟨_, _, _, _, rfl, b0c, by simpa using stc⟩, ?_, ?_⟩
    · rintro i σ Hc hi ⟨o8, o9, o10, o11, rfl, bc, sc⟩
      refine gname_go ?_
      walk_at "NX"
      have prc := st.pr (K := K) bc
      refine asg_go (tup_go (cons_go ⟨.ref a, rfl, x, rfl, a, x, _, p.l, rfl, prc.dp hx, sc, by omega, by show 1 ≤ 6; decide, by show 6 ≤ 100; decide, fun u0 es0 Ha ba sa oa da => ?_⟩))
      have pra := sc.pr (K := K) ba
      refine cons_go ⟨.ref a, rfl, y, rfl, a, y, _, one.map .str, rfl, pra.dp (prc.dp hy), sa, by omega, by rw [List.length_map]; omega, by rw [List.length_map]; omega, fun u1 es1 Hb bb sb ob db => ?_⟩
      have prb := sa.pr (K := K) bb
      refine cons_go ⟨.ref a, rfl, z, rfl, a, z, _, other.map .str, rfl, prb.dp (pra.dp (prc.dp hz)), sb, by omega, by rw [List.length_map]; omega, by rw [List.length_map]; omega, fun u2 es2 Hd bd sd od dd => ?_⟩
      have prd := sb.pr (K := K) bd
      refine ⟨by show 3 ≤ sizeLine; decide, fun p1 hp1 => ?_⟩
      have en1 : Same Hd (upd Hd p1 (.tup [u0, u1, u2])) := Same.new hp1
      have dT : Dp K (upd Hd p1 (.tup [u0, u1, u2])) (.ref p1) (.tuple [.tuple es0, .tuple es1, .tuple es2]) := .tup (SqT.of upd_same) (.cons (dp_same en1 (prd.dp (prb.dp da))) (.cons (dp_same en1 (prd.dp db)) (.cons (dp_same en1 dd) .nil)))
      have sT := sd.same en1
      have bT : But a H (upd Hd p1 (.tup [u0, u1, u2])) := (((bc.trans ba).trans bb).trans bd).s en1
      obtain ⟨He, hHe⟩ : ∃ He, He = upd Hd p1 (.tup [u0, u1, u2]) := ⟨_, rfl⟩
      rw [← hHe] at dT sT bT ⊢
      have le0 : es0.length = 6 := other_len oa
      have le1 : es1.length = one.length := by rw [other_len ob, List.length_map]
      have le2 : es2.length = other.length := by rw [other_len od, List.length_map]
      have ge0 := other_gdn oa gdn_pl
      have ge1 := other_gdn ob (gdn_words o1)
      have ge2 := other_gdn od (gdn_words o2)
      refine gname_go ?_
      walk_at "NX"
      have i0 : atI [PyData.tuple es0, .tuple es1, .tuple es2] 0 = some (.tuple es0) := rfl
      have i1 : atI [PyData.tuple es0, .tuple es1, .tuple es2] 1 = some (.tuple es1) := rfl
      have i2 : atI [PyData.tuple es0, .tuple es1, .tuple es2] 2 = some (.tuple es2) := rfl
      refine asg_go (tup_go (cons_go (Ev.go (K := K) (c := .tuple es0) (ev_op (ev_var ⟨_, rfl, dT⟩) ev_int (rd_ixT i0)) fun w0 Hf ef df => ?_)))
      refine cons_go (op_go (Ev.go (K := K) (c := .tuple es1) (ev_op (ev_var ⟨_, rfl, dp_same ef dT⟩) ev_int (rd_ixT i1)) fun w1 Hg eg dg => ?_))
      refine op_go (Ev.go (K := K) (c := .list [.int 1, .int 1, .int 1, .int 7]) (ev_lst (by walk_at "AV") (by show 4 ≤ 100000; decide)) fun w2 Hh eh dh => ?_)
      have efh := (ef.trans eg).trans eh
      refine ev_dig (K := K) (i := 0) (a := a) (m := 4) rfl ev_int (by decide) (by decide) (sT.same efh) (by omega) fun r Hi r0 r1 bi si => ?_
      have pri := (sT.same efh).pr (K := K) bi
      obtain ⟨pl, xl, rfl, sql, dxl⟩ := dp_lst (pri.dp dh)
      obtain ⟨um, hm1, hm2⟩ := atI_nat (xs := xl) (r := r) r0 (by rw [dps_len dxl]; exact r1)
      obtain ⟨dm, hd1, hd2⟩ := dps_mem dxl hm2
      refine .inl ⟨pl, xl, r, um, rfl, rfl, sql, hm1, ?_⟩
      obtain ⟨rt, hrt⟩ := times_mul (K := K) (H := Hi) (es := es1) hd1 (fun z => by rw [z] at le1; simp at le1; omega) (by omega)
      refine hrt Hi w1 um (Pr.refl _) (pri.dp (dp_same eh dg)) hd2 _ fun u3 Hj ej dj => ?_
      have pr0 : ∀ {d : D} {v : V}, Dp K He v d → Dp K Hj v d := fun h => dp_same ej (pri.dp (dp_same efh h))
      have sj := si.same ej
      have bj : But a H Hj := ((bT.s efh).trans bi).s ej
      refine cons_go (Ev.go (K := K) (c := .tuple es2) (ev_op (ev_var ⟨_, rfl, pr0 dT⟩) ev_int (rd_ixT i2)) fun w3 Hk ek dk => ?_)
      refine ⟨by show 3 ≤ sizeLine; decide, fun p2 hp2 => ?_⟩
      have en2 : Same Hk (upd Hk p2 (.tup [w0, u3, w3])) := Same.new hp2
      have dU : Dp K (upd Hk p2 (.tup [w0, u3, w3])) (.ref p2) (.tuple [.tuple es0, .tuple (timesD rt es1), .tuple es2]) := .tup (SqT.of upd_same) (.cons (dp_same (ek.trans en2) (dp_same ej (pri.dp (dp_same (eg.trans eh) df)))) (.cons (dp_same (ek.trans en2) dj) (.cons (dp_same en2 dk) .nil)))
      have sU := (sj.same ek).same en2
      have bU := (bj.s ek).s en2
      obtain ⟨Hl, hHl⟩ : ∃ Hl, Hl = upd Hk p2 (.tup [w0, u3, w3]) := ⟨_, rfl⟩
      rw [← hHl] at dU sU bU ⊢
      obtain ⟨es1', hes1⟩ : ∃ es1', es1' = timesD rt es1 := ⟨_, rfl⟩
      have ltm : es1'.length ≤ 42 := by rw [hes1]; exact times_len (by omega)
      have gtm : ∀ d ∈ es1', gdn 5 d = true := by rw [hes1]; exact times_gdn ge1
      rw [← hes1] at dU
      have j0 : atI [PyData.tuple es0, .tuple es1', .tuple es2] 0 = some (.tuple es0) := rfl
      have j1 : atI [PyData.tuple es0, .tuple es1', .tuple es2] 1 = some (.tuple es1') := rfl
      have j2 : atI [PyData.tuple es0, .tuple es1', .tuple es2] 2 = some (.tuple es2) := rfl
      refine gname_go ?_
      walk_at "NX"
      have gok : A8.ok ⟨es0, es1', es2⟩ := ⟨gdn_all ge0, gdn_all gtm, gdn_all ge2⟩
      have cdu : ∀ {Hx : Hp}, SpD K (spDue K) Hx [.tuple es0, .tuple es1', .tuple es2] (dueD (pairBad es0 es1' es2)) := fun {Hx} => spr_of (⟨es0, es1', es2⟩ : A8) ⟨le0, by show es1'.length ≤ 1000; omega, by show es2.length ≤ 1000; omega, gok.2.1, gok.2.2⟩
      refine s_asg (K := K) (ev_call (av_cons (ev_op (ev_var ⟨_, rfl, dU⟩) ev_int (rd_ixT j0)) (av_cons (ev_op (ev_var ⟨_, rfl, dU⟩) ev_int (rd_ixT j1)) (av_cons (ev_op (ev_var ⟨_, rfl, dU⟩) ev_int (rd_ixT j2)) av_nil))) cdu) fun vd Hm em dvd => ?_
      walk_at "NX"
      have rok : ReprOk (dueD (pairBad es0 es1' es2)) := due_repr (by omega) (by omega) (by omega)
      refine s_for (K := K) (d := .tuple [.bool true, .bool false]) (ds := [.bool true, .bool false]) (yd_any (ev_tup (av_cons ev_bl (av_cons ev_bl av_nil)) (by show 2 ≤ 100000; decide)) rfl) fun H8 w8 e8 dw8 => ⟨fun j σ Hj => ∃ o11, σ = [some (.ref a), some x, some y, some z, some v4, o5, o6, o7, some (.int (0 + (i : Nat))), some (.ref p2), some vd, o11] ∧ Same Hm Hj ∧ Dp K Hj w8 (.tuple [.bool true, .bool false]), ?_, ?_, ?_, ?_, ?_⟩
      · rintro j σ Ha Hb sm ⟨o11, rfl, r1, r2⟩
        exact ⟨o11, rfl, r1.trans sm, dp_same sm r2⟩
      · rintro j σ Ha ⟨o11, rfl, r1, r2⟩
        exact r2
      · exact ⟨_, rfl, e8, dw8⟩
      · rintro j e ve σ Hj he ⟨o11, rfl, r1, r2⟩ dve
        obtain ⟨b, rfl⟩ : ∃ b, e = .bool b := by
          have := List.mem_of_getElem? he
          simp only [List.mem_cons, List.not_mem_nil, or_false] at this
          rcases this with rfl | rfl
          · exact ⟨_, rfl⟩
          · exact ⟨_, rfl⟩
        refine gname_go ?_
        try dsimp only
        have dUj := dp_same (em.trans r1) dU
        refine s_if (K := K) (b := false) (tv_repr rok (ev_call (av_cons (ev_op (ev_var ⟨_, rfl, dUj⟩) ev_int (rd_ixT j0)) (av_cons (ev_op (ev_var ⟨_, rfl, dUj⟩) ev_int (rd_ixT j1)) (av_cons (ev_op (ev_var ⟨_, rfl, dUj⟩) ev_int (rd_ixT j2)) (av_cons (ev_var ⟨_, rfl, dve⟩) av_nil)))) (told_spd gok)) (ev_var ⟨_, rfl, dp_same r1 dvd⟩)) (fun h => nomatch h) fun _ H9 e9 => ?_
        exact ⟨_, rfl, r1.trans e9, dp_same e9 r2⟩
      · rintro σ Hj ⟨o11, rfl, r1, r2⟩
        refine ⟨_, _, _, _, rfl, (bU.s em).s r1, ((sU.same em).same r1).mono ?_⟩
        rw [Int.natCast_add]
        omega
    · rintro σ Hc ⟨o8, o9, o10, o11, rfl, bc, sc⟩
      try dsimp only
      refine s_ret (K := K) ev_bl fun u H9 e9 du => ?_
      rw [dp_bool du]
      exact k H9 (bc.s e9)
end
end K5
set_option Elab.async false
set_option linter.all false
set_option maxRecDepth 100000
set_option maxHeartbeats 4000000
/-! The law. -/
namespace K5
open PySem L2 PySem.Spec PyProof.Rows
local macro_rules | `(tactic| walk_at "DP") => `(tactic| first | with_reducible assumption | with_reducible exact Dp.int _ | with_reducible exact Dp.str _ | with_reducible exact Dp.bl _ | with_reducible exact Dp.non | with_reducible exact dp_up (by assumption) (by assumption))
local macro_rules | `(tactic| walk_at "SH") => `(tactic| first | with_reducible assumption | rfl)
local macro_rules | `(tactic| walk_at "RD") => `(tactic| first | with_reducible assumption | exact rd_addI | exact rd_I0 fun _ => .int _ | exact rd_I0 fun _ => .bl _ | exact rd_ixL (by with_reducible assumption) | exact rd_ixT (by with_reducible assumption) | exact rd_ixS (by with_reducible assumption) (by with_reducible assumption) | exact rd_eqD (by walk_at "SH") (by walk_at "SH") | exact rd_neD (by walk_at "SH") (by walk_at "SH") | exact rd_inS | exact rd_notN | exact rd_isN | exact rd_addL (by with_reducible assumption) | exact rd_addT (by with_reducible assumption) | exact rd_addS (by with_reducible assumption))
local macro_rules | `(tactic| walk_at "OV") => `(tactic| first | with_reducible exact ov_no | ((with_reducible apply ov_some); walk_at "EV"))
local macro_rules | `(tactic| walk_at "AV") => `(tactic| first | with_reducible assumption | with_reducible exact av_nil | ((with_reducible apply av_cons); walk_at "EV"; walk_at "AV"))
local macro_rules | `(tactic| walk_at "RC") => `(tactic| first | with_reducible assumption | exact rc_len (by (first | with_reducible assumption | trivial)) | exact rc_tupL | exact rc_tupT | exact rc_lstL | exact rc_lstT | exact rc_all | exact rc_sum | exact rc_min2 | exact rc_min3)
local macro_rules | `(tactic| walk_at "KIT") => `(tactic| first | with_reducible exact kit_int _ | with_reducible exact kit_bool _ | with_reducible exact kit_str _ | with_reducible exact kit_tuple _)
local macro_rules | `(tactic| walk_at "EV") => `(tactic| first | with_reducible assumption | with_reducible exact ev_int | with_reducible exact ev_str | with_reducible exact ev_bl | with_reducible exact ev_non | ((with_reducible apply ev_var); exact sl_mk rfl (by walk_at "DP")) | ((with_reducible apply ev_op); walk_at "EV"; walk_at "EV"; walk_at "RD") | ((with_reducible apply ev_neg); walk_at "EV") | ((with_reducible apply ev_tup); walk_at "AV"; (first | (with_reducible assumption) | decide)) | ((with_reducible apply ev_lst); walk_at "AV"; (first | (with_reducible assumption) | decide)) | ((with_reducible apply ev_call); walk_at "AV"; with_reducible assumption) | ((with_reducible apply ev_isi2); exact rfl; walk_at "EV"; walk_at "KIT") | ((with_reducible apply ev_cb); walk_at "AV"; walk_at "RC") | ((with_reducible apply ev_chain); walk_at "EV"; walk_at "EV"; walk_at "RD"; intro _; walk_at "EV"; intro _; walk_at "RD") | ((with_reducible apply ev_andV); walk_at "EV"; intro _; walk_at "EV") | ((with_reducible apply ev_orV); walk_at "EV"; intro _; walk_at "EV") | ((with_reducible apply ev_notV); walk_at "EV") | ((with_reducible apply ev_sl2); exact rfl; walk_at "EV"; walk_at "OV"; walk_at "OV"; walk_at "SLD") | ((with_reducible apply ev_rev2); exact rfl; walk_at "EV"))
local macro_rules | `(tactic| walk_at "SLD") => `(tactic| first | with_reducible exact SlD.l | with_reducible exact SlD.t | with_reducible exact SlD.s (by with_reducible assumption))
local macro_rules | `(tactic| walk_at "TV") => `(tactic| first | with_reducible assumption | ((with_reducible apply tv_and); walk_at "TV"; intro _; walk_at "TV") | ((with_reducible apply tv_or); walk_at "TV"; intro _; walk_at "TV") | ((with_reducible apply tv_not); walk_at "TV") | ((with_reducible apply tv_B); walk_at "EV") | ((with_reducible apply tv_T); walk_at "EV"))
local macro_rules | `(tactic| walk_at "NX") => `(tactic| ((try dsimp only); (try with_reducible apply s_next); (try dsimp only); (try with_reducible apply s_seq)))

theorem lc_te {te' te : TE} {g : TG} {tt : TT} {vs : List Nat} {s : L2.St} {H : Hp} {Q : VK} (h : te' s H fun v H1 => tLc (iRng1 (tCons (tC v) tNil)) g tt te vs s H1 Q) : tLc (iRng1 (tCons te' tNil)) g tt te vs s H Q := h
theorem cb_go {r : List V → Hp → VK → Prop} {te : TE} {s : L2.St} {H : Hp} {Q : VK} (h : te s H fun v H1 => r [v] H1 Q) : tCB r (tCons te tNil) s H Q := h
/-- n things, one by one, each by the state -/
theorem lc_st {K : PySem.W.Frag} {s : L2.St} {H : Hp} {n : Nat} {te : TE} {a : Addr} {t : Int} {j : Nat} {Q : VK} (G : D → Prop) (hG : ∀ d, G d → noL d = true) (hn : n ≤ 100) (st : StA H a t)
    (hs : ∀ (i : Nat) (Hc : Hp) (tc : Int), i < n → But a H Hc → StA Hc a tc → tc ≤ t + 100 * (n : Int) → ∀ R : VK, (∀ u d H', But a Hc H' → StA H' a (tc + 100) → G d → Dp K H' u d → R u H') → te ((wipe s [j]).set j (some (.int (0 + (i : Nat))))) Hc R)
    (k : ∀ p ds H', But a H H' → StA H' a (t + 100 * (n : Int)) → ds.length = n → (∀ d ∈ ds, G d) → Dp K H' (.ref p) (.list ds) → Q (.ref p) H') :
    tLc (iRng1 (tCons (tC (.int ((n : Nat) : Int))) tNil)) (gName j) tYes te [j] s H Q := by
  refine ⟨(n : Nat), rfl, by omega, by omega, ?_⟩
  intro L hL
  have hLa : L ≠ a := st.ne hL
  rw [show ((n : Nat) : Int).toNat = n from Int.toNat_natCast n]
  refine lc_it walk_range (fun i Hc => ∃ (acc : List V) (ds : List D), Hc L = some (.lst acc) ∧ DpAll K Hc acc ds ∧ ds.length = i ∧ (∀ d ∈ ds, G d) ∧ But a H Hc ∧ StA Hc a (t + 100 * (i : Int))) ⟨[], [], upd_same, .nil, rfl, fun d hd => absurd hd List.not_mem_nil, but_mut (But.refl H) hL, by simpa using st.mut hLa⟩ (fun _ _ _ _ => trivial) (fun i x Ha Hb hi q y => ?_) fun H3 q => ?_
  · obtain ⟨acc, ds, q1, q2, q3, q4, q5, q6⟩ := q
    obtain ⟨rfl, rfl⟩ := y
    refine ⟨wipe1, s_yes ?_⟩
    refine hs i _ _ hi q5 q6 (by omega) _ fun u d H' b st' hd du => ?_
    have hL' := b L _ hLa q1
    have g2 : ∀ x ∈ ds ++ [d], G x := fun x hx => by
      rcases List.mem_append.mp hx with h | h
      · exact q4 x h
      · rw [List.mem_singleton.mp h]; exact hd
    have nls : noLs (ds ++ [d]) = true := noLs_all fun x hx => hG x (g2 x hx)
    exact ⟨acc, hL', by rw [dps_len q2, q3]; exact Nat.lt_of_lt_of_le (by omega : i < 1000) (by decide), acc ++ [u], ds ++ [d], upd_same, dps_mutL hL' nls (dps_app ((q6.pr b).dps q2) (.cons du .nil)), by rw [List.length_append, q3]; rfl, g2, but_mut (q5.trans b) hL, (st'.mut hLa).mono (by rw [Int.natCast_add]; omega)⟩
  · obtain ⟨acc, ds, q1, q2, q3, q4, q5, q6⟩ := q
    exact k L ds H3 q5 q6 q3 q4 (.lst (SqL.of q1) q2)
def isPrice (d : D) : Prop := ∃ r : Int, d = .int r ∧ 0 ≤ r ∧ r ≤ 9
def isName (d : D) : Prop := ∃ z : Str, d = .str z ∧ nameS z = true
theorem prices_of {ds : List D} (h : ds.length = 6) (g : ∀ d ∈ ds, isPrice d) : ∃ p : PP, ds = p.l ∧ needPr p.l = none := by
  match ds, h, g with
  | [d0, d1, d2, d3, d4, d5], _, g =>
    obtain ⟨i0, rfl, a0, b0⟩ := g d0 (by simp)
    obtain ⟨i1, rfl, a1, b1⟩ := g d1 (by simp)
    obtain ⟨i2, rfl, a2, b2⟩ := g d2 (by simp)
    obtain ⟨i3, rfl, a3, b3⟩ := g d3 (by simp)
    obtain ⟨i4, rfl, a4, b4⟩ := g d4 (by simp)
    obtain ⟨i5, rfl, a5, b5⟩ := g d5 (by simp)
    refine ⟨⟨i0, i1, i2, i3, i4, i5⟩, rfl, ?_⟩
    unfold needPr
    have z : ∀ i : Int, 0 ≤ i → i ≤ 9 → priceB (.int i) = true := fun i a b => by
      show (decide (0 ≤ i) && decide (i ≤ 9)) = true
      rw [decide_eq_true a, decide_eq_true b]
      rfl
    rw [if_pos (show decide ((⟨i0, i1, i2, i3, i4, i5⟩ : PP).l.length = 6) = true from rfl), fb_none.mpr]
    · rfl
    · show (priceB (.int i0) && (priceB (.int i1) && (priceB (.int i2) && (priceB (.int i3) && (priceB (.int i4) && (priceB (.int i5) && true)))))) = true
      rw [z i0 a0 b0, z i1 a1 b1, z i2 a2 b2, z i3 a3 b3, z i4 a4 b4, z i5 a5 b5]
      rfl
theorem names_of : ∀ {ds : List D}, (∀ d ∈ ds, isName d) → ∃ ws : List Str, ds = ws.map .str ∧ ∀ w ∈ ws, nameS w = true
  | [], _ => ⟨[], rfl, fun w h => absurd h List.not_mem_nil⟩
  | d :: ds, h => by
    obtain ⟨z, rfl, hz⟩ := h d List.mem_cons_self
    obtain ⟨ws, rfl, hw⟩ := names_of (ds := ds) fun e he => h e (List.mem_cons_of_mem _ he)
    refine ⟨z :: ws, rfl, fun w hm => ?_⟩
    rcases List.mem_cons.mp hm with rfl | hm
    · exact hz
    · exact hw w hm
section
variable {K : PySem.W.Frag} {s : L2.St} {H : Hp}
/-- tuple([say(state) for j in range(1 + digit(state, 6))]) -/
theorem says_go {a : Addr} {t : Int} {Q : VK} (h0 : s[3]? = some (some (.ref a))) (h1 : ∀ x, ((wipe s [9]).set 9 x)[3]? = some (some (.ref a))) (st : StA H a t) (ht : t ≤ 100000)
    (k : ∀ u ws H', But a H H' → StA H' a (t + 700) → okW ws → 1 ≤ ws.length → Dp K H' u (wordsD ws) → Q u H') :
    tCB (rTupOf K) (tCons (tLc (iRng1 (tCons (tOp (rAddU K) (tC (.int 1)) (tCall (spDigit K) [] E0 (tCons (tVar 3) (tCons (tC (.int 6)) tNil)))) tNil)) (gName 9) tYes (tCall (spSay K) [] E0 (tCons (tVar 3) tNil)) [9]) tNil) s H Q := by
  refine cb_go (lc_te (op_go ?_))
  show tCall (spDigit K) [] E0 (tCons (tVar 3) (tCons (tC (.int 6)) tNil)) s H _
  refine ev_dig (K := K) (i := 3) (a := a) (m := 6) h0 ev_int (by decide) (by decide) st (by omega) fun r H1 r0 r1 b1 st1 => ?_
  refine .inl ⟨1, r, rfl, rfl, ?_⟩
  obtain ⟨n, hn⟩ : ∃ n : Nat, (n : Int) = 1 + r := ⟨(1 + r).toNat, by omega⟩
  dsimp only
  rw [← hn]
  refine lc_st (K := K) isName (fun d ⟨z, e, _⟩ => by rw [e]; rfl) (by omega) st1 (fun i Hc tc hi b c0 c1 R hR => ?_) fun p ds H2 b2 st2 ld gd dd => ?_
  · exact ⟨.ref a, h1 _, a, tc, rfl, c0, by omega, fun z H' hz b' st' => hR _ (.str z) H' b' st' ⟨z, rfl, hz⟩ (.str z)⟩
  · obtain ⟨ws, rfl, hw⟩ := names_of gd
    rw [List.length_map] at ld
    exact rc_tupL (K := K) (H := H2) H2 [.ref p] (Pr.refl _) (.cons dd .nil) _ fun u H3 e3 du => k u ws H3 ((b1.trans b2).s e3) ((st2.same e3).mono (by omega)) ⟨by omega, hw⟩ (by omega) du
end
section
variable {P : Program} {w : World} {K : PySem.W.Frag} {mg : Str → Option Value} {base : Heap}
abbrev s_law : Stmt := topS 66
abbrev N_law : List Str := ["_law_script", "_law_k", "_law_cell", "_law_state", "_law_top", "_law_prices", "_law_one", "_law_any_one", "_law_other_here", "_law_j"]
theorem sc_law : FnScope N_law ["_law_script"] (defScope s_law) := ⟨rfl, rfl, rfl, by decide +kernel, rfl, by decide +kernel, by decide +kernel⟩
def spLaw (K : PySem.W.Frag) : Sp := fun vs H Q _ => ∃ (a : Addr) (ns : List Int), vs = [.ref a] ∧ SqL K H a (ns.map V.int) ∧ ns.length ≤ 100 ∧ ∀ H', Q (.bl true) H'
theorem dps_intM {H : Hp} : ∀ {ns : List Int}, DpAll K H (ns.map V.int) (ns.map PyData.int)
  | [] => .nil
  | n :: ns => .cons (.int n) dps_intM
theorem c_law (T : Txt w K mg) {f : Addr} {fd : FuncData} (F : Fun K "law" "law" s_law f fd) (G_L_draw : KCal P w K mg base CX0 1 "_law_draw" ["_law_cell", "_law_k"] (spDraw K)) (G_L_digit : KCal P w K mg base CX0 2 "_law_digit" ["_law_state", "_law_many"] (spDigit K)) (G_L_say : KCal P w K mg base CX0 3 "_law_say" ["_law_state"] (spSay K))
    (G_L_message : KCal P w K mg base CX0 4 "_law_message" ["_law_state", "_law_first", "_law_most"] (spMessage K)) (G_L_right : KCalG P w K mg base CX0 7 "_law_right" ["_law_state", "_law_prices", "_law_one", "_law_other_here"] (spRight K)) :
    FnG P w K mg base CX0 8 f fd ["_law_script"] (spLaw K) := by
  refine okG F sc_law (fun vs H Q E h => by obtain ⟨_, _, rfl, _⟩ := h; rfl) (fun cdv A outer s H vs Q E hr hG h => ?_)
  have hu := hr.units
  refine ⟨_, (pss_cons (ps_for PassesOwn.never rfl (pi_enumU (by rfl) T.n_enumerate (pa_cons (pe_op (show OpR _ _ (rAddU K) from opAddU) (pe_slice (show SlR _ (rSlU K) from slU) (pv 0) po_none (po_some pe_int)) (pe_lst (pa_cons (pe_callB (cr_sum rfl) (by rfl) T.n_sum (by decide +kernel) (pa_cons (pv 0) pa_nil)) pa_nil))) pa_nil)) (pg_tup rfl (pgs_cons (pg_name (i := 1) sc_law.nd rfl (Or.inl rfl)) (pgs_cons (pg_name (i := 2) sc_law.nd rfl (Or.inl rfl)) pgs_nil)))
  (pss_cons (ps_set (i := 3) sc_law.nd rfl (Or.inr rfl) (pc0 G_L_draw hr (by decide) (by rfl) (pa_cons (pv 2) (pa_cons (pv 1) pa_nil))))
  (pss_cons (ps_set (i := 4) sc_law.nd rfl (Or.inr rfl) (pe_ix (show IxR _ (rIx K) from ix_seq) (pe_lst (pa_cons pe_int (pa_cons pe_int (pa_cons pe_int pa_nil)))) (pc0 G_L_digit hr (by decide) (by rfl) (pa_cons (pv 3) (pa_cons pe_int pa_nil))) (fun _ _ => rfl)))
  (pss_cons (ps_set (i := 5) sc_law.nd rfl (Or.inl rfl) (pe_callTy (show CallR _ _ (rTupOf K) from call_tuple_of) (by rfl) T.n_tuple (by decide +kernel) (pa_cons (pe_lc (own := [("_law_j", 9)]) rfl sc_law.nd (pi_range1 (by rfl) T.n_range (pa_cons pe_int pa_nil)) (blkOk_by (N := N_law) (sc := defScope s_law) (by decide +kernel)) (fun _ _ _ _ _ => (pg_name (i := 9) sc_law.nd rfl (Or.inl rfl))) (fun _ _ _ _ _ => pts_nil) (fun _ _ _ _ _ => (pc0 G_L_digit hr (by decide) (by rfl) (pa_cons (pv 3) (pa_cons (pv 4) pa_nil))))) pa_nil)))
  (pss_cons (ps_set (i := 6) sc_law.nd rfl (Or.inl rfl) (pc0 G_L_message hr (by decide) (by rfl) (pa_cons (pv 3) (pa_cons (pe_callTy (show CallR _ _ (rTupOf K) from call_tuple_of) (by rfl) T.n_tuple (by decide +kernel) (pa_cons (pe_lc (own := [("_law_j", 9)]) rfl sc_law.nd (pi_range1 (by rfl) T.n_range (pa_cons (pe_op (show OpR _ _ (rAddU K) from opAddU) pe_int (pc0 G_L_digit hr (by decide) (by rfl) (pa_cons (pv 3) (pa_cons pe_int pa_nil)))) pa_nil)) (blkOk_by (N := N_law) (sc := defScope s_law) (by decide +kernel)) (fun _ _ _ _ _ => (pg_name (i := 9) sc_law.nd rfl (Or.inl rfl))) (fun _ _ _ _ _ => pts_nil) (fun _ _ _ _ _ => (pc0 G_L_say hr (by decide) (by rfl) (pa_cons (pv 3) pa_nil)))) pa_nil)) (pa_cons pe_int pa_nil)))))
  (pss_cons (ps_set (i := 7) sc_law.nd rfl (Or.inl rfl) (pe_callTy (show CallR _ _ (rTupOf K) from call_tuple_of) (by rfl) T.n_tuple (by decide +kernel) (pa_cons (pe_lc (own := [("_law_j", 9)]) rfl sc_law.nd (pi_range1 (by rfl) T.n_range (pa_cons (pe_op (show OpR _ _ (rAddU K) from opAddU) pe_int (pc0 G_L_digit hr (by decide) (by rfl) (pa_cons (pv 3) (pa_cons pe_int pa_nil)))) pa_nil)) (blkOk_by (N := N_law) (sc := defScope s_law) (by decide +kernel)) (fun _ _ _ _ _ => (pg_name (i := 9) sc_law.nd rfl (Or.inl rfl))) (fun _ _ _ _ _ => pts_nil) (fun _ _ _ _ _ => (pc0 G_L_say hr (by decide) (by rfl) (pa_cons (pv 3) pa_nil)))) pa_nil)))
  (pss_cons (ps_set (i := 8) sc_law.nd rfl (Or.inl rfl) (pc0 G_L_message hr (by decide) (by rfl) (pa_cons (pv 3) (pa_cons (pe_ix (show IxR _ (rIx K) from ix_seq) (pe_lst (pa_cons (pv 6) (pa_cons (pv 7) pa_nil))) (pc0 G_L_digit hr (by decide) (by rfl) (pa_cons (pv 3) (pa_cons pe_int pa_nil))) (fun _ _ => rfl)) (pa_cons pe_int pa_nil)))))
  (pss_one (ps_if (pt_not (pt_val (pcG G_L_right hG hr (by decide) (by rfl) (pa_cons (pv 3) (pa_cons (pv 5) (pa_cons (pv 6) (pa_cons (pv 8) pa_nil))))))) (pss_one (ps_ret pe_bl)) pss_nil)))))))))
  (pss_one (ps_ret pe_bl))), ?_⟩
  obtain ⟨a0, ns, rfl, hq, hn, k⟩ := h
  have hx : Dp K H (.ref a0) (.list (ns.map .int)) := .lst hq dps_intM
  walk_at "NX"
  have lc4 := cutD_len (xs := ns.map PyData.int) (lo := none) (hi := some 4)
  have e4 : cutD (ns.map PyData.int) none (some 4) = (ns.take 4).map .int := by rw [cutD_map, cut_to (by omega)]; rfl
  rw [List.length_map] at lc4
  obtain ⟨cs, hcs⟩ : ∃ cs : List Int, cs = ns.take 4 ++ [ns.sum] := ⟨_, rfl⟩
  have lcs : cs.length ≤ 5 := by rw [hcs, List.length_append, List.length_take]; show _ + 1 ≤ _; omega
  refine s_for (K := K) (d := .list (cs.map .int)) (ds := enumD (cs.map .int)) (yd_enum (av_cons (ev_is (ev_op (ev_is (d := .list (cutD (ns.map PyData.int) none (some 4))) (by walk_at "EV") (by rw [e4])) (ev_lst (av_cons (ev_cb (av_cons (ev_var ⟨_, rfl, hx⟩) av_nil) rc_sum) av_nil) (by show 1 ≤ 100000; decide)) (rd_addL (by rw [List.length_map, List.length_take]; show _ + 1 ≤ _; omega))) (by rw [hcs, List.map_append]; rfl)) av_nil) (.inl rfl)) fun H2 w2 e2 dw2 => ⟨fun i σ Hc => ∃ o1 o2 o3 o4 o5 o6 o7 o8 o9, σ = [some (.ref a0), o1, o2, o3, o4, o5, o6, o7, o8, o9] ∧ Dp K Hc w2 (.list (cs.map .int)), ?_, ?_, ?_, ?_, ?_⟩
  · rintro i σ Ha Hb sm ⟨o1, o2, o3, o4, o5, o6, o7, o8, o9, rfl, q⟩
    exact ⟨o1, o2, o3, o4, o5, o6, o7, o8, o9, rfl, dp_same sm q⟩
  · rintro i σ Ha ⟨o1, o2, o3, o4, o5, o6, o7, o8, o9, rfl, q⟩
    exact q
  · exact ⟨_, _, _, _, _, _, _, _, _, rfl, dw2⟩
  · rintro i e v σ Hc he ⟨o1, o2, o3, o4, o5, o6, o7, o8, o9, rfl, q⟩ dv
    obtain ⟨d', hd', rfl⟩ := enumD_of he
    obtain ⟨c, _, rfl⟩ := List.mem_map.mp (List.mem_of_getElem? hd')
    have hi : i < 5 := by
      have := (List.getElem?_eq_some_iff.mp hd').1
      rw [List.length_map] at this
      omega
    refine g_pair (K := K) dv fun vi vc di dc => ?_
    obtain rfl := dp_int di
    obtain rfl := dp_int dc
    walk_at "NX"
    refine asg_go ⟨.int c, rfl, .int (i : Nat), rfl, c, (i : Nat), rfl, by omega, by omega, fun a H3 e3 na st3 => ?_⟩
    refine gname_go ?_
    walk_at "NX"
    refine asg_go (op_go (Ev.go (K := K) (c := .list [.int 2, .int 4, .int 10]) (ev_lst (by walk_at "AV") (by show 3 ≤ 100000; decide)) fun v4 H4 e4 d4 => ?_))
    refine ev_dig (K := K) (i := 3) (a := a) (m := 3) rfl ev_int (by decide) (by decide) (st3.same e4) (by omega) fun r H5 r0 r1 b5 st5 => ?_
    obtain ⟨pl, xl, rfl, sql, dxl⟩ := dp_lst (((st3.same e4).pr (K := K) b5).dp d4)
    obtain ⟨um, hm1, hm2⟩ := atI_nat (xs := xl) (r := r) r0 (by rw [dps_len dxl]; exact r1)
    obtain ⟨dm, hd1, hd2⟩ := dps_mem dxl hm2
    obtain ⟨m, rfl, m0, m1⟩ : ∃ m : Int, dm = .int m ∧ 1 ≤ m ∧ m ≤ 10 := by
      simp only [List.mem_cons, List.not_mem_nil, or_false] at hd1
      rcases hd1 with rfl | rfl | rfl
      · exact ⟨2, rfl, by decide, by decide⟩
      · exact ⟨4, rfl, by decide, by decide⟩
      · exact ⟨10, rfl, by decide, by decide⟩
    obtain rfl := dp_int hd2
    refine .inl ⟨pl, xl, r, .int m, rfl, rfl, sql, hm1, ?_⟩
    refine gname_go ?_
    walk_at "NX"
    have b35 : But a H3 H5 := (But.of e4).trans b5
    refine asg_go (cb_go ?_)
    refine lc_st (K := K) (n := 6) (a := a) isPrice (fun d ⟨z, e, _⟩ => by rw [e]; rfl) (by decide) st5 (fun j Hj tc hj b c0 c1 R hR => ?_) fun p ds H6 b6 st6 ld gd dd => ?_
    · exact ev_dig (K := K) (i := 3) (a := a) (m := m) rfl (ev_var ⟨_, rfl, .int m⟩) m0 (by omega) c0 (by omega) fun r' H' r0' r1' b' st' => hR _ (.int r') H' b' (st'.mono (by omega)) ⟨r', rfl, r0', by omega⟩ (.int r')
    obtain ⟨pp, rfl, hpp⟩ := prices_of ld gd
    refine rc_tupL (K := K) (H := H6) H6 [.ref p] (Pr.refl _) (.cons dd .nil) _ fun v7 H7 e7 d7 => ?_
    have b37 : But a H3 H7 := (b35.trans b6).s e7
    have st7 := st6.same e7
    refine gname_go ?_
    walk_at "NX"
    refine asg_go ⟨.ref a, rfl, says_go (K := K) (a := a) rfl (fun x => rfl) st7 (by omega) fun u1 ws1 H8 b8 st8 ok1 n1 du1 => ?_⟩
    show spMessage K [.ref a, u1, .int 6] H8 _ E0
    refine ⟨a, u1, _, ws1, rfl, .inr du1, st8, by omega, ok1, n1, fun u6 one H9 g1 h1 b9 st9 d6 => ?_⟩
    refine gname_go ?_
    walk_at "NX"
    refine asg_go (says_go (K := K) (a := a) rfl (fun x => rfl) st9 (by omega) fun u7 ws2 H10 b10 st10 ok2 n2 du7 => ?_)
    refine gname_go ?_
    walk_at "NX"
    have d6' := (st9.pr (K := K) b10).dp d6
    refine asg_go ⟨.ref a, rfl, op_go (Ev.go (K := K) (c := .list [wordsD one, wordsD ws2]) (ev_lst (av_cons (ev_var ⟨_, rfl, d6'⟩) (av_cons (ev_var ⟨_, rfl, du7⟩) av_nil)) (by show 2 ≤ 100000; decide)) fun v8 H11 e11 d8 => ?_)⟩
    refine ev_dig (K := K) (i := 3) (a := a) (m := 2) rfl ev_int (by decide) (by decide) (st10.same e11) (by omega) fun r' H12 r0' r1' b12 st12 => ?_
    obtain ⟨pl2, xl2, rfl, sql2, dxl2⟩ := dp_lst (((st10.same e11).pr (K := K) b12).dp d8)
    obtain ⟨um2, hm3, hm4⟩ := atI_nat (xs := xl2) (r := r') r0' (by rw [dps_len dxl2]; exact r1')
    obtain ⟨dm2, hd3, hd4⟩ := dps_mem dxl2 hm4
    obtain ⟨ws3, rfl, ok3, n3⟩ : ∃ ws, dm2 = wordsD ws ∧ okW ws ∧ 1 ≤ ws.length := by
      simp only [List.mem_cons, List.not_mem_nil, or_false] at hd3
      rcases hd3 with rfl | rfl
      · exact ⟨one, rfl, g1, h1⟩
      · exact ⟨ws2, rfl, ok2, n2⟩
    refine .inl ⟨pl2, xl2, r', um2, rfl, rfl, sql2, hm3, ?_⟩
    show spMessage K [.ref a, um2, .int 6] H12 _ E0
    refine ⟨a, um2, _, ws3, rfl, .inr hd4, st12, by omega, ok3, n3, fun u8 other H13 g2 h2 b13 st13 d8' => ?_⟩
    refine gname_go ?_
    walk_at "NX"
    have b9c : But a H9 H13 := (((b10.s e11).trans b12).trans b13)
    have b7c : But a H7 H13 := (b8.trans b9).trans b9c
    have b3c : But a H3 H13 := b37.trans b7c
    refine ⟨.ref a, rfl, v7, rfl, u6, rfl, u8, rfl, a, v7, u6, u8, _, pp, one, other, rfl, (st7.pr b7c).dp d7, (st9.pr b9c).dp d6, d8', st13, by omega, hpp, g1, h1, g2, h2, fun H14 b14 => ⟨true, rfl, ?_⟩⟩
    dsimp only
    rw [if_neg (by decide)]
    exact ⟨_, _, _, _, _, _, _, _, _, rfl, (st3.pr (b3c.trans b14)).dp (dp_same e3 q)⟩
  · rintro σ Hc ⟨o1, o2, o3, o4, o5, o6, o7, o8, o9, rfl, q⟩
    try dsimp only
    refine s_ret (K := K) ev_bl fun u H9 e9 du => ?_
    rw [dp_bool du]
    exact k H9
end
end K5
set_option Elab.async false
set_option linter.all false
set_option maxRecDepth 100000
set_option maxHeartbeats 4000000
/-! The end: what the written part says, put together. -/
namespace K5
open PySem L2 PySem.Spec PyProof.Rows
/-- the law's promise, at the heap behind the top; the caller holds no guard -/
theorem law_callG {P : Program} {w : World} {K : PySem.W.Frag} {mg mb : Str → Option Value} {CX : CXT} {k : Nat} {fa a : Addr} {fd : FuncData} {x : Str} {sp : Sp} {s₁ : Shared} {vs : List Value} {ns : List Int}
    (KX : K.In s₁.heap) (hns : s₁.heap.Ns mainGlobals mg) (hb : s₁.heap.Ns builtinsNs mb) (hbb : ∀ x : Str, x ≠ "__name__" → mb x = bootBuiltins x) (hlim : s₁.heap.NoLimit) (hg : s₁.gens = #[])
    (ha : s₁.heap.get? a = some { cls := .type "list", data := .seq vs.toArray }) (hi : IntsAre vs ns) (hl : ns.length ≤ sizeLine) (hr : Room k callerA)
    (F : ∀ base : Heap, K.In base → base.Ns mainGlobals mg → FnG P w K mg base CX k fa fd [x] sp) (hbind : ∀ (s : Shared) (u : Value), BindsTo s fd ⟨[u], []⟩ [(x, u)])
    (hsp : ∀ H : Hp, Only H → SqL K H a (ns.map V.int) → sp [.ref a] H (fun v _ => v = .bl true) fun _ _ _ => False)
    (hCX : ∀ H e s', CX [] H s₁ (fun _ _ _ => False) e s' → False) :
    codeAny (model P w) callerA (.call (.ref fa) ⟨[.ref a], []⟩) (fun r s' => r = .ok (.ret (.bool true)) ∧ PySem.OldK s₁.heap s'.heap ∧ s'.os = s₁.os ∧ AllBare s'.gens) s₁ := by
  have rv := vals_ints hi
  have lenV := hi.length
  have core : ∀ H : Hp, Only H → SqL K H a (ns.map V.int) → HOk P w H s₁.heap → (∀ b, H b ≠ none → b = a) → (H a ≠ none → K.lookup a = none) →
      codeAny (model P w) callerA (.call (.ref fa) ⟨[.ref a], []⟩) (fun r s' => r = .ok (.ret (.bool true)) ∧ PySem.OldK s₁.heap s'.heap ∧ s'.os = s₁.os ∧ AllBare s'.gens) s₁ := by
    intro H hO hS hok hA hK
    have base_of : ∀ {b : Addr} {o : Obj}, s₁.heap.get? b = some o → H b = none → (hidT s₁.heap H).get? b = some o := fun e n => hidT_get e n
    have noA : ∀ {b : Addr} {o : Obj} {es : Array DictEntry} {ep : Nat}, s₁.heap.get? b = some o → o.data = .dict es ep → H b = none := fun {b o es ep} e d => by
      cases q : H b with
      | none => rfl
      | some u =>
        have e' : b = a := hA b (by rw [q]; simp)
        subst e'
        rw [ha] at e; cases e
        have d' : Data.seq vs.toArray _ = Data.dict es ep := d
        cases d'
    have nsK : ∀ {b : Addr} {m : Str → Option Value}, s₁.heap.Ns b m → (hidT s₁.heap H).Ns b m := fun {b m} ⟨o, es, ep, e, d, r⟩ => ⟨o, es, ep, base_of e (noA e d), d, r⟩
    have hKb : K.In (hidT s₁.heap H) := fun b o e => base_of (KX b o e) (by
      cases q : H b with
      | none => rfl
      | some u =>
        have e' : b = a := hA b (by rw [q]; simp)
        subst e'
        rw [hK (by rw [q]; simp)] at e; cases e)
    have hM : Mod K mg (hidT s₁.heap H) := ⟨hKb, nsK hns, ⟨mb, nsK hb, hbb⟩, let ⟨mc, h1, h2⟩ := hlim; ⟨mc, nsK h1, h2⟩⟩
    have e0 : Env0 P w K mg (hidT s₁.heap H) callerA [] s₁ H := ⟨rfl, hM, fun b o e => of_hidT e, Nat.le_of_eq (hidT_size _ _), trivial, fun b hb => absurd (show b ∈ ([] : List Addr) from hb) (by simp), hok, .of_eq hg⟩
    refine codeAny_mono ((F _ hKb (nsK hns)).run callerA [] s₁ H ⟨[.ref a], []⟩ [.ref a] [.ref a] _ _ hr rfl e0 (hbind s₁ (.ref a)) (.cons rfl .nil) (hsp H hO hS)) fun r s' h => ?_
    cases r with
    | error e => exact (hCX H e s' h).elim
    | ok fl =>
      cases fl with
      | next => exact False.elim h
      | brk => exact False.elim h
      | cont => exact False.elim h
      | ret u =>
        obtain ⟨v, H', os, bare, un, hok', r', q⟩ := h
        have q' : v = .bl true := q
        subst q'
        obtain rfl : u = Value.bool true := r'
        refine ⟨rfl, PySem.OldK.of_keep fun b o e => ?_, os, bare⟩
        cases q : H b with
        | none => exact un.keep b o e q (by intro z; exact absurd (show b ∈ ([] : List Addr) from z) (by simp)) (by simp)
        | some u =>
          rcases hO b with z | ⟨ob, xs, z⟩
          · rw [q] at z; cases z
          · have z2 := un.frzs b ob _ z
            obtain ⟨e1, _⟩ := hok b _ z
            obtain ⟨e2, _⟩ := hok' b _ z2
            rw [e] at e1; cases e1
            exact e2
  cases hk : K.lookup a with
  | some o =>
    have e := KX a o hk
    rw [ha] at e
    cases e
    refine core (fun _ => none) (fun _ => .inl rfl) (.inr ⟨_, vs.toArray, _, hk, rfl, rfl, rfl, by rw [List.size_toArray, lenV]; exact hl, by simpa using rv⟩) (fun b u z => by have z' : (none : Option HO) = some u := z; cases z') (fun b z => absurd rfl z) fun z => absurd rfl z
  | none =>
    refine core (fun b => if b = a then some (.frz { cls := .type "list", data := .seq vs.toArray } (.lst (ns.map V.int))) else none) (fun b => ?_) (.inl (.inr ⟨{ cls := .type "list", data := .seq vs.toArray }, if_pos rfl⟩)) (fun b u z => ?_) (fun b z => ?_) fun _ => hk
    · by_cases hb : b = a
      · exact .inr ⟨_, _, if_pos hb⟩
      · exact .inl (if_neg hb)
    · by_cases hb : b = a
      · have z' := (if_pos hb).symm.trans z
        cases z'
        subst hb
        exact ⟨ha, by rw [List.length_map]; exact hl, vs, _, rv, ha⟩
      · have z' := (if_neg hb).symm.trans z
        cases z'
    · by_cases hb : b = a
      · exact hb
      · exact absurd (if_neg hb) z
theorem walk_ofG {l : PySem.W.OpenLaw} {n k : Nat} {q : Program} {loose : List Str} {XP : (Str → Option Value) → Heap → Prop} {YP : World → Heap → Prop} {d : PySem.DefRec} {K : Params → PySem.W.Frag} {CX : World → CXT} {sp : World → Sp} {x : Str}
    (hn : l.most = some n) (hn2 : n ≤ sizeLine) (hdf : d.params.defaults = []) (hr : Room k callerA)
    (hY : ∀ (w : World) (h : Heap), YP w h → (K w.params).In h)
    (F : ∀ (w : World) (mg : Str → Option Value) (fa : Addr) (h : Heap), (K w.params).In h → h.Ns mainGlobals mg → mg d.name = some (.ref fa) →
      ∃ fd : FuncData, (∀ (s : Shared) (u : Value), BindsTo s fd ⟨[u], []⟩ [(x, u)]) ∧
        ∀ base : Heap, (K w.params).In base → base.Ns mainGlobals mg → FnG l.prog w (K w.params) mg base (CX w) k fa fd [x] (sp w))
    (hsp : ∀ (w : World) (H : Hp) (a : Addr) (ns : List Int), ns.length ≤ n → Only H → SqL (K w.params) H a (ns.map V.int) → sp w [.ref a] H (fun v _ => v = .bl true) fun _ _ _ => False)
    (hCX : ∀ (w : World) (H : Hp) (s : Shared) (e : Value) (s' : Shared), CX w [] H s (fun _ _ _ => False) e s' → False) :
    PySem.W.WalkO q loose XP YP l.row.toRowW d [] (fun f vs => PySem.call f vs) := by
  refine Att.attach_call hn hdf fun w s₀ s₁ mg mb fa o pm cd doc a vs ns G Y ho hd hcd hmg hobj hints hlen hg => ?_
  have KX := hY w _ Y
  obtain ⟨fd, hb, hF⟩ := F w mg fa _ KX G.T.g hmg
  exact law_callG KX G.T.g G.T.b G.T.builtins G.T.nolimit hg hobj hints (Nat.le_trans hlen hn2) hr hF hb (fun H hO hS => hsp w H a ns hlen hO hS) fun H e s' => hCX w H s₁ e s'
/-! ### facts -/
section
variable {w : World} {K : PySem.W.Frag} {h : Heap} {mg : Str → Option Value} {x : Str}
theorem defAt_of {st : Stmt} {f : Addr} {oc kV doc pm cdv ct : Value} {od an : Option Addr} {osl : Array (Option Value)} (X : K.In h) (G : h.Ns mainGlobals mg) (a : PySem.W.nsIn K mainGlobals x = some (some (.ref f)))
    (l : K.lookup f = some ⟨oc, od, .func (PySem.W.fnOf x x (defArgs st) (defBody st) (defScope st) .none kV doc pm an cdv ct), osl⟩) (c : PySem.W.codeIn K cdv x = true) (k : PySem.W.keepIn K (.ref f) = true) : DefAt K mg x st :=
  ⟨f, _, PySem.W.mg_of X G a, fun_mk l c k⟩
theorem gl_str {z : Str} {t : Tok} (X : K.In h) (G : h.Ns mainGlobals mg) (a : PySem.W.nsIn K mainGlobals x = some (some (.str z t))) : ∃ u, mg x = some u ∧ RelV (.str z) u := ⟨_, PySem.W.mg_of X G a, _, rfl⟩
theorem gl_int {i : Int} {t : Tok} (X : K.In h) (G : h.Ns mainGlobals mg) (a : PySem.W.nsIn K mainGlobals x = some (some (.int i t))) : ∃ u, mg x = some u ∧ RelV (.int i) u := ⟨_, PySem.W.mg_of X G a, _, rfl⟩
theorem kd_dct {p : Addr} {es : Array DictEntry} {n : Nat} {i : Int} {t : Tok} (l : K.lookup p = some ⟨.type "dict", none, .dict es n, #[]⟩) (k : PySem.W.KeysLit w.params es.toList) (a : PySem.W.nsIn K p x = some (some (.int i t))) : KDct K w p x (.int i) :=
  ⟨es, n, _, l, k, a, _, rfl⟩
theorem oexc_of {C : Addr} {nm q : Str} {N : Addr} {bs bm : List Value} {sn : List Str} {sub : List Value} {ab : Bool} {col : Option Bool} {dd : Option Addr} {k0 k1 k2 k3 k5 : Option Value}
    (l : K.lookup C = some (excClassObj nm q C N bs bm true sn sub ab col dd k0 k1 k2 k3 k5 "ValueError.__new__")) (r : PySem.HandSPX.refsVE bm = true) (sa : PySem.W.findIn K (.ref C) "__setattr__" = some (some (.builtin "object.__setattr__")))
    (exC : PySem.W.subIn K (.ref C) (.type "BaseException") = some true) (tyC : PySem.W.typeIn K (.ref C) = some (.type "type")) (kC : PySem.W.keepIn K (.ref C) = true) : OexC K C :=
  ⟨⟨nm, q, N, bs, bm, sn, sub, ab, col, dd, k0, k1, k2, k3, k5, l, r⟩, sa, exC, tyC, kC⟩
theorem fund_of {qual : Str} {st : Stmt} {f T : Addr} {oc kV doc pm cdv ct c : Value} {od an dd : Option Addr} {osl sl : Array (Option Value)} {n : Nat} (l : K.lookup f = some ⟨oc, od, .func (PySem.W.fnOf x qual (defArgs st) (defBody st) (defScope st) (.ref T) kV doc pm an cdv ct), osl⟩)
    (cd : PySem.W.codeIn K cdv qual = true) (t : K.lookup T = some ⟨c, dd, .seq [Value.none].toArray n, sl⟩) (k : PySem.W.keepIn K (.ref f) = true) : ∃ fd, FunD K x qual (defArgs st) (defBody st) (defScope st) [.non] [] f fd :=
  ⟨_, ⟨oc, od, _, kV, doc, pm, an, cdv, ct, osl, rfl, l, cd, .inr ⟨by simp, T, _, [.none], n, rfl, t, rfl, .cons rfl .nil⟩, .inl rfl⟩, k⟩
theorem kit_ref {A C : Addr} {b : Bool} (d : PySem.W.hasDictIn K C = true) (t : PySem.W.typeIn K (.ref C) = some (.type "type")) (s : PySem.W.subIn K (.ref A) (.ref C) = some b) (n : (A == C && !b) = false) : PySem.W.kitOne K (.ref A) (.ref C) = some b := by
  obtain ⟨cd, hc, _⟩ := PySem.W.any_some d
  unfold PySem.W.kitOne
  cases hq : (Value.ref A == Value.ref C) with
  | true =>
    have e : A = C := Value.ref.inj (beq_iff_eq.mp hq)
    rw [if_pos rfl]
    cases b with
    | true => rfl
    | false =>
      rw [e] at n
      simp at n
  | false =>
    rw [if_neg (by decide)]
    show (if ((PySem.W.clsIn K C).isSome && PySem.W.typeIn K (.ref C) == some (.type "type")) = true then PySem.W.subIn K (.ref A) (.ref C) else none) = some b
    rw [if_pos (by rw [hc, t] <;> rfl)]
    exact s
theorem kit_type {A : Addr} {n : String} {b : Bool} (m : PySem.W.kitMeta n = true) (s : PySem.W.subIn K (.ref A) (.type n) = some b) : PySem.W.kitOne K (.ref A) (.type n) = some b := by
  unfold PySem.W.kitOne
  rw [if_neg (by simp)]
  show (if PySem.W.kitMeta n = true then PySem.W.subIn K (.ref A) (.type n) else none) = some b
  rw [if_pos m]
  exact s
theorem kd_of {CP CM c : Addr} {bp bm : Bool} (X : K.In h) (G : h.Ns mainGlobals mg) (a : PySem.W.nsIn K mainGlobals x = some (some (.ref c))) (d : PySem.W.hasDictIn K c = true) (t : PySem.W.typeIn K (.ref c) = some (.type "type"))
    (sp : PySem.W.subIn K (.ref CP) (.ref c) = some bp) (sm : PySem.W.subIn K (.ref CM) (.ref c) = some bm) (np : (CP == c && !bp) = false) (nm : (CM == c && !bm) = false) : Kd K mg x CP CM bp bm :=
  ⟨c, PySem.W.mg_of X G a, kit_ref d t sp np, kit_ref d t sm nm⟩
end
end K5
set_option Elab.async false
set_option linter.all false
set_option maxRecDepth 100000
set_option maxHeartbeats 4000000
/-! All defs together. -/
namespace K5
open PySem L2 PySem.Spec PyProof.Rows
theorem law_binds {K : PySem.W.Frag} {f : Addr} {fd : FuncData} (F : Fun K "law" "law" s_law f fd) : ∀ (s : Shared) (u : Value), BindsTo s fd ⟨[u], []⟩ [("_law_script", u)] := by
  obtain ⟨oc, od, kV, doc, pm, an, cdv, ct, osl, rfl, lk, hcd⟩ := F.ex
  exact fun s u => .of_eq rfl
theorem walk_law {l : PySem.W.OpenLaw} {q : Program} {loose : List Str} {XP : (Str → Option Value) → Heap → Prop} {YP : World → Heap → Prop} {d : DefRec} {K : Params → PySem.W.Frag}
    (hn : l.most = some 63) (hdf : d.params.defaults = []) (hY : ∀ (w : World) (h : Heap), YP w h → (K w.params).In h)
    (F : ∀ (w : World) (mg : Str → Option Value) (fa : Addr) (h : Heap), (K w.params).In h → h.Ns mainGlobals mg → mg d.name = some (.ref fa) →
      ∃ fd : FuncData, (∀ (s : Shared) (u : Value), BindsTo s fd ⟨[u], []⟩ [("_law_script", u)]) ∧
        ∀ base : Heap, (K w.params).In base → base.Ns mainGlobals mg → FnG l.prog w (K w.params) mg base CX0 8 fa fd ["_law_script"] (spLaw (K w.params))) :
    PySem.W.WalkO q loose XP YP l.row.toRowW d [] (fun f vs => PySem.call f vs) :=
  walk_ofG (n := 63) (k := 8) (x := "_law_script") (CX := fun _ => CX0) (sp := fun w => spLaw (K w.params)) hn (by decide) hdf ⟨rfl, by decide, by decide⟩ hY F (fun w H a ns h1 _ h3 => ⟨a, ns, rfl, h3, Nat.le_trans h1 (by decide), fun _ => rfl⟩) fun _ _ _ _ _ z => z
theorem finish {P : Program} {w : World} {K : PySem.W.Frag} {mg : Str → Option Value} {base : Heap} {CP CM CB : Addr} (T : Txt w K mg)
    (d_is_whole : DefAt K mg "is_whole" s_is_whole)
    (d_is_among : DefAt K mg "is_among" s_is_among)
    (d_is_name : DefAt K mg "is_name" s_is_name)
    (d_cost_rows : DefAt K mg "cost_rows" s_cost_rows)
    (d_steps_back : DefAt K mg "steps_back" s_steps_back)
    (d_own_steps : DefAt K mg "own_steps" s_own_steps)
    (d_is_step : DefAt K mg "is_step" s_is_step)
    (d_can_go : DefAt K mg "can_go" s_can_go)
    (d_are_potentials : DefAt K mg "are_potentials" s_are_potentials)
    (d_limits_at : DefAt K mg "limits_at" s_limits_at)
    (d_all_hold : DefAt K mg "all_hold" s_all_hold)
    (d_L_is_word : DefAt K mg "_law_is_word" s_L_is_word)
    (d_L_are_rows : DefAt K mg "_law_are_rows" s_L_are_rows)
    (d_L_walk : DefAt K mg "_law_walk" s_L_walk)
    (d_L_is_paper : DefAt K mg "_law_is_paper" s_L_is_paper)
    (d_need_message : DefAt K mg "need_message" s_need_message)
    (d_need_prices : DefAt K mg "need_prices" s_need_prices)
    (d_need_pair : DefAt K mg "need_pair" s_need_pair)
    (d_change_paper : DefAt K mg "change_paper" s_change_paper)
    (d_made_by : DefAt K mg "made_by" s_made_by)
    (d_check_change : DefAt K mg "check_change" s_check_change)
    (d_L_mixed : DefAt K mg "_law_mixed" s_L_mixed)
    (d_L_draw : DefAt K mg "_law_draw" s_L_draw)
    (d_L_digit : DefAt K mg "_law_digit" s_L_digit)
    (d_L_say : DefAt K mg "_law_say" s_L_say)
    (d_L_near : DefAt K mg "_law_near" s_L_near)
    (d_L_message : DefAt K mg "_law_message" s_L_message)
    (d_L_bent : DefAt K mg "_law_bent" s_L_bent)
    (d_L_papers : DefAt K mg "_law_papers" s_L_papers)
    (d_L_other : DefAt K mg "_law_other" s_L_other)
    (d_L_slid : DefAt K mg "_law_slid" s_L_slid)
    (d_L_due : DefAt K mg "_law_due" s_L_due)
    (d_L_kinds : DefAt K mg "_law_kinds" s_L_kinds)
    (d_L_told : DefAt K mg "_law_told" s_L_told)
    (d_L_right : DefAt K mg "_law_right" s_L_right)
    (x_BadPrices : XTxt P w K mg base "BadPrices" CP "number") (x_BadMessage : XTxt P w K mg base "BadMessage" CM "number") (x_BadPaper : XTxt P w K mg base "BadPaper" CB "place") (TK : KindTxt K mg CP CM)
    (exB : PySem.W.exmOne K (.ref CB) (.ref CB) = some true) (xPP : PySem.W.exmOne K (.ref CP) (.ref CP) = some true) (xMP : PySem.W.exmOne K (.ref CM) (.ref CP) = some false) (xMM : PySem.W.exmOne K (.ref CM) (.ref CM) = some true)
    {f : Addr} {fd : FuncData} (F : Fun K "law" "law" s_law f fd) : FnG P w K mg base CX0 8 f fd ["_law_script"] (spLaw K) := by
  have g_BadPrices := x_BadPrices.gC
  have g_BadMessage := x_BadMessage.gC
  have g_BadPaper := x_BadPaper.gC
  have G_is_whole := c_is_whole (P := P) (w := w) (K := K) (mg := mg) (base := base) T d_is_whole
  have G_is_among := c_is_among (P := P) (w := w) (K := K) (mg := mg) (base := base) T d_is_among G_is_whole
  have G_is_name := c_is_name (P := P) (w := w) (K := K) (mg := mg) (base := base) T d_is_name
  have G_cost_rows := c_cost_rows (P := P) (w := w) (K := K) (mg := mg) (base := base) T d_cost_rows
  have G_steps_back := c_steps_back (P := P) (w := w) (K := K) (mg := mg) (base := base) T d_steps_back
  have G_own_steps := c_own_steps (P := P) (w := w) (K := K) (mg := mg) (base := base) T d_own_steps G_cost_rows G_steps_back
  have G_is_step := c_is_step (P := P) (w := w) (K := K) (mg := mg) (base := base) T d_is_step G_is_name
  have G_can_go := c_can_go (P := P) (w := w) (K := K) (mg := mg) (base := base) T d_can_go
  have G_are_potentials := c_are_potentials (P := P) (w := w) (K := K) (mg := mg) (base := base) T d_are_potentials G_is_whole
  have G_limits_at := c_limits_at (P := P) (w := w) (K := K) (mg := mg) (base := base) T d_limits_at
  have G_all_hold := c_all_hold (P := P) (w := w) (K := K) (mg := mg) (base := base) T d_all_hold G_limits_at
  have G_L_is_word := c_L_is_word (P := P) (w := w) (K := K) (mg := mg) (base := base) T d_L_is_word
  have G_L_are_rows := c_L_are_rows (P := P) (w := w) (K := K) (mg := mg) (base := base) T d_L_are_rows
  have G_L_walk := c_L_walk (P := P) (w := w) (K := K) (mg := mg) (base := base) T d_L_walk G_L_is_word
  have G_L_is_paper := c_L_is_paper (P := P) (w := w) (K := K) (mg := mg) (base := base) T d_L_is_paper G_L_walk G_L_are_rows
  have G_need_message := c_need_message (P := P) (w := w) (K := K) (mg := mg) (base := base) T d_need_message x_BadMessage G_is_name
  have G_need_prices := c_need_prices (P := P) (w := w) (K := K) (mg := mg) (base := base) T d_need_prices x_BadPrices G_is_among
  have G_need_pair := c_need_pair (P := P) (w := w) (K := K) (mg := mg) (base := base) T d_need_pair G_need_message G_need_prices
  have G_change_paper := c_change_paper (P := P) (w := w) (K := K) (mg := mg) (base := base) T d_change_paper G_need_pair G_own_steps G_cost_rows
  have G_made_by := c_made_by (P := P) (w := w) (K := K) (mg := mg) (base := base) T d_made_by x_BadPaper G_need_message G_need_prices G_is_step G_can_go
  have G_check_change := c_check_change (P := P) (w := w) (K := K) (mg := mg) (base := base) T d_check_change g_BadPaper exB G_need_pair G_made_by G_are_potentials G_all_hold
  have G_L_mixed := c_L_mixed (P := P) (w := w) (K := K) (mg := mg) (base := base) T d_L_mixed
  have G_L_draw := c_L_draw (P := P) (w := w) (K := K) (mg := mg) (base := base) T d_L_draw
  have G_L_digit := c_L_digit (P := P) (w := w) (K := K) (mg := mg) (base := base) T d_L_digit G_L_mixed
  have G_L_say := c_L_say (P := P) (w := w) (K := K) (mg := mg) (base := base) T d_L_say G_L_digit
  have G_L_near := c_L_near (P := P) (w := w) (K := K) (mg := mg) (base := base) T d_L_near G_L_digit
  have G_L_message := c_L_message (P := P) (w := w) (K := K) (mg := mg) (base := base) T d_L_message G_L_digit G_L_say G_L_near
  have G_L_bent := c_L_bent (P := P) (w := w) (K := K) (mg := mg) (base := base) T d_L_bent G_L_digit
  have G_L_papers := c_L_papers (P := P) (w := w) (K := K) (mg := mg) (base := base) T d_L_papers G_L_digit G_L_bent
  have G_L_other := c_L_other (P := P) (w := w) (K := K) (mg := mg) (base := base) T d_L_other G_L_digit
  have G_L_slid := c_L_slid (P := P) (w := w) (K := K) (mg := mg) (base := base) T d_L_slid
  have G_L_due := c_L_due (P := P) (w := w) (K := K) (mg := mg) (base := base) T d_L_due G_L_is_word
  have G_L_kinds := c_L_kinds (P := P) (w := w) (K := K) (mg := mg) (base := base) T d_L_kinds TK
  have G_L_told := c_L_told (P := P) (w := w) (K := K) (mg := mg) (base := base) T d_L_told TK g_BadPrices g_BadMessage xPP xMP xMM G_L_kinds G_change_paper G_check_change
  have G_L_right := c_L_right (P := P) (w := w) (K := K) (mg := mg) (base := base) T d_L_right G_change_paper G_check_change G_L_is_paper G_L_papers G_L_slid G_L_other G_L_digit G_L_due G_L_told
  exact c_law (P := P) (w := w) (K := K) (mg := mg) (base := base) T F G_L_draw G_L_digit G_L_say G_L_message G_L_right
/-- of a class with an __init__ that keeps a field -/
def InitAt (K : PySem.W.Frag) (C : Addr) (q : Str) (i : Nat) : Prop := ∃ (f : Addr) (fd : FuncData), PySem.W.findIn K (.ref C) "__init__" = some (some (.ref f)) ∧ PySem.W.typeIn K (.ref f) = some (.type "function") ∧ FunD K "__init__" q (defArgs (initS i)) (defBody (initS i)) (defScope (initS i)) [.non] [] f fd
theorem initAt_of {K : PySem.W.Frag} {C f : Addr} {q : Str} {i : Nat} (a : PySem.W.findIn K (.ref C) "__init__" = some (some (.ref f))) (t : PySem.W.typeIn K (.ref f) = some (.type "function")) (F : ∃ fd, FunD K "__init__" q (defArgs (initS i)) (defBody (initS i)) (defScope (initS i)) [.non] [] f fd) : InitAt K C q i := by
  obtain ⟨fd, F⟩ := F
  exact ⟨f, fd, a, t, F⟩
structure ExcEnd (K : PySem.W.Frag) (mg : Str → Option Value) (CP CM CB : Addr) : Prop where
  aP : PySem.W.nsIn K mainGlobals "BadPrices" = some (some (.ref CP))
  aM : PySem.W.nsIn K mainGlobals "BadMessage" = some (some (.ref CM))
  aB : PySem.W.nsIn K mainGlobals "BadPaper" = some (some (.ref CB))
  oP : OexC K CP
  oM : OexC K CM
  oB : OexC K CB
  nP : PySem.W.findIn K (.ref CP) "number" = some none
  nM : PySem.W.findIn K (.ref CM) "number" = some none
  nB : PySem.W.findIn K (.ref CB) "place" = some none
  iP : InitAt K CP "BadPrices.__init__" 6
  iM : InitAt K CM "BadMessage.__init__" 7
  iB : InitAt K CB "BadPaper.__init__" 9
  TK : KindTxt K mg CP CM
  exB : PySem.W.exmOne K (.ref CB) (.ref CB) = some true
  xPP : PySem.W.exmOne K (.ref CP) (.ref CP) = some true
  xMP : PySem.W.exmOne K (.ref CM) (.ref CP) = some false
  xMM : PySem.W.exmOne K (.ref CM) (.ref CM) = some true
section
variable {P : Program} {w : World} {K : PySem.W.Frag} {mg : Str → Option Value} {base h : Heap} {CP CM CB C0 : Addr}
theorem ExcEnd.xP (E : ExcEnd K mg CP CM CB) (X : K.In h) (G : h.Ns mainGlobals mg) (R : RingTxt K mg C0) : XTxt P w K mg base "BadPrices" CP "number" := by
  obtain ⟨f, fd, h1, h2, F⟩ := E.iP
  exact x_prices (PySem.W.mg_of X G E.aP) R E.oP E.nP h1 h2 F
theorem ExcEnd.xM (E : ExcEnd K mg CP CM CB) (X : K.In h) (G : h.Ns mainGlobals mg) (R : RingTxt K mg C0) : XTxt P w K mg base "BadMessage" CM "number" := by
  obtain ⟨f, fd, h1, h2, F⟩ := E.iM
  exact x_message (PySem.W.mg_of X G E.aM) R E.oM E.nM h1 h2 F
theorem ExcEnd.xB (E : ExcEnd K mg CP CM CB) (X : K.In h) (G : h.Ns mainGlobals mg) (R : RingTxt K mg C0) : XTxt P w K mg base "BadPaper" CB "place" := by
  obtain ⟨f, fd, h1, h2, F⟩ := E.iB
  exact x_paper (PySem.W.mg_of X G E.aB) R E.oB E.nB h1 h2 F
end
end K5
set_option Elab.async false
set_option linter.all false
set_option maxRecDepth 100000
set_option maxHeartbeats 0
open PySem PySem.W PyProof.Rows in
theorem PySem.Challenge.cw_ringdown_k50_whole_papers_of_changes_holds : PySem.Challenge.rw_ringdown_k50_whole_papers_of_changes.Holds := by
  refine k50head ?_
  k_fill
  refine K5.walk_law rfl ?hdf (fun w h Y => PySem.W.kIn_of Y) ?F
  case hdf => rfl
  case F =>
    intro w mg fa h KX G hmg
    have hmg2 : mg "law" = some (.ref fa) := hmg
    have d_is_whole : K5.DefAt (L2.KOf KX) mg "is_whole" K5.s_is_whole := by
      unfold L2.KOf
      refine' K5.defAt_of KX G ?a ?l ?c ?k
      (case a => k_is)
      (case l => k_is)
      (case c => k_is)
      (case k => k_is)
    have d_is_among : K5.DefAt (L2.KOf KX) mg "is_among" K5.s_is_among := by
      unfold L2.KOf
      refine' K5.defAt_of KX G ?a ?l ?c ?k
      (case a => k_is)
      (case l => k_is)
      (case c => k_is)
      (case k => k_is)
    have d_is_name : K5.DefAt (L2.KOf KX) mg "is_name" K5.s_is_name := by
      unfold L2.KOf
      refine' K5.defAt_of KX G ?a ?l ?c ?k
      (case a => k_is)
      (case l => k_is)
      (case c => k_is)
      (case k => k_is)
    have d_cost_rows : K5.DefAt (L2.KOf KX) mg "cost_rows" K5.s_cost_rows := by
      unfold L2.KOf
      refine' K5.defAt_of KX G ?a ?l ?c ?k
      (case a => k_is)
      (case l => k_is)
      (case c => k_is)
      (case k => k_is)
    have d_steps_back : K5.DefAt (L2.KOf KX) mg "steps_back" K5.s_steps_back := by
      unfold L2.KOf
      refine' K5.defAt_of KX G ?a ?l ?c ?k
      (case a => k_is)
      (case l => k_is)
      (case c => k_is)
      (case k => k_is)
    have d_own_steps : K5.DefAt (L2.KOf KX) mg "own_steps" K5.s_own_steps := by
      unfold L2.KOf
      refine' K5.defAt_of KX G ?a ?l ?c ?k
      (case a => k_is)
      (case l => k_is)
      (case c => k_is)
      (case k => k_is)
    have d_is_step : K5.DefAt (L2.KOf KX) mg "is_step" K5.s_is_step := by
      unfold L2.KOf
      refine' K5.defAt_of KX G ?a ?l ?c ?k
      (case a => k_is)
      (case l => k_is)
      (case c => k_is)
      (case k => k_is)
    have d_can_go : K5.DefAt (L2.KOf KX) mg "can_go" K5.s_can_go := by
      unfold L2.KOf
      refine' K5.defAt_of KX G ?a ?l ?c ?k
      (case a => k_is)
      (case l => k_is)
      (case c => k_is)
      (case k => k_is)
    have d_are_potentials : K5.DefAt (L2.KOf KX) mg "are_potentials" K5.s_are_potentials := by
      unfold L2.KOf
      refine' K5.defAt_of KX G ?a ?l ?c ?k
      (case a => k_is)
      (case l => k_is)
      (case c => k_is)
      (case k => k_is)
    have d_limits_at : K5.DefAt (L2.KOf KX) mg "limits_at" K5.s_limits_at := by
      unfold L2.KOf
      refine' K5.defAt_of KX G ?a ?l ?c ?k
      (case a => k_is)
      (case l => k_is)
      (case c => k_is)
      (case k => k_is)
    have d_all_hold : K5.DefAt (L2.KOf KX) mg "all_hold" K5.s_all_hold := by
      unfold L2.KOf
      refine' K5.defAt_of KX G ?a ?l ?c ?k
      (case a => k_is)
      (case l => k_is)
      (case c => k_is)
      (case k => k_is)
    have d_L_is_word : K5.DefAt (L2.KOf KX) mg "_law_is_word" K5.s_L_is_word := by
      unfold L2.KOf
      refine' K5.defAt_of KX G ?a ?l ?c ?k
      (case a => k_is)
      (case l => k_is)
      (case c => k_is)
      (case k => k_is)
    have d_L_are_rows : K5.DefAt (L2.KOf KX) mg "_law_are_rows" K5.s_L_are_rows := by
      unfold L2.KOf
      refine' K5.defAt_of KX G ?a ?l ?c ?k
      (case a => k_is)
      (case l => k_is)
      (case c => k_is)
      (case k => k_is)
    have d_L_walk : K5.DefAt (L2.KOf KX) mg "_law_walk" K5.s_L_walk := by
      unfold L2.KOf
      refine' K5.defAt_of KX G ?a ?l ?c ?k
      (case a => k_is)
      (case l => k_is)
      (case c => k_is)
      (case k => k_is)
    have d_L_is_paper : K5.DefAt (L2.KOf KX) mg "_law_is_paper" K5.s_L_is_paper := by
      unfold L2.KOf
      refine' K5.defAt_of KX G ?a ?l ?c ?k
      (case a => k_is)
      (case l => k_is)
      (case c => k_is)
      (case k => k_is)
    have d_need_message : K5.DefAt (L2.KOf KX) mg "need_message" K5.s_need_message := by
      unfold L2.KOf
      refine' K5.defAt_of KX G ?a ?l ?c ?k
      (case a => k_is)
      (case l => k_is)
      (case c => k_is)
      (case k => k_is)
    have d_need_prices : K5.DefAt (L2.KOf KX) mg "need_prices" K5.s_need_prices := by
      unfold L2.KOf
      refine' K5.defAt_of KX G ?a ?l ?c ?k
      (case a => k_is)
      (case l => k_is)
      (case c => k_is)
      (case k => k_is)
    have d_need_pair : K5.DefAt (L2.KOf KX) mg "need_pair" K5.s_need_pair := by
      unfold L2.KOf
      refine' K5.defAt_of KX G ?a ?l ?c ?k
      (case a => k_is)
      (case l => k_is)
      (case c => k_is)
      (case k => k_is)
    have d_change_paper : K5.DefAt (L2.KOf KX) mg "change_paper" K5.s_change_paper := by
      unfold L2.KOf
      refine' K5.defAt_of KX G ?a ?l ?c ?k
      (case a => k_is)
      (case l => k_is)
      (case c => k_is)
      (case k => k_is)
    have d_made_by : K5.DefAt (L2.KOf KX) mg "made_by" K5.s_made_by := by
      unfold L2.KOf
      refine' K5.defAt_of KX G ?a ?l ?c ?k
      (case a => k_is)
      (case l => k_is)
      (case c => k_is)
      (case k => k_is)
    have d_check_change : K5.DefAt (L2.KOf KX) mg "check_change" K5.s_check_change := by
      unfold L2.KOf
      refine' K5.defAt_of KX G ?a ?l ?c ?k
      (case a => k_is)
      (case l => k_is)
      (case c => k_is)
      (case k => k_is)
    have d_L_mixed : K5.DefAt (L2.KOf KX) mg "_law_mixed" K5.s_L_mixed := by
      unfold L2.KOf
      refine' K5.defAt_of KX G ?a ?l ?c ?k
      (case a => k_is)
      (case l => k_is)
      (case c => k_is)
      (case k => k_is)
    have d_L_draw : K5.DefAt (L2.KOf KX) mg "_law_draw" K5.s_L_draw := by
      unfold L2.KOf
      refine' K5.defAt_of KX G ?a ?l ?c ?k
      (case a => k_is)
      (case l => k_is)
      (case c => k_is)
      (case k => k_is)
    have d_L_digit : K5.DefAt (L2.KOf KX) mg "_law_digit" K5.s_L_digit := by
      unfold L2.KOf
      refine' K5.defAt_of KX G ?a ?l ?c ?k
      (case a => k_is)
      (case l => k_is)
      (case c => k_is)
      (case k => k_is)
    have d_L_say : K5.DefAt (L2.KOf KX) mg "_law_say" K5.s_L_say := by
      unfold L2.KOf
      refine' K5.defAt_of KX G ?a ?l ?c ?k
      (case a => k_is)
      (case l => k_is)
      (case c => k_is)
      (case k => k_is)
    have d_L_near : K5.DefAt (L2.KOf KX) mg "_law_near" K5.s_L_near := by
      unfold L2.KOf
      refine' K5.defAt_of KX G ?a ?l ?c ?k
      (case a => k_is)
      (case l => k_is)
      (case c => k_is)
      (case k => k_is)
    have d_L_message : K5.DefAt (L2.KOf KX) mg "_law_message" K5.s_L_message := by
      unfold L2.KOf
      refine' K5.defAt_of KX G ?a ?l ?c ?k
      (case a => k_is)
      (case l => k_is)
      (case c => k_is)
      (case k => k_is)
    have d_L_bent : K5.DefAt (L2.KOf KX) mg "_law_bent" K5.s_L_bent := by
      unfold L2.KOf
      refine' K5.defAt_of KX G ?a ?l ?c ?k
      (case a => k_is)
      (case l => k_is)
      (case c => k_is)
      (case k => k_is)
    have d_L_papers : K5.DefAt (L2.KOf KX) mg "_law_papers" K5.s_L_papers := by
      unfold L2.KOf
      refine' K5.defAt_of KX G ?a ?l ?c ?k
      (case a => k_is)
      (case l => k_is)
      (case c => k_is)
      (case k => k_is)
    have d_L_other : K5.DefAt (L2.KOf KX) mg "_law_other" K5.s_L_other := by
      unfold L2.KOf
      refine' K5.defAt_of KX G ?a ?l ?c ?k
      (case a => k_is)
      (case l => k_is)
      (case c => k_is)
      (case k => k_is)
    have d_L_slid : K5.DefAt (L2.KOf KX) mg "_law_slid" K5.s_L_slid := by
      unfold L2.KOf
      refine' K5.defAt_of KX G ?a ?l ?c ?k
      (case a => k_is)
      (case l => k_is)
      (case c => k_is)
      (case k => k_is)
    have d_L_due : K5.DefAt (L2.KOf KX) mg "_law_due" K5.s_L_due := by
      unfold L2.KOf
      refine' K5.defAt_of KX G ?a ?l ?c ?k
      (case a => k_is)
      (case l => k_is)
      (case c => k_is)
      (case k => k_is)
    have d_L_kinds : K5.DefAt (L2.KOf KX) mg "_law_kinds" K5.s_L_kinds := by
      unfold L2.KOf
      refine' K5.defAt_of KX G ?a ?l ?c ?k
      (case a => k_is)
      (case l => k_is)
      (case c => k_is)
      (case k => k_is)
    have d_L_told : K5.DefAt (L2.KOf KX) mg "_law_told" K5.s_L_told := by
      unfold L2.KOf
      refine' K5.defAt_of KX G ?a ?l ?c ?k
      (case a => k_is)
      (case l => k_is)
      (case c => k_is)
      (case k => k_is)
    have d_L_right : K5.DefAt (L2.KOf KX) mg "_law_right" K5.s_L_right := by
      unfold L2.KOf
      refine' K5.defAt_of KX G ?a ?l ?c ?k
      (case a => k_is)
      (case l => k_is)
      (case c => k_is)
      (case k => k_is)
    have d_law : K5.DefAt (L2.KOf KX) mg "law" K5.s_law := by
      unfold L2.KOf
      refine' K5.defAt_of KX G ?a ?l ?c ?k
      (case a => k_is)
      (case l => k_is)
      (case c => k_is)
      (case k => k_is)
    have n_len : mg "len" = none := by
      refine' PySem.W.mg_none_of KX G ?a
      (case a => k_is)
    have n_isinstance : mg "isinstance" = none := by
      refine' PySem.W.mg_none_of KX G ?a
      (case a => k_is)
    have n_tuple : mg "tuple" = none := by
      refine' PySem.W.mg_none_of KX G ?a
      (case a => k_is)
    have n_list : mg "list" = none := by
      refine' PySem.W.mg_none_of KX G ?a
      (case a => k_is)
    have n_all : mg "all" = none := by
      refine' PySem.W.mg_none_of KX G ?a
      (case a => k_is)
    have n_min : mg "min" = none := by
      refine' PySem.W.mg_none_of KX G ?a
      (case a => k_is)
    have n_sum : mg "sum" = none := by
      refine' PySem.W.mg_none_of KX G ?a
      (case a => k_is)
    have n_repr : mg "repr" = none := by
      refine' PySem.W.mg_none_of KX G ?a
      (case a => k_is)
    have n_range : mg "range" = none := by
      refine' PySem.W.mg_none_of KX G ?a
      (case a => k_is)
    have n_enumerate : mg "enumerate" = none := by
      refine' PySem.W.mg_none_of KX G ?a
      (case a => k_is)
    have n_int : mg "int" = none := by
      refine' PySem.W.mg_none_of KX G ?a
      (case a => k_is)
    have n_str : mg "str" = none := by
      refine' PySem.W.mg_none_of KX G ?a
      (case a => k_is)
    have n_bool : mg "bool" = none := by
      refine' PySem.W.mg_none_of KX G ?a
      (case a => k_is)
    have n_ValueError : mg "ValueError" = none := by
      refine' PySem.W.mg_none_of KX G ?a
      (case a => k_is)
    have n_LookupError : mg "LookupError" = none := by
      refine' PySem.W.mg_none_of KX G ?a
      (case a => k_is)
    have n_RuntimeError : mg "RuntimeError" = none := by
      refine' PySem.W.mg_none_of KX G ?a
      (case a => k_is)
    have g_LETTERS : ∃ u, mg "LETTERS" = some u ∧ L2.RelV (.str K5.alph) u := by
      refine' K5.gl_str KX G ?a
      (case a => k_is)
    have g_MOST_LETTERS : ∃ u, mg "MOST_LETTERS" = some u ∧ L2.RelV (.int 8) u := by
      refine' K5.gl_int KX G ?a
      (case a => k_is)
    have g_MOST_WORDS : ∃ u, mg "MOST_WORDS" = some u ∧ L2.RelV (.int 6) u := by
      refine' K5.gl_int KX G ?a
      (case a => k_is)
    have g_MANY_PRICES : ∃ u, mg "MANY_PRICES" = some u ∧ L2.RelV (.int 6) u := by
      refine' K5.gl_int KX G ?a
      (case a => k_is)
    have g_MOST_PRICE : ∃ u, mg "MOST_PRICE" = some u ∧ L2.RelV (.int 9) u := by
      refine' K5.gl_int KX G ?a
      (case a => k_is)
    have g_MOST_STEPS : ∃ u, mg "MOST_STEPS" = some u ∧ L2.RelV (.int 12) u := by
      refine' K5.gl_int KX G ?a
      (case a => k_is)
    have g_PRICED : ∃ p, mg "PRICED" = some (.ref p) ∧ L2.KDct (L2.KOf KX) w p "left" (.int 2) ∧ L2.KDct (L2.KOf KX) w p "put" (.int 3) ∧ L2.KDct (L2.KOf KX) w p "other" (.int 4) := by
      unfold L2.KOf
      refine' ⟨_, PySem.W.mg_of KX G ?a, K5.kd_dct ?l1 ?k1 ?a1, K5.kd_dct ?l2 ?k2 ?a2, K5.kd_dct ?l3 ?k3 ?a3⟩
      (case a => k_is)
      (case l1 => k_is)
      (case k1 => k_keys)
      (case a1 => k_is)
      (case l2 => k_is)
      (case k2 => k_keys)
      (case a2 => k_is)
      (case l3 => k_is)
      (case k3 => k_keys)
      (case a3 => k_is)
    have T : K5.Txt w (L2.KOf KX) mg := ⟨n_len, n_isinstance, n_tuple, n_list, n_all, n_min, n_sum, n_repr, n_range, n_enumerate, n_int, n_str, n_bool, n_ValueError, n_LookupError, n_RuntimeError, g_LETTERS, g_MOST_LETTERS, g_MOST_WORDS, g_MANY_PRICES, g_MOST_PRICE, g_MOST_STEPS, g_PRICED⟩
    have R : ∃ C0, K5.RingTxt (L2.KOf KX) mg C0 := by
      unfold L2.KOf
      refine' ⟨_, PySem.W.mg_of KX G ?a, ?c, ?r, ?g⟩
      (case a => k_is)
      (case c => k_is)
      (case r => k_is)
      (case g => k_is)
    obtain ⟨C0, R⟩ := R
    have E : ∃ CP CM CB, K5.ExcEnd (L2.KOf KX) mg CP CM CB := by
      unfold L2.KOf
      refine' ⟨_, _, _, ?aP, ?aM, ?aB, ?oP, ?oM, ?oB, ?nP, ?nM, ?nB, ?iP, ?iM, ?iB, ?TK, ?exB, ?xPP, ?xMP, ?xMM⟩
      (case aP => k_is)
      (case aM => k_is)
      (case aB => k_is)
      (case nP => k_is)
      (case nM => k_is)
      (case nB => k_is)
      (case oP =>
        refine' K5.oexc_of ?l ?r ?s ?e ?t ?k
        (case l => k_is)
        (case r => decide +kernel)
        (case s => k_is)
        (case e => k_is)
        (case t => k_is)
        (case k => k_is))
      (case oM =>
        refine' K5.oexc_of ?l ?r ?s ?e ?t ?k
        (case l => k_is)
        (case r => decide +kernel)
        (case s => k_is)
        (case e => k_is)
        (case t => k_is)
        (case k => k_is))
      (case oB =>
        refine' K5.oexc_of ?l ?r ?s ?e ?t ?k
        (case l => k_is)
        (case r => decide +kernel)
        (case s => k_is)
        (case e => k_is)
        (case t => k_is)
        (case k => k_is))
      (case iP =>
        refine' K5.initAt_of ?a ?t ?f
        (case a => k_is)
        (case t => k_is)
        (case f => (refine' K5.fund_of ?l ?c ?d ?k; (case l => k_is); (case c => k_is); (case d => k_is); (case k => k_is))))
      (case iM =>
        refine' K5.initAt_of ?a ?t ?f
        (case a => k_is)
        (case t => k_is)
        (case f => (refine' K5.fund_of ?l ?c ?d ?k; (case l => k_is); (case c => k_is); (case d => k_is); (case k => k_is))))
      (case iB =>
        refine' K5.initAt_of ?a ?t ?f
        (case a => k_is)
        (case t => k_is)
        (case f => (refine' K5.fund_of ?l ?c ?d ?k; (case l => k_is); (case c => k_is); (case d => k_is); (case k => k_is))))
      (case exB =>
        refine' PySem.W.exm_ref ?a ?b ?c ?d
        (case a => k_is)
        (case b => k_is)
        (case c => k_is)
        (case d => k_is))
      (case xPP =>
        refine' PySem.W.exm_ref ?a ?b ?c ?d
        (case a => k_is)
        (case b => k_is)
        (case c => k_is)
        (case d => k_is))
      (case xMP =>
        refine' PySem.W.exm_ref ?a ?b ?c ?d
        (case a => k_is)
        (case b => k_is)
        (case c => k_is)
        (case d => k_is))
      (case xMM =>
        refine' PySem.W.exm_ref ?a ?b ?c ?d
        (case a => k_is)
        (case b => k_is)
        (case c => k_is)
        (case d => k_is))
      (case TK =>
        refine' ⟨?eP, ?eM, ?xP, ?xM, ?noP, ?noM, ?k_BadRow, ?k_BadTree, ?k_BadAway, ?k_BadCall, ?k_BadPrices, ?k_BadMessage, ?k_BadHeard, ?k_BadPaper, ?k_Twice, ?k_OutOfPlace, ?k_TooGreat, ?k_NoName, ?k_NoHappening, ?k_NoMark, ?k_Busy, ?k_TooLate, ?k_RingError, ?vP, ?vM, ?k_MissError, ?lP, ?lM, ?k_PhoneError, ?rP, ?rM⟩
        (case eP => (refine' ⟨?a, ?b, ?c, ?d, ?e, ?f, ?g, ?h⟩; (case a => k_is); (case b => k_is); (case c => k_is); (case d => k_is); (case e => k_is); (case f => k_is); (case g => k_is); (case h => k_is)))
        (case eM => (refine' ⟨?a, ?b, ?c, ?d, ?e, ?f, ?g, ?h⟩; (case a => k_is); (case b => k_is); (case c => k_is); (case d => k_is); (case e => k_is); (case f => k_is); (case g => k_is); (case h => k_is)))
        (case xP => (refine' ⟨?a, ?b, ?c, ?d⟩; (case a => k_is); (case b => k_is); (case c => k_is); (case d => k_is)))
        (case xM => (refine' ⟨?a, ?b, ?c, ?d⟩; (case a => k_is); (case b => k_is); (case c => k_is); (case d => k_is)))
        (case noP => k_is)
        (case noM => k_is)
        (case k_BadRow => (refine' K5.kd_of KX G ?a ?d ?t ?sp ?sm ?np ?nm; (case a => k_is); (case d => k_is); (case t => k_is); (case sp => k_is); (case sm => k_is); (case np => decide +kernel); (case nm => decide +kernel)))
        (case k_BadTree => (refine' K5.kd_of KX G ?a ?d ?t ?sp ?sm ?np ?nm; (case a => k_is); (case d => k_is); (case t => k_is); (case sp => k_is); (case sm => k_is); (case np => decide +kernel); (case nm => decide +kernel)))
        (case k_BadAway => (refine' K5.kd_of KX G ?a ?d ?t ?sp ?sm ?np ?nm; (case a => k_is); (case d => k_is); (case t => k_is); (case sp => k_is); (case sm => k_is); (case np => decide +kernel); (case nm => decide +kernel)))
        (case k_BadCall => (refine' K5.kd_of KX G ?a ?d ?t ?sp ?sm ?np ?nm; (case a => k_is); (case d => k_is); (case t => k_is); (case sp => k_is); (case sm => k_is); (case np => decide +kernel); (case nm => decide +kernel)))
        (case k_BadPrices => (refine' K5.kd_of KX G ?a ?d ?t ?sp ?sm ?np ?nm; (case a => k_is); (case d => k_is); (case t => k_is); (case sp => k_is); (case sm => k_is); (case np => decide +kernel); (case nm => decide +kernel)))
        (case k_BadMessage => (refine' K5.kd_of KX G ?a ?d ?t ?sp ?sm ?np ?nm; (case a => k_is); (case d => k_is); (case t => k_is); (case sp => k_is); (case sm => k_is); (case np => decide +kernel); (case nm => decide +kernel)))
        (case k_BadHeard => (refine' K5.kd_of KX G ?a ?d ?t ?sp ?sm ?np ?nm; (case a => k_is); (case d => k_is); (case t => k_is); (case sp => k_is); (case sm => k_is); (case np => decide +kernel); (case nm => decide +kernel)))
        (case k_BadPaper => (refine' K5.kd_of KX G ?a ?d ?t ?sp ?sm ?np ?nm; (case a => k_is); (case d => k_is); (case t => k_is); (case sp => k_is); (case sm => k_is); (case np => decide +kernel); (case nm => decide +kernel)))
        (case k_Twice => (refine' K5.kd_of KX G ?a ?d ?t ?sp ?sm ?np ?nm; (case a => k_is); (case d => k_is); (case t => k_is); (case sp => k_is); (case sm => k_is); (case np => decide +kernel); (case nm => decide +kernel)))
        (case k_OutOfPlace => (refine' K5.kd_of KX G ?a ?d ?t ?sp ?sm ?np ?nm; (case a => k_is); (case d => k_is); (case t => k_is); (case sp => k_is); (case sm => k_is); (case np => decide +kernel); (case nm => decide +kernel)))
        (case k_TooGreat => (refine' K5.kd_of KX G ?a ?d ?t ?sp ?sm ?np ?nm; (case a => k_is); (case d => k_is); (case t => k_is); (case sp => k_is); (case sm => k_is); (case np => decide +kernel); (case nm => decide +kernel)))
        (case k_NoName => (refine' K5.kd_of KX G ?a ?d ?t ?sp ?sm ?np ?nm; (case a => k_is); (case d => k_is); (case t => k_is); (case sp => k_is); (case sm => k_is); (case np => decide +kernel); (case nm => decide +kernel)))
        (case k_NoHappening => (refine' K5.kd_of KX G ?a ?d ?t ?sp ?sm ?np ?nm; (case a => k_is); (case d => k_is); (case t => k_is); (case sp => k_is); (case sm => k_is); (case np => decide +kernel); (case nm => decide +kernel)))
        (case k_NoMark => (refine' K5.kd_of KX G ?a ?d ?t ?sp ?sm ?np ?nm; (case a => k_is); (case d => k_is); (case t => k_is); (case sp => k_is); (case sm => k_is); (case np => decide +kernel); (case nm => decide +kernel)))
        (case k_Busy => (refine' K5.kd_of KX G ?a ?d ?t ?sp ?sm ?np ?nm; (case a => k_is); (case d => k_is); (case t => k_is); (case sp => k_is); (case sm => k_is); (case np => decide +kernel); (case nm => decide +kernel)))
        (case k_TooLate => (refine' K5.kd_of KX G ?a ?d ?t ?sp ?sm ?np ?nm; (case a => k_is); (case d => k_is); (case t => k_is); (case sp => k_is); (case sm => k_is); (case np => decide +kernel); (case nm => decide +kernel)))
        (case k_RingError => (refine' K5.kd_of KX G ?a ?d ?t ?sp ?sm ?np ?nm; (case a => k_is); (case d => k_is); (case t => k_is); (case sp => k_is); (case sm => k_is); (case np => decide +kernel); (case nm => decide +kernel)))
        (case vP => (refine' K5.kit_type ?m ?s; (case m => decide +kernel); (case s => k_is)))
        (case vM => (refine' K5.kit_type ?m ?s; (case m => decide +kernel); (case s => k_is)))
        (case k_MissError => (refine' K5.kd_of KX G ?a ?d ?t ?sp ?sm ?np ?nm; (case a => k_is); (case d => k_is); (case t => k_is); (case sp => k_is); (case sm => k_is); (case np => decide +kernel); (case nm => decide +kernel)))
        (case lP => (refine' K5.kit_type ?m ?s; (case m => decide +kernel); (case s => k_is)))
        (case lM => (refine' K5.kit_type ?m ?s; (case m => decide +kernel); (case s => k_is)))
        (case k_PhoneError => (refine' K5.kd_of KX G ?a ?d ?t ?sp ?sm ?np ?nm; (case a => k_is); (case d => k_is); (case t => k_is); (case sp => k_is); (case sm => k_is); (case np => decide +kernel); (case nm => decide +kernel)))
        (case rP => (refine' K5.kit_type ?m ?s; (case m => decide +kernel); (case s => k_is)))
        (case rM => (refine' K5.kit_type ?m ?s; (case m => decide +kernel); (case s => k_is))))
    obtain ⟨CP, CM, CB, E⟩ := E
    obtain ⟨f, fd, hf, F⟩ := d_law.ex
    obtain rfl : f = fa := Value.ref.inj (Option.some.inj (hf.symm.trans hmg2))
    refine ⟨fd, K5.law_binds F, fun base hK hN => K5.finish T d_is_whole d_is_among d_is_name d_cost_rows d_steps_back d_own_steps d_is_step d_can_go d_are_potentials d_limits_at d_all_hold d_L_is_word d_L_are_rows d_L_walk d_L_is_paper d_need_message d_need_prices d_need_pair d_change_paper d_made_by d_check_change d_L_mixed d_L_draw d_L_digit d_L_say d_L_near d_L_message d_L_bent d_L_papers d_L_other d_L_slid d_L_due d_L_kinds d_L_told d_L_right (E.xP KX G R) (E.xM KX G R) (E.xB KX G R) E.TK E.exB E.xPP E.xMP E.xMM F⟩
